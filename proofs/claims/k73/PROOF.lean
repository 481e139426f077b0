import PyProof.Rows.All
import Wide.All
import OpenK.AllK
import Wide.FinOn
import HandS.ForMost
import HandS.Wide
import HandS.Flow
import HandS.Exc
import HandS.ExcOwn
import HandS.ExcIs
import HandS.WordsExc
import HandS.ExcValue
import HandS.TupMul
import HandS.TupAny
import HandS.Style
import KE.KRevSl
import HandS.IsInst
import HandS.NoneIn
import HandS.Zip
import PyProof.Draws
import HandS.More
import HandS.Iter
import HandS.Text
import HandS.Codes
import HandS.Conv
import HandS.TupLe
import PySem.Challenge.RW_nearlaid_k73_two_shown
set_option Elab.async false
set_option linter.all false
set_option maxRecDepth 100000
/-! ND: data values over the abstract heap, and the judgements that speak of data alone. -/
namespace ND
open PySem PySem.Spec PyProof.Rows L2

/-- the kinds of refusal -/
inductive EC where
  | near | num | tab | name | row | ask | bound | many | sums
  deriving DecidableEq
def EC.nm : EC → Str
  | .near => "NearError"
  | .num => "NoNumber"
  | .tab => "NoTable"
  | .name => "NoName"
  | .row => "NoRow"
  | .ask => "NoAsk"
  | .bound => "NoBound"
  | .many => "TooMany"
  | .sums => "NoSums"
inductive D where
  | non | bl (b : Bool) | int (i : Int) | str (x : Str) | tup (l : List D) | lst (l : List D) | ref (a : Addr) | kls (l : List D) | fn (x : Str)
inductive Cell where
  | lst (l : List D)
  | ins (C : Addr) (fs : List (Str × D))
  | dK (kvs : List (Key × D))
  | dT (kvs : List (List Key × D))
  | exc (e : EC)
abbrev Store := Addr → Option Cell
abbrev Blk := Addr → Prop
abbrev Slots := List (Option D)
def sput (S : Store) (a : Addr) (c : Cell) : Store := fun b => if b = a then some c else S b
theorem sput_same {S : Store} {a : Addr} {c : Cell} : sput S a c a = some c := by unfold sput; rw [if_pos rfl]
theorem sput_ne {S : Store} {a b : Addr} {c : Cell} (h : b ≠ a) : sput S a c b = S b := by unfold sput; rw [if_neg h]
theorem sput_sput {S : Store} {a : Addr} {c c' : Cell} : sput (sput S a c) a c' = sput S a c' := by
  funext b; unfold sput; split <;> rfl

def KTup (K : PySem.W.Frag) (a : Addr) (xs : List V) : Prop :=
  ∃ (o : Obj) (its : Array Value) (n : Nat), K.lookup a = some o ∧ o.cls = .type "tuple" ∧ o.data = .seq its n ∧ its.size ≤ sizeLine ∧ Vals xs its.toList

/-- a list of the written part (the script may be one) -/
def KLst (K : PySem.W.Frag) (a : Addr) (xs : List V) : Prop :=
  ∃ (o : Obj) (its : Array Value) (n : Nat), K.lookup a = some o ∧ o.cls = .type "list" ∧ o.dict = none ∧ o.data = .seq its n ∧ its.size ≤ sizeLine ∧ Vals xs its.toList

/-- a refusal's object, caught -/
def ExT (C a : Addr) : HO := .ext fun h => ∃ (oe : Obj) (fv : Array Value), h.get? a = some oe ∧ Zc (.ref C) none oe ∧ oe.data = .fields fv
section
variable (K : PySem.W.Frag) (B : Blk) (S : Store) (H : Hp)
def TupAt (a : Addr) (xs : List V) : Prop := (Rd H a (.tup xs) ∧ S a = none ∧ ¬ B a) ∨ KTup K a xs
def LstAt (a : Addr) (xs : List V) : Prop := Rd H a (.lst xs) ∧ S a = none ∧ ¬ B a
mutual
def RepD : D → V → Prop
  | .non, v => v = .non
  | .bl b, v => v = .bl b
  | .int i, v => v = .int i
  | .str x, v => v = .str x
  | .tup l, v => ∃ a xs, v = .ref a ∧ TupAt K B S H a xs ∧ RepL l xs
  | .lst l, v => ∃ a xs, v = .ref a ∧ LstAt B S H a xs ∧ RepL l xs
  | .ref a, v => v = .ref a
  | .fn x, v => ∃ f, PySem.W.nsIn K mainGlobals x = some (some (.ref f)) ∧ v = .ref f
  | .kls l, v => ∃ a xs, v = .ref a ∧ KLst K a xs ∧ RepL l xs
def RepL : List D → List V → Prop
  | [], xs => xs = []
  | d :: l, xs => ∃ v r, xs = v :: r ∧ RepD d v ∧ RepL l r
end
def RepO : Option D → Option V → Prop
  | none, _ => True
  | some d, some v => RepD K B S H d v
  | some _, none => False
def RepF (fs : List (Str × D)) (gs : List (Str × V)) : Prop := Paired (fun (p : Str × D) (q : Str × V) => p.1 = q.1 ∧ RepD K B S H p.2 q.2) fs gs
def RepK {κ : Type} (fs : List (κ × D)) (gs : List (κ × V)) : Prop := Paired (fun (p : κ × D) (q : κ × V) => p.1 = q.1 ∧ RepD K B S H p.2 q.2) fs gs
def RepC (a : Addr) : Cell → Prop
  | .lst l => ∃ xs, H a = some (.lst xs) ∧ RepL K B S H l xs
  | .ins C fs => ∃ dx gs, H a = some (.ins C dx gs) ∧ RepF K B S H fs gs
  | .dK kvs => ∃ gs, H a = some (.dK gs) ∧ RepK K B S H kvs gs
  | .dT kvs => ∃ gs, H a = some (.dT gs) ∧ RepK K B S H kvs gs
  | .exc e => ∃ C, PySem.W.nsIn K mainGlobals e.nm = some (some (.ref C)) ∧ H a = some (ExT C a)
structure RepS : Prop where
  cell : ∀ a c, S a = some c → RepC K B S H a c
  blk : ∀ a, B a → (∃ o, H a = some o) ∧ S a = none
def RepE (env : Slots) (σ : L2.St) : Prop := env.length = σ.length ∧ ∀ (i : Nat) d, env[i]? = some (some d) → ∃ v, σ[i]? = some (some v) ∧ RepD K B S H d v
end
/-- what stays: all that is no cell -/
def Grow (S : Store) (H : Hp) (S' : Store) (H' : Hp) : Prop := ∀ a o, H a = some o → S a = none → H' a = some o ∧ S' a = none
section
variable {K : PySem.W.Frag} {B : Blk} {S S' S'' : Store} {H H' H'' : Hp}
theorem Grow.refl : Grow S H S H := fun _ _ h s => ⟨h, s⟩
theorem Grow.trans (g : Grow S H S' H') (g' : Grow S' H' S'' H'') : Grow S H S'' H'' := fun a o h s => let ⟨h1, s1⟩ := g a o h s; g' a o h1 s1
theorem Grow.rd {a : Addr} {u : HO} (g : Grow S H S' H') (r : Rd H a u) (s : S a = none) : Rd H' a u ∧ S' a = none := by
  rcases r with r | ⟨o, r⟩
  · exact ⟨.inl (g a _ r s).1, (g a _ r s).2⟩
  · exact ⟨.inr ⟨o, (g a _ r s).1⟩, (g a _ r s).2⟩
theorem TupAt.grow {a : Addr} {xs : List V} (t : TupAt K B S H a xs) (g : Grow S H S' H') : TupAt K B S' H' a xs := by
  rcases t with ⟨r, s, n⟩ | k
  · exact .inl ⟨(g.rd r s).1, (g.rd r s).2, n⟩
  · exact .inr k
theorem LstAt.grow {a : Addr} {xs : List V} (t : LstAt B S H a xs) (g : Grow S H S' H') : LstAt B S' H' a xs := by
  obtain ⟨r, s, n⟩ := t
  exact ⟨(g.rd r s).1, (g.rd r s).2, n⟩
theorem TupAt.seq {a : Addr} {xs : List V} (t : TupAt K B S H a xs) : SqT K H a xs := by
  rcases t with ⟨r, _, _⟩ | k
  · exact .inl r
  · exact .inr k
theorem LstAt.seq {a : Addr} {xs : List V} (t : LstAt B S H a xs) : SqL K H a xs := .inl t.1
mutual
theorem RepD.grow (g : Grow S H S' H') : ∀ (d : D) (v : V), RepD K B S H d v → RepD K B S' H' d v
  | .non, v, h => by unfold RepD at h ⊢; exact h
  | .bl b, v, h => by unfold RepD at h ⊢; exact h
  | .int i, v, h => by unfold RepD at h ⊢; exact h
  | .str x, v, h => by unfold RepD at h ⊢; exact h
  | .ref a, v, h => by unfold RepD at h ⊢; exact h
  | .fn x, v, h => by unfold RepD at h ⊢; exact h
  | .tup l, v, h => by
    unfold RepD at h ⊢
    obtain ⟨a, xs, e, t, r⟩ := h
    exact ⟨a, xs, e, t.grow g, RepL.grow g l xs r⟩
  | .lst l, v, h => by
    unfold RepD at h ⊢
    obtain ⟨a, xs, e, t, r⟩ := h
    exact ⟨a, xs, e, t.grow g, RepL.grow g l xs r⟩
  | .kls l, v, h => by
    unfold RepD at h ⊢
    obtain ⟨a, xs, e, t, r⟩ := h
    exact ⟨a, xs, e, t, RepL.grow g l xs r⟩
theorem RepL.grow (g : Grow S H S' H') : ∀ (l : List D) (xs : List V), RepL K B S H l xs → RepL K B S' H' l xs
  | [], xs, h => by unfold RepL at h ⊢; exact h
  | d :: l, xs, h => by
    unfold RepL at h ⊢
    obtain ⟨v, r, e, h1, h2⟩ := h
    exact ⟨v, r, e, RepD.grow g d v h1, RepL.grow g l r h2⟩
end
/- other blocked addresses -/
mutual
theorem RepD.unblk {B' : Blk} (hb : ∀ a, B' a → B a) : ∀ (d : D) (v : V), RepD K B S H d v → RepD K B' S H d v
  | .non, v, h => by unfold RepD at h ⊢; exact h
  | .bl b, v, h => by unfold RepD at h ⊢; exact h
  | .int i, v, h => by unfold RepD at h ⊢; exact h
  | .str x, v, h => by unfold RepD at h ⊢; exact h
  | .ref a, v, h => by unfold RepD at h ⊢; exact h
  | .fn x, v, h => by unfold RepD at h ⊢; exact h
  | .tup l, v, h => by
    unfold RepD at h ⊢
    obtain ⟨a, xs, e, t, r⟩ := h
    refine ⟨a, xs, e, ?_, RepL.unblk hb l xs r⟩
    rcases t with ⟨r, s, n⟩ | k
    · exact .inl ⟨r, s, fun z => n (hb a z)⟩
    · exact .inr k
  | .lst l, v, h => by
    unfold RepD at h ⊢
    obtain ⟨a, xs, e, t, r⟩ := h
    exact ⟨a, xs, e, ⟨t.1, t.2.1, fun z => t.2.2 (hb a z)⟩, RepL.unblk hb l xs r⟩
  | .kls l, v, h => by
    unfold RepD at h ⊢
    obtain ⟨a, xs, e, t, r⟩ := h
    exact ⟨a, xs, e, t, RepL.unblk hb l xs r⟩
theorem RepL.unblk {B' : Blk} (hb : ∀ a, B' a → B a) : ∀ (l : List D) (xs : List V), RepL K B S H l xs → RepL K B' S H l xs
  | [], xs, h => by unfold RepL at h ⊢; exact h
  | d :: l, xs, h => by
    unfold RepL at h ⊢
    obtain ⟨v, r, e, h1, h2⟩ := h
    exact ⟨v, r, e, RepD.unblk hb d v h1, RepL.unblk hb l r h2⟩
end
/-! lists of values -/
theorem repL_nil {xs : List V} : RepL K B S H [] xs ↔ xs = [] := by unfold RepL; exact Iff.rfl
theorem repL_cons {d : D} {l : List D} {xs : List V} : RepL K B S H (d :: l) xs ↔ ∃ v r, xs = v :: r ∧ RepD K B S H d v ∧ RepL K B S H l r := by
  constructor
  · intro h; unfold RepL at h; exact h
  · intro h; unfold RepL; exact h
theorem repL_iff : ∀ {l : List D} {xs : List V}, RepL K B S H l xs ↔ l.length = xs.length ∧ ∀ (i : Nat) d v, l[i]? = some d → xs[i]? = some v → RepD K B S H d v
  | [], xs => by
    rw [repL_nil]
    constructor
    · rintro rfl
      exact ⟨rfl, fun i d v h => by simp at h⟩
    · rintro ⟨e, _⟩
      cases xs with
      | nil => rfl
      | cons a r => simp at e
  | d :: l, xs => by
    rw [repL_cons]
    constructor
    · rintro ⟨v, r, rfl, h1, h2⟩
      obtain ⟨e, f⟩ := repL_iff.mp h2
      refine ⟨by simp [e], fun i d' v' a b => ?_⟩
      cases i with
      | zero =>
        simp at a b
        subst a b
        exact h1
      | succ i => exact f i d' v' (by simpa using a) (by simpa using b)
    · rintro ⟨e, f⟩
      cases xs with
      | nil => simp at e
      | cons v r =>
        refine ⟨v, r, rfl, f 0 d v (by simp) (by simp), repL_iff.mpr ⟨by simpa using e, fun i d' v' a b => f (i + 1) d' v' (by simpa using a) (by simpa using b)⟩⟩
theorem RepL.len {l : List D} {xs : List V} (h : RepL K B S H l xs) : l.length = xs.length := (repL_iff.mp h).1
theorem RepL.get {l : List D} {xs : List V} (h : RepL K B S H l xs) {i : Nat} {d : D} (e : l[i]? = some d) : ∃ v, xs[i]? = some v ∧ RepD K B S H d v := by
  obtain ⟨e1, f⟩ := repL_iff.mp h
  have hi : i < l.length := (List.getElem?_eq_some_iff.mp e).1
  have hx : xs[i]? = some (xs[i]'(by omega)) := List.getElem?_eq_getElem (by omega)
  exact ⟨_, hx, f i d _ e hx⟩
theorem RepL.app {l l' : List D} {xs xs' : List V} (h : RepL K B S H l xs) (h' : RepL K B S H l' xs') : RepL K B S H (l ++ l') (xs ++ xs') := by
  induction l generalizing xs with
  | nil => rw [repL_nil] at h; subst h; exact h'
  | cons d l ih =>
    obtain ⟨v, r, rfl, h1, h2⟩ := repL_cons.mp h
    exact repL_cons.mpr ⟨v, r ++ xs', rfl, h1, ih h2⟩
theorem RepL.one {d : D} {v : V} (h : RepD K B S H d v) : RepL K B S H [d] [v] := repL_cons.mpr ⟨v, [], rfl, h, repL_nil.mpr rfl⟩
theorem RepL.take {l : List D} {xs : List V} (n : Nat) (h : RepL K B S H l xs) : RepL K B S H (l.take n) (xs.take n) := by
  obtain ⟨e, f⟩ := repL_iff.mp h
  refine repL_iff.mpr ⟨by simp [e], fun i d v a b => ?_⟩
  rw [List.getElem?_take] at a b
  by_cases hi : i < n
  · rw [if_pos hi] at a b
    exact f i d v a b
  · rw [if_neg hi] at a
    cases a
theorem RepL.drop {l : List D} {xs : List V} (n : Nat) (h : RepL K B S H l xs) : RepL K B S H (l.drop n) (xs.drop n) := by
  obtain ⟨e, f⟩ := repL_iff.mp h
  refine repL_iff.mpr ⟨by simp [e], fun i d v a b => ?_⟩
  rw [List.getElem?_drop] at a b
  exact f _ d v a b
theorem RepL.set {l : List D} {xs : List V} (n : Nat) {d : D} {v : V} (h : RepL K B S H l xs) (hd : RepD K B S H d v) : RepL K B S H (l.set n d) (xs.set n v) := by
  obtain ⟨e, f⟩ := repL_iff.mp h
  refine repL_iff.mpr ⟨by simp [e], fun i d' v' a b => ?_⟩
  rw [List.getElem?_set] at a b
  by_cases hi : n = i
  · rw [if_pos hi] at a b
    split at a
    · split at b
      · cases a; cases b; exact hd
      · cases b
    · cases a
  · rw [if_neg hi] at a b
    exact f i d' v' a b
theorem RepL.rev {l : List D} {xs : List V} (h : RepL K B S H l xs) : RepL K B S H l.reverse xs.reverse := by
  induction l generalizing xs with
  | nil => rw [repL_nil] at h; subst h; exact repL_nil.mpr rfl
  | cons d l ih =>
    obtain ⟨v, r, rfl, h1, h2⟩ := repL_cons.mp h
    rw [List.reverse_cons, List.reverse_cons]
    exact (ih h2).app (.one h1)
theorem RepL.flat {l : List D} {xs : List V} (h : RepL K B S H l xs) : ∀ k : Nat, RepL K B S H (List.replicate k l).flatten (List.replicate k xs).flatten
  | 0 => repL_nil.mpr rfl
  | k + 1 => by
    rw [List.replicate_succ, List.replicate_succ, List.flatten_cons, List.flatten_cons]
    exact h.app (RepL.flat h k)
theorem RepL.erase {l : List D} {xs : List V} (h : RepL K B S H l xs) (i : Nat) : RepL K B S H (l.eraseIdx i) (xs.eraseIdx i) := by
  rw [List.eraseIdx_eq_take_drop_succ, List.eraseIdx_eq_take_drop_succ]
  exact (h.take i).app (h.drop (i + 1))
theorem repL_ints {ns : List Int} : RepL K B S H (ns.map D.int) (ns.map V.int) := by
  induction ns with
  | nil => exact repL_nil.mpr rfl
  | cons n ns ih => exact repL_cons.mpr ⟨_, _, rfl, by unfold RepD; rfl, ih⟩
theorem RepL.ints : ∀ {ns : List Int} {xs : List V}, RepL K B S H (ns.map D.int) xs → xs = ns.map V.int
  | [], xs, h => repL_nil.mp h
  | n :: ns, xs, h => by
    obtain ⟨v, r, rfl, h1, h2⟩ := repL_cons.mp h
    unfold RepD at h1
    rw [h1, RepL.ints h2]
    rfl
theorem RepL.bls : ∀ {ns : List Bool} {xs : List V}, RepL K B S H (ns.map D.bl) xs → xs = ns.map V.bl
  | [], xs, h => repL_nil.mp h
  | n :: ns, xs, h => by
    obtain ⟨v, r, rfl, h1, h2⟩ := repL_cons.mp h
    unfold RepD at h1
    rw [h1, RepL.bls h2]
    rfl
theorem RepL.strs' : ∀ {ns : List Str} {xs : List V}, RepL K B S H (ns.map D.str) xs → xs = ns.map V.str
  | [], xs, h => repL_nil.mp h
  | n :: ns, xs, h => by
    obtain ⟨v, r, rfl, h1, h2⟩ := repL_cons.mp h
    unfold RepD at h1
    rw [h1, RepL.strs' h2]
    rfl
/-! slots -/
theorem RepE.grow {env : Slots} {σ : L2.St} (h : RepE K B S H env σ) (g : Grow S H S' H') : RepE K B S' H' env σ :=
  ⟨h.1, fun i d e => let ⟨v, e1, r⟩ := h.2 i d e; ⟨v, e1, RepD.grow g d v r⟩⟩
theorem RepE.unblk {B' : Blk} {env : Slots} {σ : L2.St} (h : RepE K B S H env σ) (hb : ∀ a, B' a → B a) : RepE K B' S H env σ :=
  ⟨h.1, fun i d e => let ⟨v, e1, r⟩ := h.2 i d e; ⟨v, e1, RepD.unblk hb d v r⟩⟩
theorem RepE.set {env : Slots} {σ : L2.St} (h : RepE K B S H env σ) (i : Nat) {d : D} {v : V} (r : RepD K B S H d v) : RepE K B S H (env.set i (some d)) (σ.set i (some v)) := by
  refine ⟨by simp [h.1], fun j d' e => ?_⟩
  rw [List.getElem?_set] at e ⊢
  by_cases hi : i = j
  · rw [if_pos hi] at e ⊢
    split at e
    · cases e
      rename_i hl
      rw [if_pos (by rw [← h.1]; exact hl)]
      exact ⟨v, rfl, r⟩
    · cases e
  · rw [if_neg hi] at e ⊢
    exact h.2 j d' e
theorem RepE.unset {env : Slots} {σ : L2.St} (h : RepE K B S H env σ) (i : Nat) (o : Option V) : RepE K B S H (env.set i none) (σ.set i o) := by
  refine ⟨by simp [h.1], fun j d' e => ?_⟩
  rw [List.getElem?_set] at e ⊢
  by_cases hi : i = j
  · rw [if_pos hi] at e
    split at e <;> cases e
  · rw [if_neg hi] at e ⊢
    exact h.2 j d' e
/-! records -/
theorem RepF.grow {fs : List (Str × D)} {gs : List (Str × V)} (h : RepF K B S H fs gs) (g : Grow S H S' H') : RepF K B S' H' fs gs := by
  unfold RepF at h ⊢
  induction h with
  | nil => exact .nil
  | cons a _ ih => exact .cons ⟨a.1, RepD.grow g _ _ a.2⟩ ih
theorem RepK.grow {κ : Type} {fs : List (κ × D)} {gs : List (κ × V)} (h : RepK K B S H fs gs) (g : Grow S H S' H') : RepK K B S' H' fs gs := by
  unfold RepK at h ⊢
  induction h with
  | nil => exact .nil
  | cons a _ ih => exact .cons ⟨a.1, RepD.grow g _ _ a.2⟩ ih
theorem RepC.frame {a : Addr} {c : Cell} (h : RepC K B S H a c) (g : Grow S H S' H') (e : H' a = H a) : RepC K B S' H' a c := by
  cases c with
  | lst l => obtain ⟨xs, e1, r⟩ := h; exact ⟨xs, e.trans e1, RepL.grow g _ _ r⟩
  | ins C fs => obtain ⟨dx, gs, e1, r⟩ := h; exact ⟨dx, gs, e.trans e1, r.grow g⟩
  | dK kvs => obtain ⟨gs, e1, r⟩ := h; exact ⟨gs, e.trans e1, r.grow g⟩
  | dT kvs => obtain ⟨gs, e1, r⟩ := h; exact ⟨gs, e.trans e1, r.grow g⟩
  | exc x => obtain ⟨C, n, e1⟩ := h; exact ⟨C, n, e.trans e1⟩
theorem RepC.there {a : Addr} {c : Cell} (h : RepC K B S H a c) : ∃ o, H a = some o := by
  cases c with
  | lst l => obtain ⟨xs, e1, r⟩ := h; exact ⟨_, e1⟩
  | ins C fs => obtain ⟨dx, gs, e1, r⟩ := h; exact ⟨_, e1⟩
  | dK kvs => obtain ⟨gs, e1, r⟩ := h; exact ⟨_, e1⟩
  | dT kvs => obtain ⟨gs, e1, r⟩ := h; exact ⟨_, e1⟩
  | exc x => obtain ⟨C, n, e1⟩ := h; exact ⟨_, e1⟩
/-- a new frozen object -/
theorem RepS.new {p : Addr} {o : HO} (h : RepS K B S H) (n : H p = none) : Grow S H S (upd H p o) ∧ RepS K B S (upd H p o) ∧ S p = none ∧ ¬ B p := by
  have g : Grow S H S (upd H p o) := fun a u e s => ⟨by rw [upd_ne (ne_of_none e n)]; exact e, s⟩
  have sp : S p = none := by
    cases q : S p with
    | none => rfl
    | some c =>
      obtain ⟨o', e⟩ := (h.cell p c q).there
      rw [n] at e; cases e
  refine ⟨g, ⟨fun a c e => ?_, fun a b => ?_⟩, sp, fun b => ?_⟩
  · obtain ⟨o', e'⟩ := (h.cell a c e).there
    exact (h.cell a c e).frame g (upd_ne (ne_of_none e' n))
  · obtain ⟨⟨o', e⟩, s⟩ := h.blk a b
    exact ⟨⟨o', by rw [upd_ne (ne_of_none e n)]; exact e⟩, s⟩
  · obtain ⟨⟨o', e⟩, s⟩ := h.blk p b
    rw [n] at e; cases e
/-- a new cell -/
theorem RepS.newCell {p : Addr} {o : HO} {c : Cell} (h : RepS K B S H) (n : H p = none) (hc : ∀ S' H', Grow S H S' H' → H' p = some o → RepC K B S' H' p c) :
    Grow S H (sput S p c) (upd H p o) ∧ RepS K B (sput S p c) (upd H p o) := by
  have g : Grow S H (sput S p c) (upd H p o) := fun a u e s => ⟨by rw [upd_ne (ne_of_none e n)]; exact e, by rw [sput_ne (ne_of_none e n)]; exact s⟩
  refine ⟨g, fun a c' e => ?_, fun a b => ?_⟩
  · by_cases ha : a = p
    · subst ha
      rw [sput_same] at e
      cases e
      exact hc _ _ g upd_same
    · rw [sput_ne ha] at e
      exact (h.cell a c' e).frame g (upd_ne ha)
  · obtain ⟨⟨o', e⟩, s⟩ := h.blk a b
    have ha : a ≠ p := ne_of_none e n
    exact ⟨⟨o', by rw [upd_ne ha]; exact e⟩, by rw [sput_ne ha]; exact s⟩
/-- a cell written -/
theorem RepS.write {p : Addr} {o : HO} {c c0 : Cell} (h : RepS K B S H) (n : S p = some c0) (hc : ∀ S' H', Grow S H S' H' → H' p = some o → RepC K B S' H' p c) :
    Grow S H (sput S p c) (upd H p o) ∧ RepS K B (sput S p c) (upd H p o) := by
  have g : Grow S H (sput S p c) (upd H p o) := fun a u e s => by
    have ha : a ≠ p := fun z => by rw [z, n] at s; cases s
    exact ⟨by rw [upd_ne ha]; exact e, by rw [sput_ne ha]; exact s⟩
  refine ⟨g, fun a c' e => ?_, fun a b => ?_⟩
  · by_cases ha : a = p
    · subst ha
      rw [sput_same] at e
      cases e
      exact hc _ _ g upd_same
    · rw [sput_ne ha] at e
      exact (h.cell a c' e).frame g (upd_ne ha)
  · obtain ⟨⟨o', e⟩, s⟩ := h.blk a b
    have ha : a ≠ p := fun z => by rw [z, n] at s; cases s
    exact ⟨⟨o', by rw [upd_ne ha]; exact e⟩, by rw [sput_ne ha]; exact s⟩
end
end ND
set_option Elab.async false
set_option linter.all false
set_option maxRecDepth 100000
namespace ND
open PySem PySem.Spec PyProof.Rows L2

abbrev WE := Slots → Store → (D → Store → Prop) → Prop
abbrev WT := Slots → Store → (Bool → Store → Prop) → Prop
abbrev WA := Slots → Store → (List D → Store → Prop) → Prop
abbrev WG := D → Slots → Store → (Slots → Store → Prop) → Prop
abbrev WGs := List D → Slots → Store → (Slots → Store → Prop) → Prop
structure DEnds where
  nx : Slots → Store → Prop
  rt : D → Store → Prop
abbrev WS := DEnds → Slots → Store → Prop

def Lift (K : PySem.W.Frag) (B : Blk) (S : Store) (H : Hp) (Qd : D → Store → Prop) (Q : VK) : Prop :=
  ∀ S' H' d v, Grow S H S' H' → RepS K B S' H' → RepD K B S' H' d v → Qd d S' → Q v H'
theorem Lift.grow {K : PySem.W.Frag} {B : Blk} {S S1 : Store} {H H1 : Hp} {Qd : D → Store → Prop} {Q : VK} (l : Lift K B S H Qd Q) (g : Grow S H S1 H1) : Lift K B S1 H1 Qd Q :=
  fun S' H' d v g' r rd q => l S' H' d v (g.trans g') r rd q
def tD (K : PySem.W.Frag) (t : WE) : TE := fun σ H Q => ∃ B env S Qd, RepE K B S H env σ ∧ RepS K B S H ∧ t env S Qd ∧ Lift K B S H Qd Q
def DE (X : Cx) (e : Expr) (t : WE) : Prop := PE X e (tD X.K t)
theorem PE.mono {X : Cx} {e : Expr} {t t' : TE} (h : PE X e t) (m : ∀ σ H Q, t' σ H Q → t σ H Q) : PE X e t' := ⟨fun pins s σ H Q I q => h.run pins s σ H Q I (m σ H Q q)⟩
theorem PT.mono {X : Cx} {e : Expr} {t t' : TT} (h : PT X e t) (m : ∀ σ H Q, t' σ H Q → t σ H Q) : PT X e t' := ⟨fun pins s σ H Q I q => h.run pins s σ H Q I (m σ H Q q)⟩
theorem PW.mono {X : Cx} {e : Expr} {t t' : TT} (h : PW X e t) (m : ∀ σ H Q, t' σ H Q → t σ H Q) : PW X e t' := ⟨fun wh pins s σ H Q I q => h.run wh pins s σ H Q I (m σ H Q q)⟩
theorem PA.mono {X : Cx} {e : List Expr} {t t' : TA} (h : PA X e t) (m : ∀ σ H Q, t' σ H Q → t σ H Q) : PA X e t' := ⟨fun pos pins s σ H Q I q => h.run pos pins s σ H Q I (m σ H Q q)⟩
theorem PS.mono {X : Cx} {e : Stmt} {t t' : TS} (h : PS X e t) (m : ∀ Dn σ H, t' Dn σ H → t Dn σ H) : PS X e t' := ⟨fun pins s σ H Dn I q => h.run pins s σ H Dn I (m Dn σ H q)⟩
theorem PSs.mono {X : Cx} {e : List Stmt} {t t' : TS} (h : PSs X e t) (m : ∀ Dn σ H, t' Dn σ H → t Dn σ H) : PSs X e t' := ⟨fun pins s σ H Dn I q => h.run pins s σ H Dn I (m Dn σ H q)⟩
theorem PG.mono {X : Cx} {e : Expr} {t t' : TG} (h : PG X e t) (m : ∀ v σ H Q, t' v σ H Q → t v σ H Q) : PG X e t' := ⟨fun pins s σ H v u Q I r q => h.run pins s σ H v u Q I r (m v σ H Q q)⟩
theorem PI.mono {X : Cx} {tg e : Expr} {t t' : TI} (h : PI X tg e t) (m : ∀ σ H Q, t' σ H Q → t σ H Q) : PI X tg e t' := ⟨fun pins s σ H Q I q => h.run pins s σ H Q I (m σ H Q q)⟩
theorem OpR.mono {X : Cx} {f : Value → Value → Sem Value} {r r' : R2} (h : OpR X f r) (m : ∀ x y H Q, r' x y H Q → r x y H Q) : OpR X f r' := fun pins s σ H x y v u Q I rx ry q => h pins s σ H x y v u Q I rx ry (m x y H Q q)

/-! ### operators by data -/
abbrev O2 := D → D → Store → (D → Store → Prop) → Prop
abbrev O1 := D → Store → (D → Store → Prop) → Prop
abbrev On := List D → Store → (D → Store → Prop) → Prop
def rD (K : PySem.W.Frag) (o : O2) : R2 := fun vx vy H Q => ∃ B S x y Qd, RepS K B S H ∧ RepD K B S H x vx ∧ RepD K B S H y vy ∧ o x y S Qd ∧ Lift K B S H Qd Q
def OD (X : Cx) (f : Value → Value → Sem Value) (o : O2) : Prop := OpR X f (rD X.K o)
def rD1 (K : PySem.W.Frag) (o : O1) : V → Hp → VK → Prop := fun vx H Q => ∃ B S x Qd, RepS K B S H ∧ RepD K B S H x vx ∧ o x S Qd ∧ Lift K B S H Qd Q
def rDn (K : PySem.W.Frag) (o : On) : List V → Hp → VK → Prop := fun vs H Q => ∃ B S ds Qd, RepS K B S H ∧ RepL K B S H ds vs ∧ o ds S Qd ∧ Lift K B S H Qd Q
def CD (X : Cx) (f : Value) (o : On) : Prop := CallR X f (rDn X.K o)
section
variable {X : Cx}
theorem OD.of {f : Value → Value → Sem Value} {o : O2} {r : R2} (h : OpR X f r)
    (m : ∀ B S H x y vx vy Qd Q, RepS X.K B S H → RepD X.K B S H x vx → RepD X.K B S H y vy → o x y S Qd → Lift X.K B S H Qd Q → r vx vy H Q) : OD X f o :=
  OpR.mono h fun vx vy H Q ⟨B, S, x, y, Qd, rs, rx, ry, q, l⟩ => m B S H x y vx vy Qd Q rs rx ry q l
theorem CD.of {f : Value} {o : On} {r : List V → Hp → VK → Prop} (h : CallR X f r)
    (m : ∀ B S H ds vs Qd Q, RepS X.K B S H → RepL X.K B S H ds vs → o ds S Qd → Lift X.K B S H Qd Q → r vs H Q) : CD X f o :=
  fun pins s σ H vs us Q I r q => h pins s σ H vs us Q I r (let ⟨B, S, ds, Qd, rs, rx, q, l⟩ := q; m B S H ds vs Qd Q rs rx q l)

/-! ### expressions -/
def wC (d : D) : WE := fun _ S Q => Q d S
def wVar (i : Nat) : WE := fun env S Q => ∃ d, env[i]? = some (some d) ∧ Q d S
def w2 (o : O2) (ta tb : WE) : WE := fun env S Q => ta env S fun x S1 => tb env S1 fun y S2 => o x y S2 Q
def w1 (o : O1) (ta : WE) : WE := fun env S Q => ta env S fun x S1 => o x S1 Q
theorem de_var (i : Nat) {x : Str} {pos : Pos} (hN : X.N[i]? = some x := by rfl) (hv : Vis X.env.scope x := by first | exact Or.inl rfl | exact Or.inr (Or.inl rfl) | exact Or.inr (Or.inr rfl)) (hd : (x == ("__debug__" : Str)) = false := by decide)
    (hcd : (x == ("__classdict__" : Str)) = false := by decide) : DE X (.Name x pos) (wVar i) :=
  PE.mono (pe_var hN hv hd hcd) fun σ H Q ⟨B, env, S, Qd, re, rs, ⟨d, e, q⟩, l⟩ => by
    obtain ⟨v, e1, rd⟩ := re.2 i d e
    exact ⟨v, e1, l S H d v .refl rs rd q⟩
theorem de_const {e : Expr} {v : V} {d : D} (h : PE X e (tC v)) (r : ∀ B S H, RepD X.K B S H d v) : DE X e (wC d) :=
  PE.mono h fun σ H Q ⟨B, env, S, Qd, re, rs, q, l⟩ => l S H d v .refl rs (r B S H) q
theorem repD_int {K : PySem.W.Frag} {B : Blk} {S : Store} {H : Hp} {i : Int} {v : V} : RepD K B S H (.int i) v ↔ v = .int i := by unfold RepD; exact Iff.rfl
theorem repD_bl {K : PySem.W.Frag} {B : Blk} {S : Store} {H : Hp} {i : Bool} {v : V} : RepD K B S H (.bl i) v ↔ v = .bl i := by unfold RepD; exact Iff.rfl
theorem repD_str {K : PySem.W.Frag} {B : Blk} {S : Store} {H : Hp} {i : Str} {v : V} : RepD K B S H (.str i) v ↔ v = .str i := by unfold RepD; exact Iff.rfl
theorem repD_non {K : PySem.W.Frag} {B : Blk} {S : Store} {H : Hp} {v : V} : RepD K B S H .non v ↔ v = .non := by unfold RepD; exact Iff.rfl
theorem repD_fn {K : PySem.W.Frag} {B : Blk} {S : Store} {H : Hp} {x : Str} {v : V} : RepD K B S H (.fn x) v ↔ ∃ f, PySem.W.nsIn K mainGlobals x = some (some (.ref f)) ∧ v = .ref f := by unfold RepD; exact Iff.rfl
theorem repD_ref {K : PySem.W.Frag} {B : Blk} {S : Store} {H : Hp} {a : Addr} {v : V} : RepD K B S H (.ref a) v ↔ v = .ref a := by unfold RepD; exact Iff.rfl
theorem repD_tup {K : PySem.W.Frag} {B : Blk} {S : Store} {H : Hp} {l : List D} {v : V} : RepD K B S H (.tup l) v ↔ ∃ a xs, v = .ref a ∧ TupAt K B S H a xs ∧ RepL K B S H l xs := by
  constructor
  · intro h; unfold RepD at h; exact h
  · intro h; unfold RepD; exact h
theorem repD_lst {K : PySem.W.Frag} {B : Blk} {S : Store} {H : Hp} {l : List D} {v : V} : RepD K B S H (.lst l) v ↔ ∃ a xs, v = .ref a ∧ LstAt B S H a xs ∧ RepL K B S H l xs := by
  constructor
  · intro h; unfold RepD at h; exact h
  · intro h; unfold RepD; exact h
theorem repD_kls {K : PySem.W.Frag} {B : Blk} {S : Store} {H : Hp} {l : List D} {v : V} : RepD K B S H (.kls l) v ↔ ∃ a xs, v = .ref a ∧ KLst K a xs ∧ RepL K B S H l xs := by
  constructor
  · intro h; unfold RepD at h; exact h
  · intro h; unfold RepD; exact h
theorem de_int {i j pos} : DE X (.Constant (.int i) j pos) (wC (.int i)) := de_const pe_int fun _ _ _ => repD_int.mpr rfl
theorem de_bl {b j pos} : DE X (.Constant (.bool b) j pos) (wC (.bl b)) := de_const pe_bl fun _ _ _ => repD_bl.mpr rfl
theorem de_non {j pos} : DE X (.Constant .none j pos) (wC .non) := de_const pe_non fun _ _ _ => repD_non.mpr rfl
theorem de_str {x j pos} : DE X (.Constant (.str x) j pos) (wC (.str x)) := de_const pe_str fun _ _ _ => repD_str.mpr rfl
/-- a constant of the module -/
structure GlobD (K : PySem.W.Frag) (mg : Str → Option Value) (x : Str) (d : D) : Prop where
  ex : ∃ u v, mg x = some u ∧ RelV v u ∧ ∀ B S H, RepD K B S H d v
theorem de_glob {x : Str} {pos : Pos} {d : D} (hg : Gl X x) (h : GlobD X.K X.mg x d) (hd : (x == ("__debug__" : Str)) = false := by decide) : DE X (.Name x pos) (wC d) := by
  obtain ⟨u, v, hm, rv, r⟩ := h.ex
  exact de_const (pe_glob hg hm rv hd) r
theorem de_bin {op : Operator} {o : O2} {a b : Expr} {pos : Pos} {ta tb : WE} (ho : OD X (binaryOp op) o) (ha : DE X a ta) (hb : DE X b tb) : DE X (.BinOp a op b pos) (w2 o ta tb) :=
  PE.mono (pe_op ho ha hb) fun σ H Q ⟨B, env, S, Qd, re, rs, q, l⟩ =>
    ⟨B, env, S, _, re, rs, q, fun S1 H1 x vx g1 rs1 rx q1 => ⟨B, env, S1, _, re.grow g1, rs1, q1, fun S2 H2 y vy g2 rs2 ry q2 => ⟨B, S2, x, y, Qd, rs2, RepD.grow g2 _ _ rx, ry, q2, l.grow (g1.trans g2)⟩⟩⟩
theorem de_cmp {op : CmpOp} {o : O2} {a b : Expr} {pos : Pos} {ta tb : WE} (ho : OD X (compareOp op) o) (ha : DE X a ta) (hb : DE X b tb) (hm : behindInMarks op b = false := by first | exact nomark _ | rfl) : DE X (.Compare a [op] [b] pos) (w2 o ta tb) :=
  PE.mono (pe_cmpR ho ha hb hm) fun σ H Q ⟨B, env, S, Qd, re, rs, q, l⟩ =>
    ⟨B, env, S, _, re, rs, q, fun S1 H1 x vx g1 rs1 rx q1 => ⟨B, env, S1, _, re.grow g1, rs1, q1, fun S2 H2 y vy g2 rs2 ry q2 => ⟨B, S2, x, y, Qd, rs2, RepD.grow g2 _ _ rx, ry, q2, l.grow (g1.trans g2)⟩⟩⟩
theorem de_un {op : UnaryOp} {r : V → Hp → VK → Prop} {o : O1} {a : Expr} {pos : Pos} {ta : WE} (ho : UnR X (unaryOp op) r)
    (m : ∀ B S H x vx Qd Q, RepS X.K B S H → RepD X.K B S H x vx → o x S Qd → Lift X.K B S H Qd Q → r vx H Q) (ha : DE X a ta) : DE X (.UnaryOp op a pos) (w1 o ta) :=
  PE.mono (pe_un ho ha) fun σ H Q ⟨B, env, S, Qd, re, rs, q, l⟩ =>
    ⟨B, env, S, _, re, rs, q, fun S1 H1 x vx g1 rs1 rx q1 => m B S1 H1 x vx Qd Q rs1 rx q1 (l.grow g1)⟩
def oNeg : O1 := fun x S Q => match x with | .int i => Q (.int (-i)) S | _ => False
theorem de_neg {a : Expr} {pos : Pos} {ta : WE} (ha : DE X a ta) : DE X (.UnaryOp .USub a pos) (w1 oNeg ta) :=
  de_un un_neg (fun B S H x vx Qd Q rs rx q l => by
    cases x with
    | int i => rw [repD_int] at rx; exact ⟨i, rx, l S H _ _ .refl rs (repD_int.mpr rfl) q⟩
    | _ => exact False.elim q) ha

/-! ### int operators -/
def oI (C : Int → Int → Prop) (g : Int → Int → D) : O2 := fun x y S Q => match x, y with | .int i, .int j => C i j ∧ Q (g i j) S | _, _ => False
def oI0 (g : Int → Int → D) : O2 := fun x y S Q => match x, y with | .int i, .int j => Q (g i j) S | _, _ => False
theorem oI_of {f : Value → Value → Sem Value} {C : Int → Int → Prop} {g : Int → Int → V} {gd : Int → Int → D} (h : OpR X f (rI C g)) (r : ∀ i j B S H, RepD X.K B S H (gd i j) (g i j)) : OD X f (oI C gd) :=
  OD.of h fun B S H x y vx vy Qd Q rs rx ry q l => by
    cases x with
    | int i => cases y with
      | int j => rw [repD_int] at rx ry; exact ⟨i, j, rx, ry, q.1, l S H _ _ .refl rs (r i j B S H) q.2⟩
      | _ => exact False.elim q
    | _ => exact False.elim q
theorem oI0_of {f : Value → Value → Sem Value} {g : Int → Int → V} {gd : Int → Int → D} (h : OpR X f (rI0 g)) (r : ∀ i j B S H, RepD X.K B S H (gd i j) (g i j)) : OD X f (oI0 gd) :=
  OD.of h fun B S H x y vx vy Qd Q rs rx ry q l => by
    cases x with
    | int i => cases y with
      | int j => rw [repD_int] at rx ry; exact ⟨i, j, rx, ry, l S H _ _ .refl rs (r i j B S H) q⟩
      | _ => exact False.elim q
    | _ => exact False.elim q
theorem OD.or {f : Value → Value → Sem Value} {o o' : O2} (h : OD X f o) (h' : OD X f o') : OD X f (fun x y S Q => o x y S Q ∨ o' x y S Q) :=
  fun pins s σ H vx vy v u Q I r1 r2 ⟨B, S, x, y, Qd, rs, rx, ry, q, l⟩ => by
    rcases q with q | q
    · exact h pins s σ H vx vy v u Q I r1 r2 ⟨B, S, x, y, Qd, rs, rx, ry, q, l⟩
    · exact h' pins s σ H vx vy v u Q I r1 r2 ⟨B, S, x, y, Qd, rs, rx, ry, q, l⟩
theorem OD.mono {f : Value → Value → Sem Value} {o o' : O2} (h : OD X f o) (m : ∀ x y S Q, o' x y S Q → o x y S Q) : OD X f o' :=
  fun pins s σ H vx vy v u Q I r1 r2 ⟨B, S, x, y, Qd, rs, rx, ry, q, l⟩ => h pins s σ H vx vy v u Q I r1 r2 ⟨B, S, x, y, Qd, rs, rx, ry, m _ _ _ _ q, l⟩
/-- where // may be asked of numbers of any length: the module keeps what the long division looks at -/
structure Seer (base : Heap) (P : Program) (A : Around) (stack : List Env) : Prop where
  sr : base.NoSeer
  tr : P.given.tree = none
  dp : A.depth + PySem.Builtin.pylongFrames < recursionLimit
  hd : ∃ env l, stack = env :: l ∧ env.scope.isGenerator = false ∧ env.scope.isCoroutine = false ∧ env.builtins = builtinsNs ∧ env.globals = mainGlobals
def CFd (_ j : Int) : Prop := j ≠ 0
theorem op_fdivNW (hs : Seer X.base X.prog X.A X.stack) : OpR X (binaryOp .FloorDiv) (rI CFd fun i j => .int (i.fdiv j)) := by
  rintro pins s σ H _ _ v u Q I rx ry ⟨i, j, rfl, rfl, hc, q⟩
  obtain ⟨t, rfl⟩ := rx
  obtain ⟨t', rfl⟩ := ry
  obtain ⟨env, l, e, g1, g2, g3, g4⟩ := hs.hd
  refine floordiv_int hc ⟨.int (i.fdiv j), H, I.tok _, ⟨_, rfl⟩, q⟩ (.inr (PySem.PylongRoom.of I.nolimit hs.dp ?_))
  exact PySem.SeerAt.of (hs.sr.keeps I.bk) hs.tr (I.ok.frames.trans (by rw [e])) g1 g2 g3 g4
theorem od_sub : OD X (binaryOp .Sub) (oI0 fun i j => .int (i - j)) := oI0_of op_sub fun _ _ _ _ _ => repD_int.mpr rfl
theorem od_fdiv (hs : Seer X.base X.prog X.A X.stack) : OD X (binaryOp .FloorDiv) (oI CFd fun i j => .int (i.fdiv j)) := oI_of (op_fdivNW hs) fun _ _ _ _ _ => repD_int.mpr rfl
theorem od_mod : OD X (binaryOp .Mod) (oI (fun _ j => j ≠ 0) fun i j => .int (i.fmod j)) := oI_of op_modN fun _ _ _ _ _ => repD_int.mpr rfl
theorem od_pow : OD X (binaryOp .Pow) (oI CPow fun i j => .int (i ^ j.toNat)) := oI_of op_pow fun _ _ _ _ _ => repD_int.mpr rfl
theorem od_lt : OD X (compareOp .Lt) (oI0 fun i j => .bl (decide (i < j))) := oI0_of op_lt fun _ _ _ _ _ => repD_bl.mpr rfl
theorem od_le : OD X (compareOp .LtE) (oI0 fun i j => .bl (decide (i ≤ j))) := oI0_of op_le fun _ _ _ _ _ => repD_bl.mpr rfl
theorem od_gt : OD X (compareOp .Gt) (oI0 fun i j => .bl (decide (j < i))) := oI0_of op_gt fun _ _ _ _ _ => repD_bl.mpr rfl
theorem od_ge : OD X (compareOp .GtE) (oI0 fun i j => .bl (decide (j ≤ i))) := oI0_of op_ge fun _ _ _ _ _ => repD_bl.mpr rfl

/-! ### tests -/
def LiftT (K : PySem.W.Frag) (B : Blk) (S : Store) (H : Hp) (Qd : Bool → Store → Prop) (Q : Bool → Hp → Prop) : Prop := ∀ S' H' b, Grow S H S' H' → RepS K B S' H' → Qd b S' → Q b H'
def tDT (K : PySem.W.Frag) (t : WT) : TT := fun σ H Q => ∃ B env S Qd, RepE K B S H env σ ∧ RepS K B S H ∧ t env S Qd ∧ LiftT K B S H Qd Q
def DT (X : Cx) (e : Expr) (t : WT) : Prop := PT X e (tDT X.K t)
def DW (X : Cx) (e : Expr) (t : WT) : Prop := PW X e (tDT X.K t)
theorem LiftT.grow {K : PySem.W.Frag} {B : Blk} {S S1 : Store} {H H1 : Hp} {Qd : Bool → Store → Prop} {Q : Bool → Hp → Prop} (l : LiftT K B S H Qd Q) (g : Grow S H S1 H1) : LiftT K B S1 H1 Qd Q :=
  fun S' H' b g' r q => l S' H' b (g.trans g') r q
def wBl (Q : Bool → Store → Prop) : D → Store → Prop := fun x S => match x with | .bl b => Q b S | _ => False
def wTst (t : WE) : WT := fun env S Q => t env S (wBl Q)
theorem tst_of {t : WE} {σ : L2.St} {H : Hp} {Q : Bool → Hp → Prop} (h : tDT X.K (wTst t) σ H Q) : tD X.K t σ H fun x H1 => ∃ c, x = .bl c ∧ Q c H1 := by
  obtain ⟨B, env, S, Qd, re, rs, q, l⟩ := h
  refine ⟨B, env, S, _, re, rs, q, fun S1 H1 x vx g1 rs1 rx q1 => ?_⟩
  cases x with
  | bl b => rw [repD_bl] at rx; exact ⟨b, rx, l S1 H1 b g1 rs1 q1⟩
  | _ => exact False.elim q1
theorem dt_val {e : Expr} {t : WE} (h : DE X e t) (he : ∀ whole, isTrue e X.env whole = (do let v ← whole; standAt e.pos; holding [v] (truthy v)) := by intro _; rfl) : DT X e (wTst t) :=
  PT.mono (pt_val h he) fun σ H Q q => tst_of q
theorem dt_cmp {op : CmpOp} {o : O2} {a b : Expr} {pos : Pos} {ta tb : WE} (ho : OD X (compareOp op) o) (ha : DE X a ta) (hb : DE X b tb) (hm : behindInMarks op b = false := by first | exact nomark _ | rfl) : DT X (.Compare a [op] [b] pos) (wTst (w2 o ta tb)) :=
  PT.mono (pt_cmpR ho ha hb hm) fun σ H Q ⟨B, env, S, Qd, re, rs, q, l⟩ =>
    ⟨B, env, S, _, re, rs, q, fun S1 H1 x vx g1 rs1 rx q1 => ⟨B, env, S1, _, re.grow g1, rs1, q1, fun S2 H2 y vy g2 rs2 ry q2 => ⟨B, S2, x, y, _, rs2, RepD.grow g2 _ _ rx, ry, q2, fun S3 H3 d v g3 rs3 rd q3 => by
      cases d with
      | bl b => rw [repD_bl] at rd; exact ⟨b, rd, l S3 H3 b (g1.trans (g2.trans g3)) rs3 q3⟩
      | _ => exact False.elim q3⟩⟩⟩
def wNot (t : WT) : WT := fun env S Q => t env S fun b S1 => Q (!b) S1
def wAnd (t u : WT) : WT := fun env S Q => t env S fun b S1 => if b = true then u env S1 Q else Q false S1
def wOr (t u : WT) : WT := fun env S Q => t env S fun b S1 => if b = true then Q true S1 else u env S1 Q
theorem dt_not {a : Expr} {pos : Pos} {t : WT} (h : DT X a t) : DT X (.UnaryOp .Not a pos) (wNot t) :=
  PT.mono (pt_not h) fun σ H Q ⟨B, env, S, Qd, re, rs, q, l⟩ => ⟨B, env, S, _, re, rs, q, fun S1 H1 b g1 rs1 q1 => l S1 H1 (!b) g1 rs1 q1⟩
theorem dw_and1 {a : Expr} {pos : Pos} {t : WT} (h : DT X a t) : DW X (.BoolOp .And [a] pos) t := pw_and1 h
theorem dw_or1 {a : Expr} {pos : Pos} {t : WT} (h : DT X a t) : DW X (.BoolOp .Or [a] pos) t := pw_or1 h
theorem dw_and {a b : Expr} {rest : List Expr} {pos : Pos} {t u : WT} (h : DT X a t) (h' : DW X (.BoolOp .And (b :: rest) pos) u) : DW X (.BoolOp .And (a :: b :: rest) pos) (wAnd t u) :=
  PW.mono (pw_and h h') fun σ H Q ⟨B, env, S, Qd, re, rs, q, l⟩ => ⟨B, env, S, _, re, rs, q, fun S1 H1 b g1 rs1 q1 => by
    cases b with
    | true => rw [if_pos rfl] at q1 ⊢; exact ⟨B, env, S1, Qd, re.grow g1, rs1, q1, l.grow g1⟩
    | false => rw [if_neg Bool.false_ne_true] at q1 ⊢; exact l S1 H1 false g1 rs1 q1⟩
theorem dw_or {a b : Expr} {rest : List Expr} {pos : Pos} {t u : WT} (h : DT X a t) (h' : DW X (.BoolOp .Or (b :: rest) pos) u) : DW X (.BoolOp .Or (a :: b :: rest) pos) (wOr t u) :=
  PW.mono (pw_or h h') fun σ H Q ⟨B, env, S, Qd, re, rs, q, l⟩ => ⟨B, env, S, _, re, rs, q, fun S1 H1 b g1 rs1 q1 => by
    cases b with
    | false => rw [if_neg Bool.false_ne_true] at q1 ⊢; exact ⟨B, env, S1, Qd, re.grow g1, rs1, q1, l.grow g1⟩
    | true => rw [if_pos rfl] at q1 ⊢; exact l S1 H1 true g1 rs1 q1⟩
theorem dt_w {e : Expr} {t : WT} (h : DW X e t) : DT X e t := PW.pt h
/-- and, or, not as values (of truths) -/
def wAndV (ta tb : WE) : WE := fun env S Q => ta env S fun x S1 => match x with | .bl b => if b = true then tb env S1 Q else Q (.bl false) S1 | _ => False
def wOrV (ta tb : WE) : WE := fun env S Q => ta env S fun x S1 => match x with | .bl b => if b = true then Q (.bl true) S1 else tb env S1 Q | _ => False
def oNot : O1 := fun x S Q => match x with | .bl b => Q (.bl (!b)) S | _ => False
theorem de_one {op} {a : Expr} {pos : Pos} {t : WE} (h : DE X a t) : DE X (.BoolOp op [a] pos) t := pe_one h
theorem de_and {a b : Expr} {rest : List Expr} {pos : Pos} {ta tb : WE} (ha : DE X a ta) (hb : DE X (.BoolOp .And (b :: rest) pos) tb) : DE X (.BoolOp .And (a :: b :: rest) pos) (wAndV ta tb) :=
  PE.mono (pe_and ha hb) fun σ H Q ⟨B, env, S, Qd, re, rs, q, l⟩ => ⟨B, env, S, _, re, rs, q, fun S1 H1 x vx g1 rs1 rx q1 => by
    cases x with
    | bl b =>
      rw [repD_bl] at rx
      refine ⟨b, rx, ?_⟩
      cases b with
      | true => rw [if_pos rfl]; exact ⟨B, env, S1, Qd, re.grow g1, rs1, q1, l.grow g1⟩
      | false => rw [if_neg Bool.false_ne_true]; exact l S1 H1 _ _ g1 rs1 (repD_bl.mpr rfl) q1
    | _ => exact False.elim q1⟩
theorem de_or {a b : Expr} {rest : List Expr} {pos : Pos} {ta tb : WE} (ha : DE X a ta) (hb : DE X (.BoolOp .Or (b :: rest) pos) tb) : DE X (.BoolOp .Or (a :: b :: rest) pos) (wOrV ta tb) :=
  PE.mono (pe_or ha hb) fun σ H Q ⟨B, env, S, Qd, re, rs, q, l⟩ => ⟨B, env, S, _, re, rs, q, fun S1 H1 x vx g1 rs1 rx q1 => by
    cases x with
    | bl b =>
      rw [repD_bl] at rx
      refine ⟨b, rx, ?_⟩
      cases b with
      | false => rw [if_neg Bool.false_ne_true]; exact ⟨B, env, S1, Qd, re.grow g1, rs1, q1, l.grow g1⟩
      | true => rw [if_pos rfl]; exact l S1 H1 _ _ g1 rs1 (repD_bl.mpr rfl) q1
    | _ => exact False.elim q1⟩
theorem de_not {a : Expr} {pos : Pos} {ta : WE} (ha : DE X a ta) : DE X (.UnaryOp .Not a pos) (w1 oNot ta) :=
  PE.mono (pe_not ha) fun σ H Q ⟨B, env, S, Qd, re, rs, q, l⟩ => ⟨B, env, S, _, re, rs, q, fun S1 H1 x vx g1 rs1 rx q1 => by
    cases x with
    | bl b => rw [repD_bl] at rx; exact ⟨b, rx, l S1 H1 _ _ g1 rs1 (repD_bl.mpr rfl) q1⟩
    | _ => exact False.elim q1⟩
def wIf (t : WT) (ta tb : WE) : WE := fun env S Q => t env S fun c S1 => if c = true then ta env S1 Q else tb env S1 Q
theorem de_if {c a b : Expr} {pos : Pos} {t : WT} {ta tb : WE} (hc : DT X c t) (ha : DE X a ta) (hb : DE X b tb) : DE X (.IfExp c a b pos) (wIf t ta tb) :=
  PE.mono (pe_ifExp hc ha hb) fun σ H Q ⟨B, env, S, Qd, re, rs, q, l⟩ => ⟨B, env, S, _, re, rs, q, fun S1 H1 b g1 rs1 q1 => by
    cases b with
    | true => rw [if_pos rfl] at q1 ⊢; exact ⟨B, env, S1, Qd, re.grow g1, rs1, q1, l.grow g1⟩
    | false => rw [if_neg Bool.false_ne_true] at q1 ⊢; exact ⟨B, env, S1, Qd, re.grow g1, rs1, q1, l.grow g1⟩⟩
/-- x if it is a truth: a test's value -/
theorem de_tst {e : Expr} {t : WE} (h : DE X e t) : DE X e t := h

/-! ### arguments, displays -/
def LiftA (K : PySem.W.Frag) (B : Blk) (S : Store) (H : Hp) (Qd : List D → Store → Prop) (Q : List V → Hp → Prop) : Prop := ∀ S' H' ds vs, Grow S H S' H' → RepS K B S' H' → RepL K B S' H' ds vs → Qd ds S' → Q vs H'
def tDA (K : PySem.W.Frag) (t : WA) : TA := fun σ H Q => ∃ B env S Qd, RepE K B S H env σ ∧ RepS K B S H ∧ t env S Qd ∧ LiftA K B S H Qd Q
def DA (X : Cx) (es : List Expr) (t : WA) : Prop := PA X es (tDA X.K t)
def wNil : WA := fun _ S Q => Q [] S
def wCons (t : WE) (r : WA) : WA := fun env S Q => t env S fun x S1 => r env S1 fun xs S2 => Q (x :: xs) S2
theorem da_nil : DA X [] wNil := PA.mono pa_nil fun σ H Q ⟨B, env, S, Qd, re, rs, q, l⟩ => l S H [] [] .refl rs (repL_nil.mpr rfl) q
theorem da_cons {e : Expr} {es : List Expr} {t : WE} {r : WA} (ha : DE X e t) (hr : DA X es r) (hs : starEach (e :: es) X.env = (false, eval e X.env) :: starEach es X.env := by rfl) : DA X (e :: es) (wCons t r) :=
  PA.mono (pa_cons ha hr hs) fun σ H Q ⟨B, env, S, Qd, re, rs, q, l⟩ => ⟨B, env, S, _, re, rs, q, fun S1 H1 x vx g1 rs1 rx q1 => ⟨B, env, S1, _, re.grow g1, rs1, q1, fun S2 H2 ds vs g2 rs2 rds q2 =>
    l S2 H2 (x :: ds) (vx :: vs) (g1.trans g2) rs2 (repL_cons.mpr ⟨vx, vs, rfl, RepD.grow g2 _ _ rx, rds⟩) q2⟩⟩
def wTup (t : WA) : WE := fun env S Q => t env S fun l S1 => l.length ≤ sizeLine ∧ Q (.tup l) S1
def wLst (t : WA) : WE := fun env S Q => t env S fun l S1 => l.length ≤ sizeLine ∧ Q (.lst l) S1
def wLstM (t : WA) : WE := fun env S Q => t env S fun l S1 => l.length ≤ sizeLine ∧ ∀ p, S1 p = none → Q (.ref p) (sput S1 p (.lst l))
/-- a new tuple, a new list -/
theorem Lift.tup {K : PySem.W.Frag} {B : Blk} {S : Store} {H : Hp} {Qd : D → Store → Prop} {Q : VK} (l : Lift K B S H Qd Q) (rs : RepS K B S H) {ds : List D} {vs : List V} (r : RepL K B S H ds vs) (q : Qd (.tup ds) S) {p : Addr} (n : H p = none) : Q (.ref p) (upd H p (.tup vs)) := by
  obtain ⟨g, rs', sp, nb⟩ := rs.new (o := .tup vs) n
  exact l S _ _ _ g rs' (repD_tup.mpr ⟨p, vs, rfl, .inl ⟨.inl upd_same, sp, nb⟩, RepL.grow g _ _ r⟩) q
theorem Lift.lst {K : PySem.W.Frag} {B : Blk} {S : Store} {H : Hp} {Qd : D → Store → Prop} {Q : VK} (l : Lift K B S H Qd Q) (rs : RepS K B S H) {ds : List D} {vs : List V} (r : RepL K B S H ds vs) (q : Qd (.lst ds) S) {p : Addr} (n : H p = none) : Q (.ref p) (upd H p (.lst vs)) := by
  obtain ⟨g, rs', sp, nb⟩ := rs.new (o := .lst vs) n
  exact l S _ _ _ g rs' (repD_lst.mpr ⟨p, vs, rfl, ⟨.inl upd_same, sp, nb⟩, RepL.grow g _ _ r⟩) q
theorem Lift.cell {K : PySem.W.Frag} {B : Blk} {S : Store} {H : Hp} {Qd : D → Store → Prop} {Q : VK} (l : Lift K B S H Qd Q) (rs : RepS K B S H) {ds : List D} {vs : List V} (r : RepL K B S H ds vs) (q : ∀ p, S p = none → Qd (.ref p) (sput S p (.lst ds))) {p : Addr} (n : H p = none) : Q (.ref p) (upd H p (.lst vs)) := by
  obtain ⟨g, rs'⟩ := rs.newCell (o := .lst vs) (c := .lst ds) n fun S' H' g e => ⟨vs, e, RepL.grow g _ _ r⟩
  exact l _ _ _ _ g rs' (repD_ref.mpr rfl) (q p (rs.new (o := .lst vs) n).2.2.1)
theorem de_tup {es : List Expr} {x1} {pos : Pos} {t : WA} (h : DA X es t) : DE X (.Tuple es x1 pos) (wTup t) :=
  PE.mono (pe_tup h) fun σ H Q ⟨B, env, S, Qd, re, rs, q, l⟩ => ⟨B, env, S, _, re, rs, q, fun S1 H1 ds vs g1 rs1 rds q1 => ⟨by rw [← rds.len]; exact q1.1, fun p n => (l.grow g1).tup rs1 rds q1.2 n⟩⟩
theorem de_lst {es : List Expr} {pos : Pos} {t : WA} (h : DA X es t) : DE X (.List es pos) (wLst t) :=
  PE.mono (pe_lst h) fun σ H Q ⟨B, env, S, Qd, re, rs, q, l⟩ => ⟨B, env, S, _, re, rs, q, fun S1 H1 ds vs g1 rs1 rds q1 => ⟨by rw [← rds.len]; exact q1.1, fun p n => (l.grow g1).lst rs1 rds q1.2 n⟩⟩
theorem de_lstM {es : List Expr} {pos : Pos} {t : WA} (h : DA X es t) : DE X (.List es pos) (wLstM t) :=
  PE.mono (pe_lst h) fun σ H Q ⟨B, env, S, Qd, re, rs, q, l⟩ => ⟨B, env, S, _, re, rs, q, fun S1 H1 ds vs g1 rs1 rds q1 => ⟨by rw [← rds.len]; exact q1.1, fun p n => (l.grow g1).cell rs1 rds q1.2 n⟩⟩

/-! ### what is laid aside: a cell becomes a frozen list, or is forgotten -/
def Sub (S' S : Store) : Prop := ∀ a c, S' a = some c → S a = some c
theorem Sub.refl (S : Store) : Sub S S := fun _ _ h => h
theorem Sub.trans {S S' S'' : Store} (h : Sub S S') (h' : Sub S' S'') : Sub S S'' := fun a c e => h' a c (h a c e)
theorem Sub.put {S S' : Store} {p : Addr} {c : Cell} (h : Sub S S') (n : S p = none) : Sub S (sput S' p c) := fun a u e => by
  rw [sput_ne (fun z => by rw [z, n] at e; cases e)]
  exact h a u e
theorem Sub.none {S S' : Store} (h : Sub S S') {a : Addr} (n : S' a = none) : S a = none := by
  cases q : S a with
  | none => rfl
  | some c => rw [h a c q] at n; cases n
/-- which cells stay -/
inductive Fz (S S' : Store) : D → D → Prop
  | same (d : D) : Fz S S' d d
  | lst (a : Addr) (l : List D) : S a = some (.lst l) → S' a = none → Fz S S' (.ref a) (.lst l)
def wFz (t : WE) : WE := fun env S Q => t env S fun d S1 => ∃ d' S', Sub S' S1 ∧ Fz S1 S' d d' ∧ Q d' S'
section
variable {K : PySem.W.Frag} {B : Blk} {S S' : Store} {H : Hp}
theorem Sub.grow (h : Sub S' S) : Grow S H S' H := fun a o e n => ⟨e, h.none n⟩
theorem RepS.sub (rs : RepS K B S H) (h : Sub S' S) : RepS K B S' H :=
  ⟨fun a c e => (rs.cell a c (h a c e)).frame h.grow rfl, fun a b => ⟨(rs.blk a b).1, h.none (rs.blk a b).2⟩⟩
theorem Fz.rep (rs : RepS K B S H) (h : Sub S' S) {d d' : D} {v : V} (f : Fz S S' d d') (r : RepD K B S H d v) : RepD K B S' H d' v := by
  cases f with
  | same => exact RepD.grow h.grow _ _ r
  | lst a l e n =>
    rw [repD_ref] at r
    obtain ⟨xs, e1, rl⟩ := rs.cell a _ e
    refine repD_lst.mpr ⟨a, xs, r, ⟨.inl e1, n, fun b => ?_⟩, RepL.grow h.grow _ _ rl⟩
    rw [(rs.blk a b).2] at e
    cases e
end
theorem de_fz {e : Expr} {t : WE} (h : DE X e t) : DE X e (wFz t) :=
  PE.mono h fun σ H Q ⟨B, env, S, Qd, re, rs, q, l⟩ => ⟨B, env, S, _, re, rs, q, fun S1 H1 d v g1 rs1 rd ⟨d', S', sb, f, q1⟩ =>
    l S' H1 d' v (g1.trans sb.grow) (rs1.sub sb) (f.rep rs1 sb rd) q1⟩
end
end ND
set_option Elab.async false
set_option linter.all false
set_option maxRecDepth 100000
set_option maxHeartbeats 4000000
namespace ND
open PySem PySem.Spec PyProof.Rows L2
theorem tuple_mulS (l : Addr) (items : Array Value) (n : Nat) (dd : Option Addr) (sl : Array (Option Value)) (x : Int) (u : Tok) (c0 : (decide (x < -(2 ^ 63)) || decide (x ≥ 2 ^ 63)) = false) (c1 : (items.isEmpty || x == 1) = true) :
    Meets (Builtin.«tuple.__mul__» ⟨[.ref l, .int x u], []⟩) (fun _ R s => s.heap.get? l = some { cls := .type "tuple", dict := dd, data := .seq items n, slots := sl } ∧ R (.ok (.ret (Value.ref l))) s) :=
  .of_wp fun prog w A R s h => by
    obtain ⟨hp, g, d, tk, os⟩ := s
    obtain ⟨hl, h⟩ := h
    have f1 := AutoSeq1.idx_int
    wp_walk using wpAny_loadPart' hl
    repeat (first
      | (refine wpAny_ite_false (decide_eq_false (by rw [c0]; exact Bool.false_ne_true)) ?_; wp_walk using wpAny_loadPart' hl)
      | (refine wpAny_ite_true (decide_eq_true c1) ?_; wp_walk using wpAny_loadPart' hl))
    exact ⟨_, rfl, h⟩
theorem tuple_mulZ (l : Addr) (items : Array Value) (n : Nat) (dd : Option Addr) (sl : Array (Option Value)) (x : Int) (u : Tok) (c0 : (decide (x < -(2 ^ 63)) || decide (x ≥ 2 ^ 63)) = false) (c1 : (items.isEmpty || x == 1) = false) (c2 : (decide (x ≤ 0) || items.isEmpty) = true) :
    Meets (Builtin.«tuple.__mul__» ⟨[.ref l, .int x u], []⟩) (fun _ R s => s.heap.get? l = some { cls := .type "tuple", dict := dd, data := .seq items n, slots := sl } ∧
      R (.ok (.ret (Value.ref s.heap.objs.size))) { s with heap := s.heap.push { cls := Value.type "tuple", data := Data.seq #[] }, toks := s.toks }) :=
  .of_wp fun prog w A R s h => by
    obtain ⟨hp, g, d, tk, os⟩ := s
    obtain ⟨hl, h⟩ := h
    have f1 := AutoSeq1.idx_int
    wp_walk using wpAny_loadPart' hl
    repeat (first
      | (refine wpAny_ite_false (decide_eq_false (by rw [c0]; exact Bool.false_ne_true)) ?_; wp_walk using wpAny_loadPart' hl)
      | (refine wpAny_ite_false (decide_eq_false (by rw [c1]; exact Bool.false_ne_true)) ?_; wp_walk using wpAny_loadPart' hl)
      | (refine wpAny_ite_true (decide_eq_true c2) ?_; wp_walk using wpAny_loadPart' hl))
    exact ⟨_, rfl, h⟩
def rRepA (K : PySem.W.Frag) : R2 := fun x y H Q => ∃ l k xs, x = .ref l ∧ y = .int k ∧ SqT K H l xs ∧ -(2 ^ 63) ≤ k ∧ k < 2 ^ 63 ∧ (k ≤ 1 ∨ (k ≤ 1000 ∧ xs.length ≤ 1000)) ∧
  ((xs = [] ∨ k = 1) → Q (.ref l) H) ∧ ∀ p, H p = none → Q (.ref p) (upd H p (.tup (List.replicate k.toNat xs).flatten))
theorem op_repA {X : Cx} : OpR X (binaryOp .Mult) (rRepA X.K) := by
  intro pins s σ H x y v u Q I rx ry h
  obtain ⟨l, k, xs, rfl, rfl, hT, h1, h2, hz, q1, q2⟩ := h
  by_cases hs : xs = [] ∨ k = 1
  · cases rx
    obtain ⟨t, rfl⟩ := ry
    obtain ⟨its, r, ⟨⟨cls, dd, data, sl⟩, ho, hc, n, hd⟩, _⟩ := I.tuple hT
    simp only at hc hd
    subst hc hd
    have hle : its.length = xs.length := r.length.symm
    have c1 : (its.toArray.isEmpty || k == 1) = true := by
      rcases hs with e | e
      · subst e
        rw [List.eq_nil_of_length_eq_zero hle]
        rfl
      · subst e
        simp
    have c0 : (decide (k < -(2 ^ 63)) || decide (k ≥ 2 ^ 63)) = false := by
      rw [decide_eq_false (by omega), decide_eq_false (by omega)] <;> rfl
    refine wpAny_binaryOp_repeat_ref (T := "tuple") (U := "int") (by decide) ⟨_, ho, rfl⟩ (fun s' => typeIs_int s' k t) noFill_tuple_mul F.fills_int_mul F.slot_int_rmul repeat_tuple F.slot_int_index.lookup
      (call_meets F.slot_int_rmul (typeIs_int s k t) F.entry_int_rmul (F.args_int_rmul_2 _ _) (int_rmul_tuple k t l its.toArray n dd sl)
        ⟨ho, rfl, ⟨_, ho, rfl⟩, call_meets F.slot_tuple_mul ⟨_, ho, rfl⟩ F.entry_tuple_mul (F.args_tuple_mul_2 _ _) (tuple_mulS l its.toArray n dd sl k t c0 c1) ⟨ho, ?_⟩⟩)
    exact ⟨.ref l, H, I, rfl, q1 hs⟩
  · have hne : xs ≠ [] := fun e => hs (.inl e)
    have hk1 : k ≠ 1 := fun e => hs (.inr e)
    by_cases hk : 2 ≤ k
    · refine op_repT pins s σ H _ _ v u Q I rx ry ⟨l, k, xs, rfl, rfl, hT, hne, hk, by omega, by omega, q2⟩
    · cases rx
      obtain ⟨t, rfl⟩ := ry
      obtain ⟨its, r, ⟨⟨cls, dd, data, sl⟩, ho, hc, n, hd⟩, _⟩ := I.tuple hT
      simp only at hc hd
      subst hc hd
      have hle : its.length = xs.length := r.length.symm
      have hi : its.toArray.isEmpty = false := by
        cases its with
        | nil => exact absurd (List.eq_nil_of_length_eq_zero hle.symm) hne
        | cons a b => rfl
      have c1 : (its.toArray.isEmpty || k == 1) = false := by
        rw [hi, Bool.false_or]
        exact beq_eq_false_iff_ne.mpr hk1
      have c2 : (decide (k ≤ 0) || its.toArray.isEmpty) = true := by
        rw [decide_eq_true (by omega)]
        rfl
      have c0 : (decide (k < -(2 ^ 63)) || decide (k ≥ 2 ^ 63)) = false := by
        rw [decide_eq_false (by omega), decide_eq_false (by omega)] <;> rfl
      have e0 : k.toNat = 0 := by omega
      rw [e0] at q2
      refine wpAny_binaryOp_repeat_ref (T := "tuple") (U := "int") (by decide) ⟨_, ho, rfl⟩ (fun s' => typeIs_int s' k t) noFill_tuple_mul F.fills_int_mul F.slot_int_rmul repeat_tuple F.slot_int_index.lookup
        (call_meets F.slot_int_rmul (typeIs_int s k t) F.entry_int_rmul (F.args_int_rmul_2 _ _) (int_rmul_tuple k t l its.toArray n dd sl)
          ⟨ho, rfl, ⟨_, ho, rfl⟩, call_meets F.slot_tuple_mul ⟨_, ho, rfl⟩ F.entry_tuple_mul (F.args_tuple_mul_2 _ _) (tuple_mulZ l its.toArray n dd sl k t c0 c1 c2) ⟨ho, ?_⟩⟩)
      refine ⟨.ref s.heap.objs.size, _, I.laid (t' := s.toks) (o := .tup []) (fun b ob q => Heap.get?_push_of_some _ q) (Nat.le_refl _) ?_, rfl, q2 _ (I.hok.fresh (Nat.le_refl _))⟩
      exact ⟨Nat.zero_le _, _, .nil, IsTup.new _ _⟩

/-! ### t[::-1] of tuples, too -/
section
variable {prog : Program} {w : World} {A : Around} {E : Value → Shared → Prop} {s : Shared}
theorem back_bounds (n : Nat) : Builtin.Slice.sliceAdjust none none (-1) (n : Int) = ((n : Int) - 1, -1) := rfl
theorem back_places (n : Nat) : Builtin.Slice.slicePlaces ((n : Int) - 1) (-1) (-1) = n := by
  unfold Builtin.Slice.slicePlaces
  rw [if_neg (by decide)]
  by_cases h : (n : Int) - 1 > -1
  · rw [if_pos h]
    have : (- (-1 : Int)) = 1 := by decide
    rw [this, Int.ediv_one]
    omega
  · rw [if_neg h]
    omega
theorem back_pick (xs : Array Value) : ((List.range xs.size).filterMap fun (m : Nat) => xs[(((xs.size : Nat) : Int) - 1 + (m : Int) * -1).toNat]?).toArray = xs.toList.reverse.toArray := by
  have e : (fun (m : Nat) => xs[(((xs.size : Nat) : Int) - 1 + (m : Int) * -1).toNat]?) = fun m => xs[xs.size - 1 - m]? := by
    funext m
    rw [show (((xs.size : Nat) : Int) - 1 + (m : Int) * -1).toNat = xs.size - 1 - m by omega]
  rw [e]
  have h : (List.range xs.size).filterMap (fun m => xs[xs.size - 1 - m]?) = ((List.range xs.size).map fun m => xs.size - 1 - m).filterMap (xs[·]?) := by rw [List.filterMap_map]; rfl
  rw [h, PySem.W.krv_range, List.filterMap_reverse, PySem.W.krv_all]
theorem back_applied {sl : Addr} {n : Nat} {tv : Tok} {Q : Int × Int × Nat → Shared → Prop} (hs : s.heap.IsSliceOf sl .none .none (.int (-1) tv)) (h : Q ((n : Int) - 1, -1, n) s) : wpAny (model prog w) A (Builtin.Slice.sliceApplied (.ref sl) (pure (n : Int))) Q E s := by
  obtain ⟨ob, h1, h2, h3⟩ := id hs
  unfold Builtin.Slice.sliceApplied Builtin.Slice.sliceFields
  refine wpAny_bind (wpAny_bind (wpAny_field h1 h3 (x := .none) rfl (wpAny_bind (wpAny_field h1 h3 (x := .none) rfl (wpAny_bind (wpAny_field h1 h3 (x := .int (-1) tv) rfl (wpAny_pure ?_)))))))
  refine wpAny_bind (PyProof.Rows.slicePart_int ?_)
  show wpAny _ _ (if ((-1 : Int) == 0) = true then _ else _) _ _ s
  rw [if_neg (by decide)]
  refine wpAny_bind (PyProof.Rows.slicePart_none (wpAny_bind (PyProof.Rows.slicePart_none (wpAny_bind (wpAny_pure ?_)))))
  show wpAny _ _ (pure ((n : Int) - 1, (-1 : Int), Builtin.Slice.slicePlaces ((n : Int) - 1) (-1) (-1))) _ _ s
  rw [back_places]
  exact wpAny_pure h
theorem getItem_tuple_back {t sl : Addr} {items : Array Value} {tv : Tok} {Q : Value → Shared → Prop} (ht : IsTup s.heap t items) (hs : s.heap.IsSliceOf sl .none .none (.int (-1) tv))
    (h : Q (.ref s.heap.objs.size) { s with heap := s.heap.push { cls := .type "tuple", data := .seq items.toList.reverse.toArray } }) (hsz : items.size ≤ sizeLine) : wpAny (model prog w) A (getItem (.ref t) (.ref sl)) Q E s := by
  have hz : sizeOk (.seq items.toList.reverse.toArray) := by
    show items.toList.reverse.toArray.size ≤ sizeLine
    rw [List.size_toArray, List.length_reverse, Array.length_toList]
    exact hsz
  obtain ⟨ob, h1, h2, h3⟩ := id hs
  have hT : s.TypeIs (.ref sl) "slice" := ⟨ob, h1, h2⟩
  unfold getItem
  try with_reducible refine wpAny_holding ?_
  first | refine wpAny_bind (wpAny_pure ?_) | skip
  refine wpAny_bind (wpAny_sequenceKey ht.typeIs (by decide) (wpAny_bind (wpAny_callSpecial?_slot (name := Str.ofString "__getitem__") ht.typeIs PyProof.Rows.slot_tuple_getitem (wpAny_call_entry PyProof.Rows.slot_tuple_getitem ht.typeIs F.entry_tuple_getitem ?_ (F.args_tuple_getitem_2 _ _)))))
  show wpAny _ _ (Builtin.Tuple.tupleItemsOf (.ref t) >>= _) _ _ s
  refine wpAny_bind (PyProof.Rows.tupleItemsOf_ ht (wpAny_bind (wpAny_typeOf hT ?_)))
  rw [if_pos (by decide)]
  refine wpAny_bind (back_applied hs ?_)
  show wpAny _ _ (if (((items.size : Nat) : Int) - 1 == 0 && (-1 : Int) == 1 && items.size == items.size) = true then _ else _) _ _ s
  rw [if_neg (by rw [show ((-1 : Int) == 1) = false by decide, Bool.and_false, Bool.false_and]; exact Bool.false_ne_true), back_pick]
  first
    | exact wpAny_bind (m := Builtin.Tuple.tupleExact _) (wpAny_newObj_type (wpAny_pure ⟨_, rfl, wpAny_pure h⟩) hz)
    | exact wpAny_bind (m := Builtin.Tuple.tupleExact _) (wpAny_newObj_type (wpAny_bind (wpAny_pure (wpAny_pure ⟨_, rfl, wpAny_pure h⟩))) hz)
    | exact wpAny_bind (wpAny_bind (m := Builtin.Tuple.tupleExact _) (wpAny_newObj_type (wpAny_pure (wpAny_pure ⟨_, rfl, wpAny_pure h⟩)) hz))
    | exact wpAny_bind (wpAny_bind (m := Builtin.Tuple.tupleExact _) (wpAny_newObj_type (wpAny_pure ⟨_, rfl, wpAny_pure h⟩) hz))
end
def tBack (K : PySem.W.Frag) (te : TE) : TE := fun σ H Q => te σ H fun x H1 => ∃ a xs, x = .ref a ∧ ((SqL K H1 a xs ∧ ∀ p, H1 p = none → Q (.ref p) (upd H1 p (.lst xs.reverse))) ∨ (SqT K H1 a xs ∧ ∀ p, H1 p = none → Q (.ref p) (upd H1 p (.tup xs.reverse))))
theorem pe_back {X : Cx} {e : Expr} {te : TE} {k : Nat} {p1 p2 p3 pos : Pos} (he : PE X e te) : PE X (.Subscript e (.Slice none none (some (.UnaryOp .USub (.Constant (.int 1) k p1) p2)) p3) pos) (tBack X.K te) := by
  refine ⟨fun pins s σ H Q I h => Subscript_ (thn (he.run pins s σ H _ I h) fun v s1 ⟨x, H1, I1, r1, a, xs, ex, q1⟩ => ?_)⟩
  subst ex
  cases r1
  have hm1 : PO X (some (.UnaryOp .USub (.Constant (.int 1) k p1) p2)) (tPart (tUn (rU fun i => .int (-i)) (tC (.int 1)))) := po_some (pe_un un_neg pe_int)
  refine wpAny_Slice (thn (po_none.run pins s1 σ H1 (fun o Ha => o = none ∧ Ha = H1) I1 ⟨rfl, rfl⟩) fun v1 s2 ⟨o1, H2, I2, pl, e1, e2⟩ => thn (po_none.run pins s2 σ H2 (fun o Ha => o = none ∧ Ha = H2) I2 ⟨rfl, rfl⟩) fun v2 s3 ⟨o2, H3, I3, pu, e3, e4⟩ =>
    thn (hm1.run pins s3 σ H3 (fun o Ha => o = some (-1) ∧ Ha = H3) I3 ⟨1, rfl, -1, rfl, rfl, rfl⟩) fun v3 s4 ⟨o3, H4, I4, ps, e5, e6⟩ => ?_)
  subst e1 e2 e3 e4 e5 e6
  have I5 : Inv X pins σ H4 { s4 with heap := s4.heap.push { cls := .type "slice", data := .fields #[v1, v2, v3] } } := I4.kept (t' := s4.toks) fun b ob q => Heap.get?_push_of_some _ q
  show wpAny (model X.prog X.w) X.A (subscriptTail e (.Slice none none (some (.UnaryOp .USub (.Constant (.int 1) k p1) p2)) p3) (.ref a) (.ref s4.heap.objs.size)) (EP X pins σ Q) X.xe { s4 with heap := s4.heap.push { cls := .type "slice", data := .fields #[v1, v2, v3] } }
  rcases q1 with ⟨hx, q⟩ | ⟨hx, q⟩
  · obtain ⟨its, r, ht, hz⟩ := I5.list hx
    have hlen := r.length
    refine tail_any (ops := [.ref a, .ref s4.heap.objs.size]) ht.isList.typeIs (PySem.slot_list_getitem.lookup) (wpAny_getItem_list_slice ht.isList (Heap.IsSliceOf.new _ v1 v2 v3) pl pu ps (by decide) ?_ (by rw [List.size_toArray]; omega)) (by with_unfolding_all rfl)
    rw [PySem.W.krv_pick]
    exact ⟨.ref _, _, I5.laid (t' := s4.toks) (o := .lst xs.reverse) (fun b ob q => Heap.get?_push_of_some _ q) (Nat.le_refl _) ⟨by rw [List.length_reverse]; exact hz, _, 0, r.reverse, Heap.get?_push_size _ rfl⟩, rfl, q _ (I5.hok.fresh (Nat.le_refl _))⟩
  · obtain ⟨its, r, ht, hz⟩ := I5.tuple hx
    have hlen := r.length
    cases pl
    cases pu
    cases ps with
    | int i t =>
      refine tail_any (ops := [.ref a, .ref s4.heap.objs.size]) ht.typeIs (PyProof.Rows.slot_tuple_getitem.lookup) (getItem_tuple_back ht (Heap.IsSliceOf.new _ _ _ _) ?_ (by rw [List.size_toArray]; omega)) (by with_unfolding_all rfl)
      exact ⟨.ref _, _, I5.laid (t' := s4.toks) (o := .tup xs.reverse) (fun b ob q => Heap.get?_push_of_some _ q) (Nat.le_refl _) ⟨by rw [List.length_reverse]; exact hz, _, r.reverse, IsTup.new _ _⟩, rfl, q _ (I5.hok.fresh (Nat.le_refl _))⟩
end ND
set_option Elab.async false
set_option linter.all false
set_option maxRecDepth 100000
namespace ND
open PySem PySem.Spec PyProof.Rows L2

/-- the content of a list; of a list or a tuple -/
def LC (S : Store) (d : D) (l : List D) : Prop := match d with
  | .lst l' => l' = l
  | .ref a => S a = some (.lst l)
  | _ => False
def SC (S : Store) (d : D) (l : List D) : Prop := match d with
  | .tup l' => l' = l
  | .lst l' => l' = l
  | .kls l' => l' = l
  | .ref a => S a = some (.lst l)
  | _ => False
section
variable {K : PySem.W.Frag} {B : Blk} {S : Store} {H : Hp}
theorem lc_seq {d : D} {v : V} {l : List D} (rs : RepS K B S H) (r : RepD K B S H d v) (c : LC S d l) : ∃ a xs, v = .ref a ∧ Rd H a (.lst xs) ∧ RepL K B S H l xs := by
  cases d with
  | lst l' =>
    obtain rfl : l' = l := c
    obtain ⟨a, xs, e, t, q⟩ := repD_lst.mp r
    exact ⟨a, xs, e, t.1, q⟩
  | ref a =>
    have c' : S a = some (.lst l) := c
    obtain ⟨xs, e, q⟩ := rs.cell a _ c'
    exact ⟨a, xs, repD_ref.mp r, .inl e, q⟩
  | _ => exact False.elim c
theorem sc_seq {d : D} {v : V} {l : List D} (rs : RepS K B S H) (r : RepD K B S H d v) (c : SC S d l) : ∃ a xs, v = .ref a ∧ (SqL K H a xs ∨ SqT K H a xs) ∧ RepL K B S H l xs := by
  cases d with
  | tup l' =>
    obtain rfl : l' = l := c
    obtain ⟨a, xs, e, t, q⟩ := repD_tup.mp r
    exact ⟨a, xs, e, .inr t.seq, q⟩
  | lst l' =>
    obtain ⟨a, xs, e, t, q⟩ := lc_seq rs r (show LC S (.lst l') l from c)
    exact ⟨a, xs, e, .inl (.inl t), q⟩
  | kls l' =>
    obtain rfl : l' = l := c
    obtain ⟨a, xs, e, t, q⟩ := repD_kls.mp r
    exact ⟨a, xs, e, .inl (.inr t), q⟩
  | ref a =>
    obtain ⟨a, xs, e, t, q⟩ := lc_seq rs r (show LC S (.ref a) l from c)
    exact ⟨a, xs, e, .inl (.inl t), q⟩
  | _ => exact False.elim c
end
section
variable {X : Cx}
theorem lstR {pins : List (Addr × Obj)} {σ : L2.St} {H : Hp} {s : Shared} {a : Addr} {xs : List V} (I : Inv X pins σ H s) (h : Rd H a (.lst xs)) :
    xs.length ≤ sizeLine ∧ ∃ (its : List Value) (n : Nat), Vals xs its ∧ xs.length = its.length ∧ s.heap.get? a = some { cls := .type "list", data := .seq its.toArray n } := by
  obtain ⟨z, its, n, r, e⟩ := h.ok I.hok
  exact ⟨z, its, n, r, r.length, e⟩
theorem lnewR {pins : List (Addr × Obj)} {σ : L2.St} {H : Hp} {s : Shared} {ys : List V} {its : List Value} (I : Inv X pins σ H s) (hv : Vals ys its) (hz : ys.length ≤ sizeLine) :
    Inv X pins σ (upd H s.heap.objs.size (.lst ys)) { s with heap := s.heap.push { cls := .type "list", data := .seq its.toArray }, toks := s.toks } := I.lnew hv hz

/-! ### + and * -/
def rCatR : R2 := fun x y H Q => ∃ l b xs zs, x = .ref l ∧ y = .ref b ∧ Rd H l (.lst xs) ∧ Rd H b (.lst zs) ∧ xs.length + zs.length ≤ sizeLine ∧
  ∀ p, H p = none → Q (.ref p) (upd H p (.lst (xs ++ zs)))
theorem op_catR : OpR X (binaryOp .Add) rCatR := by
  rintro pins s σ H x y v u Q I rx ry ⟨l, b, xs, zs, rfl, rfl, hA, hB, hz, q⟩
  cases rx; cases ry
  obtain ⟨_, i1, n1, r1, l1, g1⟩ := lstR I hA
  obtain ⟨_, i2, n2, r2, l2, g2⟩ := lstR I hB
  refine PySem.P.add_list g1 g2 ?_ (by simp only [List.size_toArray]; omega)
  rw [show i1.toArray ++ i2.toArray = (i1 ++ i2).toArray by simp]
  have len : (xs ++ zs).length ≤ sizeLine := by rw [List.length_append]; exact hz
  exact ⟨.ref _, _, lnewR I (r1.append r2) len, rfl, q _ I.fresh⟩
def oAdd : O2 := fun x y S Q => match x with
  | .int i => (match y with | .int j => Q (.int (i + j)) S | _ => False)
  | .str a => (match y with | .str b => a.length + b.length ≤ sizeLine ∧ Q (.str (a ++ b)) S | _ => False)
  | .tup a => (match y with | .tup b => a.length + b.length ≤ sizeLine ∧ Q (.tup (a ++ b)) S | _ => False)
  | x => ∃ a b, LC S x a ∧ LC S y b ∧ a.length + b.length ≤ sizeLine ∧ Q (.lst (a ++ b)) S
def rAddAll (K : PySem.W.Frag) : R2 := fun x y H Q => rI0 (fun i j => .int (i + j)) x y H Q ∨ (∃ i j, x = .str i ∧ y = .str j ∧ i.length + j.length ≤ sizeLine ∧ Q (.str (i ++ j)) H) ∨ rCatA K x y H Q ∨ rCatR x y H Q
theorem op_addAll : OpR X (binaryOp .Add) (rAddAll X.K) := op_add.or (op_add_str.or (op_catA.or op_catR))
theorem od_add : OD X (binaryOp .Add) oAdd := OD.of op_addAll fun B S H x y vx vy Qd Q rs rx ry q l => by
  have lists : (∃ a b, LC S x a ∧ LC S y b ∧ a.length + b.length ≤ sizeLine ∧ Qd (.lst (a ++ b)) S) → rAddAll X.K vx vy H Q := by
    rintro ⟨a, b, ca, cb, hz, q⟩
    obtain ⟨p1, xs, rfl, h1, r1⟩ := lc_seq rs rx ca
    obtain ⟨p2, ys, rfl, h2, r2⟩ := lc_seq rs ry cb
    exact .inr (.inr (.inr ⟨p1, p2, xs, ys, rfl, rfl, h1, h2, by rw [← r1.len, ← r2.len]; exact hz, fun p n => l.lst rs (r1.app r2) q n⟩))
  cases x with
  | int i =>
    cases y with
    | int j => rw [repD_int] at rx ry; exact .inl ⟨i, j, rx, ry, l S H _ _ .refl rs (repD_int.mpr rfl) q⟩
    | _ => exact False.elim q
  | str a =>
    cases y with
    | str b => rw [repD_str] at rx ry; exact .inr (.inl ⟨a, b, rx, ry, q.1, l S H _ _ .refl rs (repD_str.mpr rfl) q.2⟩)
    | _ => exact False.elim q
  | tup a =>
    cases y with
    | tup b =>
      obtain ⟨p1, xs, e1, h1, r1⟩ := repD_tup.mp rx
      obtain ⟨p2, ys, e2, h2, r2⟩ := repD_tup.mp ry
      refine .inr (.inr (.inl ⟨p1, p2, xs, ys, e1, e2, h1.seq, h2.seq, by rw [← r1.len, ← r2.len]; exact q.1, fun e => ?_, fun _ e => ?_, fun _ _ p n => l.tup rs (r1.app r2) q.2 n⟩))
      · subst e
        have ea : a = [] := List.eq_nil_of_length_eq_zero r1.len
        subst ea
        rw [← e2]
        exact l S H _ _ .refl rs ry q.2
      · subst e
        have eb : b = [] := List.eq_nil_of_length_eq_zero r2.len
        subst eb
        rw [← e1]
        have q2 := q.2
        rw [List.append_nil] at q2
        exact l S H _ _ .refl rs rx q2
    | _ => exact False.elim q
  | lst a => exact lists q
  | ref a => exact lists q
  | non => exact lists q
  | bl b => exact lists q
  | kls b => exact lists q
  | fn b => exact lists q
def oAddM : O2 := fun x y S Q => ∃ a b, LC S x a ∧ LC S y b ∧ a.length + b.length ≤ sizeLine ∧ ∀ p, S p = none → Q (.ref p) (sput S p (.lst (a ++ b)))
theorem od_addM : OD X (binaryOp .Add) oAddM := OD.of op_catR fun B S H x y vx vy Qd Q rs rx ry ⟨a, b, ca, cb, hz, q⟩ l => by
  obtain ⟨p1, xs, rfl, h1, r1⟩ := lc_seq rs rx ca
  obtain ⟨p2, ys, rfl, h2, r2⟩ := lc_seq rs ry cb
  exact ⟨p1, p2, xs, ys, rfl, rfl, h1, h2, by rw [← r1.len, ← r2.len]; exact hz, fun p n => l.cell rs (r1.app r2) q n⟩
def rRepR : R2 := fun x y H Q => ∃ l k xs, x = .ref l ∧ y = .int k ∧ Rd H l (.lst xs) ∧ -(2 ^ 63) ≤ k ∧ k < 2 ^ 63 ∧ xs.length * k.toNat ≤ sizeLine ∧
  ∀ p, H p = none → Q (.ref p) (upd H p (.lst (List.replicate k.toNat xs).flatten))
theorem op_repR : OpR X (binaryOp .Mult) rRepR := by
  rintro pins s σ H x y v u Q I rx ry ⟨l, k, xs, rfl, rfl, hA, h1, h2, hz, q⟩
  obtain ⟨z1, its, n, r1, hl, e2⟩ := lstR I hA
  cases rx
  obtain ⟨t, rfl⟩ := ry
  have big : ¬ its.toArray.size * k.toNat > (2 ^ 63 - 1) / 8 := by
    have e3 : (sizeLine : Nat) ≤ (2 ^ 63 - 1) / 8 := by decide
    rw [List.size_toArray, ← hl]
    omega
  have fit : ¬ (!Builtin.List.listFitsIndex k) = true := by rw [fitsIndex_both h1 h2]; decide
  have lng : ¬ Builtin.List.listTooLong (its.toArray.size * k.toNat) = true := by
    rw [List.size_toArray, ← hl, notLongL hz]; decide
  have made : List.foldl (fun (u v : Array Value) => u ++ v) #[] (List.replicate (if its.toArray.isEmpty = true then 0 else k.toNat) its.toArray) = (List.replicate k.toNat its).flatten.toArray := by
    rw [show List.foldl (fun (u v : Array Value) => u ++ v) #[] (List.replicate (if its.toArray.isEmpty = true then 0 else k.toNat) its.toArray) =
      (List.replicate (if its.toArray.isEmpty = true then 0 else k.toNat) its).flatten.toArray by simpa using foldl_rep its _ []]
    cases its with
    | nil => simp
    | cons a r' => simp
  have sz : (List.replicate k.toNat xs).flatten.length ≤ sizeLine := by rw [PyProof.Rows.lm_len_rep_flat, Nat.mul_comm]; exact hz
  refine wpAny_binaryOp_repeat_ref (T := "list") (U := "int") (by decide) ⟨_, e2, rfl⟩ (fun s' => typeIs_int s' k t)
    noFill_list_mul F.fills_int_mul F.slot_int_rmul repeat_list F.slot_int_index.lookup ?_
  refine call_meets F.slot_int_rmul (typeIs_int s k t) F.entry_int_rmul (F.args_int_rmul_2 _ _) (int___rmul___int_list k t l its.toArray n) ⟨e2, rfl, ⟨_, e2, rfl⟩, ?_⟩
  refine call_meets F.slot_list_mul ⟨_, e2, rfl⟩ F.entry_list_mul (F.args_list_mul_2 _ _) (AutoListH.list___mul___list_int_3 l its.toArray n k t fit big lng) ⟨e2, ?_⟩
  rw [made]
  exact ⟨.ref _, _, lnewR I (r1.rep k.toNat) sz, rfl, q _ I.fresh⟩
def oMul : O2 := fun x y S Q => match y with
  | .int j => (match x with
    | .int i => CMulW i j ∧ Q (.int (i * j)) S
    | .tup a => -(2 ^ 63) ≤ j ∧ j < 2 ^ 63 ∧ (j ≤ 1 ∨ (j ≤ 1000 ∧ a.length ≤ 1000)) ∧ Q (.tup (List.replicate j.toNat a).flatten) S
    | x => ∃ a, LC S x a ∧ -(2 ^ 63) ≤ j ∧ j < 2 ^ 63 ∧ a.length * j.toNat ≤ sizeLine ∧ Q (.lst (List.replicate j.toNat a).flatten) S)
  | _ => False
theorem od_mul : OD X (binaryOp .Mult) oMul := OD.of (op_mulW.or (op_repR.or op_repA)) fun B S H x y vx vy Qd Q rs rx ry q l => by
  cases y with
  | int j =>
    rw [repD_int] at ry
    have lists : (∃ a, LC S x a ∧ -(2 ^ 63) ≤ j ∧ j < 2 ^ 63 ∧ a.length * j.toNat ≤ sizeLine ∧ Qd (.lst (List.replicate j.toNat a).flatten) S) → rRepR vx vy H Q := by
      rintro ⟨a, ca, h1, h2, hz, q⟩
      obtain ⟨p1, xs, rfl, h3, r1⟩ := lc_seq rs rx ca
      exact ⟨p1, j, xs, rfl, ry, h3, h1, h2, by rw [← r1.len]; exact hz, fun p n => l.lst rs (r1.flat _) q n⟩
    cases x with
    | int i => rw [repD_int] at rx; exact .inl ⟨i, j, rx, ry, q.1, l S H _ _ .refl rs (repD_int.mpr rfl) q.2⟩
    | str a => exact .inr (.inl (lists q))
    | tup a =>
      obtain ⟨h1, h2, h3, q⟩ := q
      obtain ⟨p1, xs, rfl, h, rl⟩ := repD_tup.mp rx
      refine .inr (.inr ⟨p1, j, xs, rfl, ry, h.seq, h1, h2, by rw [← rl.len]; exact h3, fun hc => ?_, fun p n => l.tup rs (rl.flat _) q n⟩)
      have e : (List.replicate j.toNat a).flatten = a := by
        rcases hc with hc | hc
        · subst hc
          have : a = [] := List.eq_nil_of_length_eq_zero rl.len
          subst this
          simp
        · subst hc
          simp
      rw [e] at q
      exact l S H _ _ .refl rs rx q
    | lst a => exact .inr (.inl (lists q))
    | ref a => exact .inr (.inl (lists q))
    | non => exact .inr (.inl (lists q))
    | bl b => exact .inr (.inl (lists q))
    | kls b => exact .inr (.inl (lists q))
    | fn b => exact .inr (.inl (lists q))
  | _ => exact False.elim q
def oRepM : O2 := fun x y S Q => match y with
  | .int j => ∃ a, LC S x a ∧ -(2 ^ 63) ≤ j ∧ j < 2 ^ 63 ∧ a.length * j.toNat ≤ sizeLine ∧ ∀ p, S p = none → Q (.ref p) (sput S p (.lst (List.replicate j.toNat a).flatten))
  | _ => False
theorem od_repM : OD X (binaryOp .Mult) oRepM := OD.of op_repR fun B S H x y vx vy Qd Q rs rx ry q l => by
  cases y with
  | int j =>
    rw [repD_int] at ry
    obtain ⟨a, ca, h1, h2, hz, q⟩ := q
    obtain ⟨p1, xs, rfl, h3, r1⟩ := lc_seq rs rx ca
    exact ⟨p1, j, xs, rfl, ry, h3, h1, h2, by rw [← r1.len]; exact hz, fun p n => l.cell rs (r1.flat _) q n⟩
  | _ => exact False.elim q

/-! ### an item, a part -/
def oIx : O2 := fun x y S Q => match y with
  | .int i => (match x with
    | .str z => ∃ c, atI z.cps.toList i = some c ∧ z.length ≤ sizeLine ∧ Q (.str ⟨#[c]⟩) S
    | x => ∃ l d, SC S x l ∧ atI l i = some d ∧ Q d S)
  | _ => False
theorem atI_rep {K : PySem.W.Frag} {B : Blk} {S : Store} {H : Hp} {l : List D} {xs : List V} (r : RepL K B S H l xs) {i : Int} {d : D} (h : atI l i = some d) : ∃ v, atI xs i = some v ∧ RepD K B S H d v := by
  unfold atI at h ⊢
  rw [← r.len]
  cases e : ixN l.length i with
  | none => rw [e] at h; cases h
  | some j =>
    rw [e] at h
    exact r.get h
def ODx (X : Cx) (o : O2) : Prop := IxR X (rD X.K o)
theorem odx_ix : ODx X oIx := fun va sl pins s σ H vx vy v u Q I r1 r2 ⟨B, S, x, y, Qd, rs, rx, ry, q, l⟩ hsub => by
  refine ix_seq va sl pins s σ H vx vy v u Q I r1 r2 ?_ hsub
  cases y with
  | int i =>
    rw [repD_int] at ry
    have seqs : (∃ m d, SC S x m ∧ atI m i = some d ∧ Qd d S) → rIx X.K vx vy H Q := by
      rintro ⟨m, d, c, e, q⟩
      obtain ⟨a, xs, rfl, h, rl⟩ := sc_seq rs rx c
      obtain ⟨v', e1, rd⟩ := atI_rep rl e
      rcases h with h | h
      · exact .inl ⟨a, xs, i, v', rfl, ry, h, e1, l S H d v' .refl rs rd q⟩
      · exact .inr (.inl ⟨a, xs, i, v', rfl, ry, h, e1, l S H d v' .refl rs rd q⟩)
    cases x with
    | str z =>
      rw [repD_str] at rx
      obtain ⟨c, e, hz, q⟩ := q
      exact .inr (.inr ⟨z, i, c, rx, ry, hz, e, l S H _ _ .refl rs (repD_str.mpr rfl) q⟩)
    | int a => exact seqs q
    | tup a => exact seqs q
    | lst a => exact seqs q
    | ref a => exact seqs q
    | non => exact seqs q
    | bl b => exact seqs q
    | kls b => exact seqs q
    | fn b => exact seqs q
  | _ => exact False.elim q
theorem de_ix {a b : Expr} {pos : Pos} {o : O2} {ta tb : WE} (ho : ODx X o) (ha : DE X a ta) (hb : DE X b tb) (hs : PlainIx b := by intro _ _; rfl) : DE X (.Subscript a b pos) (w2 o ta tb) :=
  PE.mono (pe_ix ho ha hb hs) fun σ H Q ⟨B, env, S, Qd, re, rs, q, l⟩ =>
    ⟨B, env, S, _, re, rs, q, fun S1 H1 x vx g1 rs1 rx q1 => ⟨B, env, S1, _, re.grow g1, rs1, q1, fun S2 H2 y vy g2 rs2 ry q2 => ⟨B, S2, x, y, Qd, rs2, RepD.grow g2 _ _ rx, ry, q2, l.grow (g1.trans g2)⟩⟩⟩
def cutD (l : List D) (lo hi : Option Int) : List D := (l.drop (HT.sIx l.length 0 lo)).take (HT.sIx l.length l.length hi - HT.sIx l.length 0 lo)
theorem cut_rep {K : PySem.W.Frag} {B : Blk} {S : Store} {H : Hp} {l : List D} {xs : List V} (r : RepL K B S H l xs) (lo hi : Option Int) : RepL K B S H (cutD l lo hi) (cutV xs lo hi) := by
  unfold cutD cutV
  rw [← r.len]
  exact (r.drop _).take _
/-- an optional bound of a part -/
abbrev WO := Slots → Store → (Option Int → Store → Prop) → Prop
def tDO (K : PySem.W.Frag) (t : WO) : TO := fun σ H Q => ∃ B env S Qd, RepE K B S H env σ ∧ RepS K B S H ∧ t env S Qd ∧ ∀ S' H' o, Grow S H S' H' → RepS K B S' H' → Qd o S' → Q o H'
def DO (X : Cx) (e : Option Expr) (t : WO) : Prop := PO X e (tDO X.K t)
def wNoP : WO := fun _ S Q => Q none S
def wP (t : WE) : WO := fun env S Q => t env S fun d S1 => match d with | .int i => Q (some i) S1 | _ => False
theorem do_none : DO X none wNoP := ⟨fun pins s σ H Q I ⟨B, env, S, Qd, re, rs, q, l⟩ => po_none.run pins s σ H Q I (l S H none .refl rs q)⟩
theorem do_some {e : Expr} {t : WE} (h : DE X e t) : DO X (some e) (wP t) := ⟨fun pins s σ H Q I ⟨B, env, S, Qd, re, rs, q, l⟩ => (po_some h).run pins s σ H Q I
  ⟨B, env, S, _, re, rs, q, fun S1 H1 d v g1 rs1 rd q1 => by
    cases d with
    | int i => rw [repD_int] at rd; exact ⟨i, rd, l S1 H1 _ g1 rs1 q1⟩
    | _ => exact False.elim q1⟩⟩
def oSl (x : D) (lo hi : Option Int) (S : Store) (Q : D → Store → Prop) : Prop := match x with
  | .tup l => Q (.tup (cutD l lo hi)) S
  | .str z => z.length ≤ sizeLine ∧ Q (.str (cutS z lo hi)) S
  | .kls l => Q (.lst (cutD l lo hi)) S
  | x => ∃ l, LC S x l ∧ Q (.lst (cutD l lo hi)) S
def wSl (t : WE) (tl th : WO) : WE := fun env S Q => t env S fun x S1 => tl env S1 fun a S2 => th env S2 fun b S3 => oSl x a b S3 Q
theorem sl_all : SlR X (fun x lo hi H Q => rSlA X.K x lo hi H Q ∨ rSlS x lo hi H Q ∨ rSlL X.K x lo hi H Q) := sl_tupA.or (sl_str.or sl_list)
theorem sl_rep {B : Blk} {S : Store} {H : Hp} {x : D} {vx : V} {lo hi : Option Int} {Qd : D → Store → Prop} {Q : VK} (rs : RepS X.K B S H) (rx : RepD X.K B S H x vx) (q : oSl x lo hi S Qd) (l : Lift X.K B S H Qd Q) :
    rSlA X.K vx lo hi H Q ∨ rSlS vx lo hi H Q ∨ rSlL X.K vx lo hi H Q := by
  have lists : (∃ m, LC S x m ∧ Qd (.lst (cutD m lo hi)) S) → rSlL X.K vx lo hi H Q := by
    rintro ⟨m, c, q⟩
    obtain ⟨a, xs, rfl, h, rl⟩ := lc_seq rs rx c
    exact ⟨a, xs, rfl, .inl h, fun p n => l.lst rs (cut_rep rl lo hi) q n⟩
  cases x with
  | tup m =>
    obtain ⟨a, xs, e, h, rl⟩ := repD_tup.mp rx
    refine .inl ⟨a, xs, e, h.seq, fun w => ?_, fun _ p n => l.tup rs (cut_rep rl lo hi) q n⟩
    have em : cutD m lo hi = m := by
      unfold cutD
      rw [rl.len, w.1, w.2]
      simp [← rl.len]
    have q' : Qd (.tup (cutD m lo hi)) S := q
    rw [em] at q'
    rw [← e]
    exact l S H _ _ .refl rs rx q'
  | str z => rw [repD_str] at rx; exact .inr (.inl ⟨z, rx, q.1, l S H _ _ .refl rs (repD_str.mpr rfl) q.2⟩)
  | int a => exact .inr (.inr (lists q))
  | lst a => exact .inr (.inr (lists q))
  | ref a => exact .inr (.inr (lists q))
  | non => exact .inr (.inr (lists q))
  | bl b => exact .inr (.inr (lists q))
  | fn b => exact .inr (.inr (lists q))
  | kls m =>
    obtain ⟨a, xs, e, h, rl⟩ := repD_kls.mp rx
    exact .inr (.inr ⟨a, xs, e, .inr h, fun p n => l.lst rs (cut_rep rl lo hi) q n⟩)
theorem de_slice {e : Expr} {lo hi : Option Expr} {p2 pos : Pos} {t : WE} {tl th : WO} (he : DE X e t) (hl : DO X lo tl) (hh : DO X hi th) : DE X (.Subscript e (.Slice lo hi none p2) pos) (wSl t tl th) :=
  PE.mono (pe_slice sl_all he hl hh) fun σ H Q ⟨B, env, S, Qd, re, rs, q, l⟩ =>
    ⟨B, env, S, _, re, rs, q, fun S1 H1 x vx g1 rs1 rx q1 => ⟨B, env, S1, _, re.grow g1, rs1, q1, fun S2 H2 a g2 rs2 q2 => ⟨B, env, S2, _, re.grow (g1.trans g2), rs2, q2, fun S3 H3 b g3 rs3 q3 =>
      sl_rep rs3 (RepD.grow (g2.trans g3) _ _ rx) q3 (l.grow (g1.trans (g2.trans g3)))⟩⟩⟩
def oRev : O1 := fun x S Q => match x with
  | .tup l => Q (.tup l.reverse) S
  | x => ∃ l, LC S x l ∧ Q (.lst l.reverse) S
theorem de_rev {e : Expr} {t : WE} {k : Nat} {p1 p2 p3 pos : Pos} (he : DE X e t) : DE X (.Subscript e (.Slice none none (some (.UnaryOp .USub (.Constant (.int 1) k p1) p2)) p3) pos) (w1 oRev t) :=
  PE.mono (pe_back he) fun σ H Q ⟨B, env, S, Qd, re, rs, q, l⟩ => ⟨B, env, S, _, re, rs, q, fun S1 H1 x vx g1 rs1 rx q1 => by
    have lists : (∃ m, LC S1 x m ∧ Qd (.lst m.reverse) S1) → ∃ a xs, vx = .ref a ∧ ((SqL X.K H1 a xs ∧ ∀ p, H1 p = none → Q (.ref p) (upd H1 p (.lst xs.reverse))) ∨ (SqT X.K H1 a xs ∧ ∀ p, H1 p = none → Q (.ref p) (upd H1 p (.tup xs.reverse)))) := by
      rintro ⟨m, c, q1⟩
      obtain ⟨a, xs, rfl, h, rl⟩ := lc_seq rs1 rx c
      exact ⟨a, xs, rfl, .inl ⟨.inl h, fun p n => (l.grow g1).lst rs1 rl.rev q1 n⟩⟩
    cases x with
    | tup m =>
      obtain ⟨a, xs, rfl, h, rl⟩ := repD_tup.mp rx
      exact ⟨a, xs, rfl, .inr ⟨h.seq, fun p n => (l.grow g1).tup rs1 rl.rev q1 n⟩⟩
    | _ => exact lists q1⟩

/-! ### == -/
mutual
def toP : D → PyData
  | .non => .none
  | .bl b => .bool b
  | .int i => .int i
  | .str x => .str x
  | .tup l => .tuple (toPs l)
  | .lst l => .list (toPs l)
  | .ref _ => .dict []
  | .kls _ => .dict []
  | .fn _ => .dict []
def toPs : List D → List PyData
  | [] => []
  | d :: l => toP d :: toPs l
def noRef : D → Bool
  | .ref _ => false
  | .kls _ => false
  | .fn _ => false
  | .tup l => noRefs l
  | .lst l => noRefs l
  | _ => true
def noRefs : List D → Bool
  | [] => true
  | d :: l => noRef d && noRefs l
end
mutual
theorem dp_of {K : PySem.W.Frag} {B : Blk} {S : Store} {H : Hp} : ∀ (d : D) (v : V), RepD K B S H d v → noRef d = true → Dp K H v (toP d)
  | .non, v, r, _ => by rw [repD_non] at r; subst r; unfold toP; exact .non
  | .bl b, v, r, _ => by rw [repD_bl] at r; subst r; unfold toP; exact .bl b
  | .int i, v, r, _ => by rw [repD_int] at r; subst r; unfold toP; exact .int i
  | .str x, v, r, _ => by rw [repD_str] at r; subst r; unfold toP; exact .str x
  | .tup l, v, r, n => by
    obtain ⟨a, xs, rfl, t, rl⟩ := repD_tup.mp r
    unfold toP
    unfold noRef at n
    exact .tup t.seq (dps_of l xs rl n)
  | .lst l, v, r, n => by
    obtain ⟨a, xs, rfl, t, rl⟩ := repD_lst.mp r
    unfold toP
    unfold noRef at n
    exact .lst t.seq (dps_of l xs rl n)
  | .ref a, v, r, n => by unfold noRef at n; cases n
  | .kls a, v, r, n => by unfold noRef at n; cases n
  | .fn a, v, r, n => by unfold noRef at n; cases n
theorem dps_of {K : PySem.W.Frag} {B : Blk} {S : Store} {H : Hp} : ∀ (l : List D) (xs : List V), RepL K B S H l xs → noRefs l = true → DpAll K H xs (toPs l)
  | [], xs, r, _ => by rw [repL_nil] at r; subst r; unfold toPs; exact .nil
  | d :: l, xs, r, n => by
    obtain ⟨v, xs', rfl, rd, rl⟩ := repL_cons.mp r
    unfold noRefs at n
    rw [Bool.and_eq_true] at n
    unfold toPs
    exact .cons (dp_of d v rd n.1) (dps_of l xs' rl n.2)
end
/-- a list that may change, as it stands -/
def seen (S : Store) (d : D) (d' : D) : Prop := match d with
  | .ref a => ∃ l, S a = some (.lst l) ∧ d' = .lst l
  | d => d' = d
theorem dp_seen {K : PySem.W.Frag} {B : Blk} {S : Store} {H : Hp} {d d' : D} {v : V} (rs : RepS K B S H) (r : RepD K B S H d v) (h : seen S d d') (n : noRef d' = true) : Dp K H v (toP d') := by
  cases d with
  | ref a =>
    obtain ⟨l, e, rfl⟩ := h
    obtain ⟨xs, e1, rl⟩ := rs.cell a _ e
    rw [repD_ref] at r
    subst r
    unfold toP
    unfold noRef at n
    exact .lst (.of e1) (dps_of l xs rl n)
  | non => obtain rfl : d' = _ := h; exact dp_of _ v r n
  | bl b => obtain rfl : d' = _ := h; exact dp_of _ v r n
  | int i => obtain rfl : d' = _ := h; exact dp_of _ v r n
  | str x => obtain rfl : d' = _ := h; exact dp_of _ v r n
  | tup l => obtain rfl : d' = _ := h; exact dp_of _ v r n
  | lst l => obtain rfl : d' = _ := h; exact dp_of _ v r n
  | kls l => obtain rfl : d' = _ := h; exact dp_of _ v r n
  | fn l => obtain rfl : d' = _ := h; exact dp_of _ v r n
/-- a truth, or its contrary -/
def nb (neg b : Bool) : Bool := match neg with
  | true => !b
  | false => b
def okP (d : D) : Prop := noRef d = true ∧ SeqAt.shaped (toP d) = true
def deq (x y : D) : Bool := PyData.eqv (toP x) (toP y)
/-- == as the rule has it; with ints side by side nothing is asked -/
def oEqB (neg : Bool) : O2 := fun x y S Q => match x, y with
  | .int i, .int j => Q (.bl (nb neg (decide (i = j)))) S
  | x, y => ∃ x' y', seen S x x' ∧ seen S y y' ∧ okP x' ∧ okP y' ∧ Q (.bl (nb neg (deq x' y'))) S
abbrev oEq : O2 := oEqB false
abbrev oNe : O2 := oEqB true
theorem od_eq (hu : X.A.units + 64 < cLine) : OD X (compareOp .Eq) oEq := OD.of (OpR.or op_eq (op_eqD hu)) fun B S H x y vx vy Qd Q rs rx ry q l => by
  have gen : (∃ x' y', seen S x x' ∧ seen S y y' ∧ okP x' ∧ okP y' ∧ Qd (.bl (deq x' y')) S) → rEqD X.K vx vy H Q := by
    rintro ⟨x', y', h1, h2, ⟨n1, s1⟩, ⟨n2, s2⟩, q⟩
    exact ⟨_, _, dp_seen rs rx h1 n1, dp_seen rs ry h2 n2, s1, s2, l S H _ _ .refl rs (repD_bl.mpr rfl) q⟩
  by_cases hi : ∃ i j, x = .int i ∧ y = .int j
  · obtain ⟨i, j, rfl, rfl⟩ := hi
    have q' : Qd (.bl (nb false (decide (i = j)))) S := q
    rw [repD_int] at rx ry
    subst rx ry
    refine .inl ⟨rfl, ?_⟩
    rw [show decide (V.int i = V.int j) = decide (i = j) by simp]
    exact l S H _ _ .refl rs (repD_bl.mpr rfl) q'
  · refine .inr (gen ?_)
    have q' : ∃ x' y', seen S x x' ∧ seen S y y' ∧ okP x' ∧ okP y' ∧ Qd (.bl (nb false (deq x' y'))) S := by
      cases x with
      | int i => cases y with
        | int j => exact absurd ⟨i, j, rfl, rfl⟩ hi
        | _ => exact q
      | _ => exact q
    exact q'
theorem od_ne (hu : X.A.units + 64 < cLine) : OD X (compareOp .NotEq) oNe := OD.of (OpR.or op_ne (op_neD hu)) fun B S H x y vx vy Qd Q rs rx ry q l => by
  have gen : (∃ x' y', seen S x x' ∧ seen S y y' ∧ okP x' ∧ okP y' ∧ Qd (.bl (!deq x' y')) S) → rNeD X.K vx vy H Q := by
    rintro ⟨x', y', h1, h2, ⟨n1, s1⟩, ⟨n2, s2⟩, q⟩
    exact ⟨_, _, dp_seen rs rx h1 n1, dp_seen rs ry h2 n2, s1, s2, l S H _ _ .refl rs (repD_bl.mpr rfl) q⟩
  by_cases hi : ∃ i j, x = .int i ∧ y = .int j
  · obtain ⟨i, j, rfl, rfl⟩ := hi
    have q' : Qd (.bl (nb true (decide (i = j)))) S := q
    rw [repD_int] at rx ry
    subst rx ry
    refine .inl ⟨rfl, ?_⟩
    rw [show decide (V.int i = V.int j) = decide (i = j) by simp]
    exact l S H _ _ .refl rs (repD_bl.mpr rfl) q'
  · refine .inr (gen ?_)
    have q' : ∃ x' y', seen S x x' ∧ seen S y y' ∧ okP x' ∧ okP y' ∧ Qd (.bl (nb true (deq x' y'))) S := by
      cases x with
      | int i => cases y with
        | int j => exact absurd ⟨i, j, rfl, rfl⟩ hi
        | _ => exact q
      | _ => exact q
    exact q'
/-! ### is None -/
def isNon : D → Bool
  | .non => true
  | _ => false
def oIsN (neg : Bool) : O2 := fun x y S Q => match y with | .non => Q (.bl (nb neg (isNon x))) S | _ => False
theorem isNon_rep {K : PySem.W.Frag} {B : Blk} {S : Store} {H : Hp} {d : D} {v : V} (r : RepD K B S H d v) : decide (v = .non) = isNon d := by
  cases d with
  | non => rw [repD_non] at r; subst r; rfl
  | bl b => rw [repD_bl] at r; subst r; rfl
  | int i => rw [repD_int] at r; subst r; rfl
  | str x => rw [repD_str] at r; subst r; rfl
  | tup l => obtain ⟨a, xs, rfl, _⟩ := repD_tup.mp r; rfl
  | lst l => obtain ⟨a, xs, rfl, _⟩ := repD_lst.mp r; rfl
  | ref a => rw [repD_ref] at r; subst r; rfl
  | kls l => obtain ⟨a, xs, rfl, _⟩ := repD_kls.mp r; rfl
  | fn l => obtain ⟨a, _, rfl⟩ := repD_fn.mp r; rfl
theorem od_is : OD X (compareOp .Is) (oIsN false) := OD.of op_isN fun B S H x y vx vy Qd Q rs rx ry q l => by
  cases y with
  | non =>
    have q' : Qd (.bl (nb false (isNon x))) S := q
    exact ⟨repD_non.mp ry, by rw [isNon_rep rx]; exact l S H _ _ .refl rs (repD_bl.mpr rfl) q'⟩
  | _ => exact False.elim q
theorem od_isnot : OD X (compareOp .IsNot) (oIsN true) := OD.of op_notN fun B S H x y vx vy Qd Q rs rx ry q l => by
  cases y with
  | non =>
    have q' : Qd (.bl (nb true (isNon x))) S := q
    exact ⟨repD_non.mp ry, by rw [isNon_rep rx]; exact l S H _ _ .refl rs (repD_bl.mpr rfl) q'⟩
  | _ => exact False.elim q
end
end ND
set_option Elab.async false
set_option linter.all false
set_option maxRecDepth 100000
namespace ND
open PySem PySem.Spec PyProof.Rows L2

section
variable {X : Cx}
/-! ### built-in functions -/
def wCall (o : On) (t : WA) : WE := fun env S Q => t env S fun ds S1 => o ds S1 Q
theorem de_callB {x : Str} {p pos : Pos} {e : Expr} {es : List Expr} {t : WA} {id : String} {o : On} (hc : CD X (.builtin id) o) (hg : Gl X x) (hm : X.mg x = none) (hv : bootBuiltins x = some (.builtin id)) (ha : DA X (e :: es) t) (hn : x ≠ "__name__" := by decide) (hdb : (x == ("__debug__" : Str)) = false := by decide)
    (he : starEach (e :: es) X.env = (false, eval e X.env) :: starEach es X.env := by rfl) (hpl : (backTo pos (starEach es X.env)).any (·.1) = false := by rfl) : DE X (.Call (.Name x p) (e :: es) [] pos) (wCall o t) :=
  PE.mono (pe_callB hc hg hm hv ha hn hdb he hpl) fun σ H Q ⟨B, env, S, Qd, re, rs, q, l⟩ =>
    ⟨B, env, S, _, re, rs, q, fun S1 H1 ds vs g1 rs1 rds q1 => ⟨B, S1, ds, Qd, rs1, rds, q1, l.grow g1⟩⟩
theorem de_callTy {x : Str} {p pos : Pos} {e : Expr} {es : List Expr} {t : WA} {T : String} {o : On} (hc : CD X (.type T) o) (hg : Gl X x) (hm : X.mg x = none) (hv : bootBuiltins x = some (.type T)) (ha : DA X (e :: es) t) (hn : x ≠ "__name__" := by decide) (hdb : (x == ("__debug__" : Str)) = false := by decide)
    (he : starEach (e :: es) X.env = (false, eval e X.env) :: starEach es X.env := by rfl) (hpl : (backTo pos (starEach es X.env)).any (·.1) = false := by rfl) : DE X (.Call (.Name x p) (e :: es) [] pos) (wCall o t) :=
  PE.mono (pe_callTy hc hg hm hv ha hn hdb he hpl) fun σ H Q ⟨B, env, S, Qd, re, rs, q, l⟩ =>
    ⟨B, env, S, _, re, rs, q, fun S1 H1 ds vs g1 rs1 rds q1 => ⟨B, S1, ds, Qd, rs1, rds, q1, l.grow g1⟩⟩
theorem repL1 {K : PySem.W.Frag} {B : Blk} {S : Store} {H : Hp} {d : D} {vs : List V} (h : RepL K B S H [d] vs) : ∃ v, vs = [v] ∧ RepD K B S H d v := by
  obtain ⟨v, r, rfl, h1, h2⟩ := repL_cons.mp h
  rw [repL_nil] at h2
  subst h2
  exact ⟨v, rfl, h1⟩
theorem repL2 {K : PySem.W.Frag} {B : Blk} {S : Store} {H : Hp} {d e : D} {vs : List V} (h : RepL K B S H [d, e] vs) : ∃ v u, vs = [v, u] ∧ RepD K B S H d v ∧ RepD K B S H e u := by
  obtain ⟨v, r, rfl, h1, h2⟩ := repL_cons.mp h
  obtain ⟨u, rfl, h3⟩ := repL1 h2
  exact ⟨v, u, rfl, h1, h3⟩
def o1 (o : O1) : On := fun ds S Q => match ds with | [x] => o x S Q | _ => False
def oLen : On := o1 fun x S Q => match x with
  | .str z => z.length ≤ sizeLine ∧ Q (.int z.length) S
  | x => ∃ l, SC S x l ∧ Q (.int l.length) S
theorem cd_len : CD X (.builtin "len") oLen := CD.of (CallR.or call_len_seq call_len_str) fun B S H ds vs Qd Q rs r q l => by
  match ds, q with
  | [x], q =>
    obtain ⟨v, rfl, rx⟩ := repL1 r
    have seqs : (∃ m, SC S x m ∧ Qd (.int m.length) S) → (∃ p ys, [v] = [V.ref p] ∧ (SqL X.K H p ys ∨ SqT X.K H p ys) ∧ Q (.int ys.length) H) := by
      rintro ⟨m, c, q⟩
      obtain ⟨a, xs, rfl, h, rl⟩ := sc_seq rs rx c
      refine ⟨a, xs, rfl, h, ?_⟩
      rw [← rl.len]
      exact l S H _ _ .refl rs (repD_int.mpr rfl) q
    cases x with
    | str z => rw [repD_str] at rx; subst rx; exact .inr ⟨z, rfl, q.1, l S H _ _ .refl rs (repD_int.mpr rfl) q.2⟩
    | int a => exact .inl (seqs q)
    | tup a => exact .inl (seqs q)
    | lst a => exact .inl (seqs q)
    | ref a => exact .inl (seqs q)
    | non => exact .inl (seqs q)
    | bl b => exact .inl (seqs q)
    | kls b => exact .inl (seqs q)
    | fn b => exact .inl (seqs q)
  | [], q => exact False.elim q
  | _ :: _ :: _, q => exact False.elim q
def oTuple : On := o1 fun x S Q => ∃ l, SC S x l ∧ Q (.tup l) S
theorem cd_tuple : CD X (.type "tuple") oTuple := CD.of call_tuple_of fun B S H ds vs Qd Q rs r q l => by
  match ds, q with
  | [x], q =>
    obtain ⟨v, rfl, rx⟩ := repL1 r
    obtain ⟨m, c, q⟩ := q
    cases x with
    | tup m' =>
      obtain rfl : m' = m := c
      obtain ⟨a, xs, rfl, h, rl⟩ := repD_tup.mp rx
      exact ⟨a, xs, rfl, .inr ⟨h.seq, l S H _ _ .refl rs rx q⟩⟩
    | lst m' =>
      obtain ⟨a, xs, rfl, h, rl⟩ := lc_seq rs rx (show LC S (.lst m') m from c)
      exact ⟨a, xs, rfl, .inl ⟨.inl h, fun p n => l.tup rs rl q n⟩⟩
    | kls m' =>
      obtain rfl : m' = m := c
      obtain ⟨a, xs, rfl, h, rl⟩ := repD_kls.mp rx
      exact ⟨a, xs, rfl, .inl ⟨.inr h, fun p n => l.tup rs rl q n⟩⟩
    | ref a' =>
      obtain ⟨a, xs, rfl, h, rl⟩ := lc_seq rs rx (show LC S (.ref a') m from c)
      exact ⟨a, xs, rfl, .inl ⟨.inl h, fun p n => l.tup rs rl q n⟩⟩
    | _ => exact False.elim c
  | [], q => exact False.elim q
  | _ :: _ :: _, q => exact False.elim q
def oList : On := o1 fun x S Q => ∃ l, SC S x l ∧ Q (.lst l) S
theorem cd_list : CD X (.type "list") oList := CD.of call_list_of fun B S H ds vs Qd Q rs r q l => by
  match ds, q with
  | [x], q =>
    obtain ⟨v, rfl, rx⟩ := repL1 r
    obtain ⟨m, c, q⟩ := q
    obtain ⟨a, xs, rfl, h, rl⟩ := sc_seq rs rx c
    exact ⟨a, xs, rfl, h, fun p n => l.lst rs rl q n⟩
  | [], q => exact False.elim q
  | _ :: _ :: _, q => exact False.elim q
def oListM : On := o1 fun x S Q => ∃ l, SC S x l ∧ ∀ p, S p = none → Q (.ref p) (sput S p (.lst l))
theorem cd_listM : CD X (.type "list") oListM := CD.of call_list_of fun B S H ds vs Qd Q rs r q l => by
  match ds, q with
  | [x], q =>
    obtain ⟨v, rfl, rx⟩ := repL1 r
    obtain ⟨m, c, q⟩ := q
    obtain ⟨a, xs, rfl, h, rl⟩ := sc_seq rs rx c
    exact ⟨a, xs, rfl, h, fun p n => l.cell rs rl q n⟩
  | [], q => exact False.elim q
  | _ :: _ :: _, q => exact False.elim q
def oInt : On := o1 fun x S Q => match x with
  | .int i => Q (.int i) S
  | .bl b => Q (.int (if b then 1 else 0)) S
  | _ => False
theorem cd_int : CD X (.type "int") oInt := CD.of call_int1 fun B S H ds vs Qd Q rs r q l => by
  match ds, q with
  | [x], q =>
    obtain ⟨v, rfl, rx⟩ := repL1 r
    cases x with
    | int i => rw [repD_int] at rx; subst rx; exact .inl ⟨i, rfl, l S H _ _ .refl rs (repD_int.mpr rfl) q⟩
    | bl i => rw [repD_bl] at rx; subst rx; exact .inr ⟨i, rfl, l S H _ _ .refl rs (repD_int.mpr rfl) q⟩
    | _ => exact False.elim q
  | [], q => exact False.elim q
  | _ :: _ :: _, q => exact False.elim q
def oAbs : On := o1 fun x S Q => match x with | .int i => Q (.int (if i < 0 then -i else i)) S | _ => False
theorem cd_abs : CD X (.builtin "abs") oAbs := CD.of call_abs fun B S H ds vs Qd Q rs r q l => by
  match ds, q with
  | [x], q =>
    obtain ⟨v, rfl, rx⟩ := repL1 r
    cases x with
    | int i => rw [repD_int] at rx; subst rx; exact ⟨i, rfl, l S H _ _ .refl rs (repD_int.mpr rfl) q⟩
    | _ => exact False.elim q
  | [], q => exact False.elim q
  | _ :: _ :: _, q => exact False.elim q
def oTwo (f : Int → Int → Int) : On := fun ds S Q => match ds with | [.int i, .int j] => Q (.int (f i j)) S | _ => False
theorem oTwo_get {f : Int → Int → Int} {ds : List D} {S : Store} {Q : D → Store → Prop} (h : oTwo f ds S Q) : ∃ i j, ds = [.int i, .int j] ∧ Q (.int (f i j)) S := by
  match ds, h with
  | [.int i, .int j], h => exact ⟨i, j, rfl, h⟩
def max2 (i j : Int) : Int := if j > i then j else i
def min2 (i j : Int) : Int := if j < i then j else i
theorem cd_max (hc : X.calm = true) : CD X (.builtin "max") (oTwo max2) := CD.of (call_max2 hc) fun B S H ds vs Qd Q rs r q l => by
  obtain ⟨i, j, rfl, q⟩ := oTwo_get q
  obtain ⟨v, u, rfl, r1, r2⟩ := repL2 r
  rw [repD_int] at r1 r2
  subst r1 r2
  exact ⟨i, j, rfl, l S H _ _ .refl rs (repD_int.mpr rfl) q⟩
theorem cd_min (hc : X.calm = true) : CD X (.builtin "min") (oTwo min2) := CD.of (call_min2 hc) fun B S H ds vs Qd Q rs r q l => by
  obtain ⟨i, j, rfl, q⟩ := oTwo_get q
  obtain ⟨v, u, rfl, r1, r2⟩ := repL2 r
  rw [repD_int] at r1 r2
  subst r1 r2
  exact ⟨i, j, rfl, l S H _ _ .refl rs (repD_int.mpr rfl) q⟩
def oSum : On := o1 fun x S Q => ∃ ns : List Int, LC S x (ns.map D.int) ∧ Q (.int ns.sum) S
theorem cd_sum (hc : X.calm = true) : CD X (.builtin "sum") oSum := CD.of (cr_sum hc) fun B S H ds vs Qd Q rs r q l => by
  match ds, q with
  | [x], q =>
    obtain ⟨v, rfl, rx⟩ := repL1 r
    obtain ⟨ns, c, q⟩ := q
    obtain ⟨a, xs, rfl, h, rl⟩ := lc_seq rs rx c
    obtain rfl := rl.ints
    exact ⟨a, ns, rfl, .inl h, l S H _ _ .refl rs (repD_int.mpr rfl) q⟩
  | [], q => exact False.elim q
  | _ :: _ :: _, q => exact False.elim q
def oAll : On := o1 fun x S Q => ∃ ns : List Bool, LC S x (ns.map D.bl) ∧ Q (.bl (ns.all id)) S
theorem cd_all (hc : X.calm = true) : CD X (.builtin "all") oAll := CD.of (cr_all hc) fun B S H ds vs Qd Q rs r q l => by
  match ds, q with
  | [x], q =>
    obtain ⟨v, rfl, rx⟩ := repL1 r
    obtain ⟨ns, c, q⟩ := q
    obtain ⟨a, xs, rfl, h, rl⟩ := lc_seq rs rx c
    obtain rfl := rl.bls
    exact ⟨a, ns, rfl, .inl h, l S H _ _ .refl rs (repD_bl.mpr rfl) q⟩
  | [], q => exact False.elim q
  | _ :: _ :: _, q => exact False.elim q
def oStrI : On := o1 fun x S Q => match x with | .int i => i.natAbs.log2 < 1920 ∧ Q (.str (toString i)) S | _ => False
theorem cd_strI : CD X (.type "str") oStrI := CD.of call_str_int fun B S H ds vs Qd Q rs r q l => by
  match ds, q with
  | [x], q =>
    obtain ⟨v, rfl, rx⟩ := repL1 r
    cases x with
    | int i => rw [repD_int] at rx; subst rx; exact ⟨i, rfl, q.1, l S H _ _ .refl rs (repD_str.mpr rfl) q.2⟩
    | _ => exact False.elim q
  | [], q => exact False.elim q
  | _ :: _ :: _, q => exact False.elim q
/-- isinstance(e, T), T a built-in class -/
def TyS (S : Store) (d : D) (ty : String) : Prop := match d with
  | .non => "NoneType" = ty
  | .bl _ => "bool" = ty
  | .int _ => "int" = ty
  | .str _ => "str" = ty
  | .tup _ => "tuple" = ty
  | .lst _ => "list" = ty
  | .ref a => (∃ l, S a = some (.lst l)) ∧ "list" = ty
  | .kls _ => False
  | .fn _ => False
theorem tyS_of {K : PySem.W.Frag} {B : Blk} {S : Store} {H : Hp} {d : D} {v : V} {ty : String} (rs : RepS K B S H) (r : RepD K B S H d v) (t : TyS S d ty) : TyX K H v (.type ty) := by
  cases d with
  | non => rw [repD_non] at r; subst r; obtain rfl : "NoneType" = ty := t; exact .base .non
  | bl b => rw [repD_bl] at r; subst r; obtain rfl : "bool" = ty := t; exact .base (.bl b)
  | int b => rw [repD_int] at r; subst r; obtain rfl : "int" = ty := t; exact .base (.int b)
  | str b => rw [repD_str] at r; subst r; obtain rfl : "str" = ty := t; exact .base (.str b)
  | tup l =>
    obtain ⟨a, xs, rfl, h, _⟩ := repD_tup.mp r
    obtain rfl : "tuple" = ty := t
    rcases h with ⟨h | ⟨o, h⟩, _⟩ | ⟨o, its, n, h, c, _⟩
    · exact .base (.tup h)
    · exact .fTuple h
    · exact .kTuple h c
  | lst l =>
    obtain ⟨a, xs, rfl, h, _⟩ := repD_lst.mp r
    obtain rfl : "list" = ty := t
    rcases h with ⟨h | ⟨o, h⟩, _⟩
    · exact .base (.lst h)
    · exact .base (.frz h)
  | ref a =>
    rw [repD_ref] at r
    subst r
    obtain ⟨⟨l, e⟩, rfl⟩ := (show (∃ l, S a = some (.lst l)) ∧ "list" = ty from t)
    obtain ⟨xs, h, _⟩ := rs.cell a _ e
    exact .base (.lst h)
  | kls l => exact False.elim t
  | fn l => exact False.elim t
def wIsi (T : String) (t : WE) : WE := fun env S Q => t env S fun x S1 => ∃ ty b, TyS S1 x ty ∧ kitB ty T = some b ∧ Q (.bl b) S1
theorem de_isi {y : Str} {T : String} {p p2 pos : Pos} {e : Expr} {t : WE} (hg : Gl X "isinstance") (hm : X.mg "isinstance" = none) (hg2 : Gl X y) (hm2 : X.mg y = none) (hv2 : bootBuiltins y = some (.type T)) (he : DE X e t)
    (hn : y ≠ "__name__" := by decide) (hd : (y == ("__debug__" : Str)) = false := by decide)
    (hb : bootBuiltins "isinstance" = some (.builtin "isinstance") := by decide +kernel)
    (hs : starEach [e, .Name y p2] X.env = (false, eval e X.env) :: starEach [.Name y p2] X.env := by rfl) : DE X (.Call (.Name "isinstance" p) [e, .Name y p2] [] pos) (wIsi T t) :=
  PE.mono (pe_callB call_isi hg hm hb (pa_cons he (pa_cons (pe_bltn hg2 hm2 hv2 (v := .ty T) rfl hn hd) pa_nil) hs) (he := hs)) fun σ H Q ⟨B, env, S, Qd, re, rs, q, l⟩ =>
    ⟨B, env, S, _, re, rs, q, fun S1 H1 x vx g1 rs1 rx ⟨ty, b, ht, hk, q1⟩ => ⟨vx, .ty T, _, _, b, rfl, .ty T, tyS_of rs1 rx ht, kit_ty hk, l S1 H1 _ _ g1 rs1 (repD_bl.mpr rfl) q1⟩⟩

/-! ### statements -/
def tDS (K : PySem.W.Frag) (t : WS) : TS := fun Dn σ H => ∃ B env S E, RepE K B S H env σ ∧ RepS K B S H ∧ t E env S ∧
  (∀ S' H' env' σ', Grow S H S' H' → RepS K B S' H' → RepE K B S' H' env' σ' → E.nx env' S' → Dn.nx σ' H') ∧
  (∀ S' H' d v, Grow S H S' H' → RepS K B S' H' → RepD K B S' H' d v → E.rt d S' → Dn.rt v H')
def DS (X : Cx) (st : Stmt) (t : WS) : Prop := PS X st (tDS X.K t)
def DSs (X : Cx) (st : List Stmt) (t : WS) : Prop := PSs X st (tDS X.K t)
def wNext : WS := fun E env S => E.nx env S
def wSeq (t u : WS) : WS := fun E env S => t ⟨fun env' S' => u E env' S', E.rt⟩ env S
theorem dss_nil : DSs X [] wNext := PSs.mono pss_nil fun Dn σ H ⟨B, env, S, E, re, rs, q, ln, lr⟩ => ln S H env σ .refl rs re q
theorem seq_of {t u : WS} {Dn : Ends} {σ : L2.St} {H : Hp} (h : tDS X.K (wSeq t u) Dn σ H) : tSeq (tDS X.K t) (tDS X.K u) Dn σ H := by
  obtain ⟨B, env, S, E, re, rs, q, ln, lr⟩ := h
  exact ⟨B, env, S, _, re, rs, q, fun S1 H1 env1 σ1 g1 rs1 re1 q1 => ⟨B, env1, S1, E, re1, rs1, q1, fun S2 H2 env2 σ2 g2 rs2 re2 q2 => ln S2 H2 env2 σ2 (g1.trans g2) rs2 re2 q2, fun S2 H2 d v g2 rs2 rd q2 => lr S2 H2 d v (g1.trans g2) rs2 rd q2⟩, lr⟩
theorem dss_cons {st : Stmt} {rest : List Stmt} {t u : WS} (h1 : DS X st t) (h2 : DSs X rest u) : DSs X (st :: rest) (wSeq t u) := PSs.mono (pss_cons h1 h2) fun Dn σ H q => seq_of q
theorem dss_one {st : Stmt} {t : WS} (h : DS X st t) : DSs X [st] t := pss_one h
theorem ds_pass {pos : Pos} : DS X (.Pass pos) wNext := PS.mono ps_pass fun Dn σ H ⟨B, env, S, E, re, rs, q, ln, lr⟩ => ln S H env σ .refl rs re q
def wDrop (t : WE) : WS := fun E env S => t env S fun _ S1 => E.nx env S1
theorem ds_expr {e : Expr} {pos : Pos} {t : WE} (h : DE X e t) (hs : swapsWith e none pos.line X.env = pure false := by rfl) : DS X (.Expr e pos) (wDrop t) :=
  PS.mono (ps_expr h hs) fun Dn σ H ⟨B, env, S, E, re, rs, q, ln, lr⟩ => ⟨B, env, S, _, re, rs, q, fun S1 H1 d v g1 rs1 rd q1 => ln S1 H1 env σ g1 rs1 (re.grow g1) q1⟩
def wRet (t : WE) : WS := fun E env S => t env S E.rt
theorem ds_ret {e : Expr} {pos : Pos} {t : WE} (h : DE X e t) : DS X (.Return (some e) pos) (wRet t) :=
  PS.mono (ps_ret h) fun Dn σ H ⟨B, env, S, E, re, rs, q, ln, lr⟩ => ⟨B, env, S, _, re, rs, q, lr⟩
def wRetN : WS := fun E _ S => E.rt .non S
theorem ds_retN {pos : Pos} : DS X (.Return none pos) wRetN :=
  PS.mono ps_retN fun Dn σ H ⟨B, env, S, E, re, rs, q, ln, lr⟩ => lr S H .non .non .refl rs (repD_non.mpr rfl) q
def wIfS (c : WT) (t u : WS) : WS := fun E env S => c env S fun b S1 => if b = true then t E env S1 else u E env S1
theorem ds_if {c : Expr} {a b : List Stmt} {pos : Pos} {tc : WT} {t u : WS} (hc : DT X c tc) (ha : DSs X a t) (hb : DSs X b u) : DS X (.If c a b pos) (wIfS tc t u) :=
  PS.mono (ps_if hc ha hb) fun Dn σ H ⟨B, env, S, E, re, rs, q, ln, lr⟩ => ⟨B, env, S, _, re, rs, q, fun S1 H1 k g1 rs1 q1 => by
    cases k with
    | true => rw [if_pos rfl] at q1 ⊢; exact ⟨B, env, S1, E, re.grow g1, rs1, q1, fun S2 H2 env2 σ2 g2 => ln S2 H2 env2 σ2 (g1.trans g2), fun S2 H2 d v g2 => lr S2 H2 d v (g1.trans g2)⟩
    | false => rw [if_neg Bool.false_ne_true] at q1 ⊢; exact ⟨B, env, S1, E, re.grow g1, rs1, q1, fun S2 H2 env2 σ2 g2 => ln S2 H2 env2 σ2 (g1.trans g2), fun S2 H2 d v g2 => lr S2 H2 d v (g1.trans g2)⟩⟩

/-! ### targets; vs: the slots that may be set -/
theorem wipe_at {i : Nat} : ∀ {vs : List Nat} {σ : L2.St}, i ∈ vs → (wipe σ vs)[i]? = (σ[i]?).map fun _ => none
  | [], _, h => by simp at h
  | v :: vs, σ, h => by
    unfold wipe
    rw [List.getElem?_set, wipe_length]
    by_cases hv : v = i
    · subst hv
      rw [if_pos rfl]
      by_cases hl : v < σ.length
      · rw [if_pos hl, List.getElem?_eq_getElem hl]; rfl
      · rw [if_neg hl, List.getElem?_eq_none (by omega)]; rfl
    · rw [if_neg hv]
      rcases List.mem_cons.mp h with e | h
      · exact absurd e.symm hv
      · exact wipe_at h
theorem wipe_set {i : Nat} {vs : List Nat} {σ : L2.St} {o : Option V} (h : i ∈ vs) : wipe (σ.set i o) vs = wipe σ vs := by
  apply List.ext_getElem?
  intro j
  by_cases hj : j ∈ vs
  · rw [wipe_at hj, wipe_at hj, List.getElem?_set]
    by_cases e : i = j
    · subst e
      rw [if_pos rfl]
      by_cases hl : i < σ.length
      · rw [if_pos hl, List.getElem?_eq_getElem hl]; rfl
      · rw [if_neg hl, List.getElem?_eq_none (by omega)]
    · rw [if_neg e]
  · rw [wipe_out hj, wipe_out hj, List.getElem?_set, if_neg (fun (e : i = j) => hj (e ▸ h))]
def LiftG (K : PySem.W.Frag) (B : Blk) (S : Store) (H : Hp) (vs : List Nat) (σ : L2.St) (Qd : Slots → Store → Prop) (Q : L2.St → Hp → Prop) : Prop :=
  ∀ S' H' env' σ', Grow S H S' H' → RepS K B S' H' → RepE K B S' H' env' σ' → wipe σ' vs = wipe σ vs → Qd env' S' → Q σ' H'
def tDG (K : PySem.W.Frag) (vs : List Nat) (g : WG) : TG := fun v σ H Q => ∃ B env S d Qd, RepE K B S H env σ ∧ RepS K B S H ∧ RepD K B S H d v ∧ g d env S Qd ∧ LiftG K B S H vs σ Qd Q
def DG (X : Cx) (vs : List Nat) (tg : Expr) (g : WG) : Prop := PG X tg (tDG X.K vs g)
def tDGs (K : PySem.W.Frag) (vs : List Nat) (g : WGs) : TGs := fun v σ H Q => ∃ B env S ds Qd, RepE K B S H env σ ∧ RepS K B S H ∧ RepL K B S H ds v ∧ g ds env S Qd ∧ LiftG K B S H vs σ Qd Q
def DGs (X : Cx) (vs : List Nat) (ts : List Expr) (g : WGs) : Prop := PGs X ts (tDGs X.K vs g)
def gN (i : Nat) : WG := fun d env S Q => Q (env.set i (some d)) S
theorem dg_name {vs : List Nat} (i : Nat) {x : Str} {pos : Pos} (hN : X.N.Nodup) (hx : Loc X.env.scope x) (hi : X.N[i]? = some x := by rfl) (hv : i ∈ vs := by decide) (hf : X.fn x = true ∨ X.env.scope.names.lookup x = some .local := by first | exact .inl rfl | exact .inr rfl | assumption) : DG X vs (.Name x pos) (gN i) :=
  PG.mono (pg_name hN hi hx hf) fun v σ H Q ⟨B, env, S, d, Qd, re, rs, rd, q, l⟩ => l S H _ _ .refl rs (re.set i rd) (wipe_set hv) q
def gNils : WGs := fun ds env S Q => match ds with | [] => Q env S | _ => False
def gConss (g : WG) (r : WGs) : WGs := fun ds env S Q => match ds with | d :: ds => g d env S (fun env1 S1 => r ds env1 S1 Q) | [] => False
theorem PGs.mono {tg : List Expr} {t t' : TGs} (h : PGs X tg t) (m : ∀ v σ H Q, t' v σ H Q → t v σ H Q) : PGs X tg t' := ⟨fun pins s σ H vs us Q I r q => h.run pins s σ H vs us Q I r (m vs σ H Q q)⟩
theorem dgs_nil {vs : List Nat} : DGs X vs [] gNils := PGs.mono pgs_nil fun v σ H Q ⟨B, env, S, ds, Qd, re, rs, rd, q, l⟩ => by
  cases ds with
  | nil => exact ⟨repL_nil.mp rd, l S H _ _ .refl rs re rfl q⟩
  | cons d ds => exact False.elim q
theorem dgs_cons {vs : List Nat} {e : Expr} {es : List Expr} {g : WG} {r : WGs} (h1 : DG X vs e g) (h2 : DGs X vs es r)
    (hs : (assignEach (e :: es) X.env).map (·.2) = assign e X.env :: (assignEach es X.env).map (·.2) := by rfl) : DGs X vs (e :: es) (gConss g r) :=
  PGs.mono (pgs_cons h1 h2 hs) fun v σ H Q ⟨B, env, S, ds, Qd, re, rs, rd, q, l⟩ => by
    cases ds with
    | nil => exact False.elim q
    | cons d ds =>
      obtain ⟨v1, vr, rfl, r1, r2⟩ := repL_cons.mp rd
      exact ⟨v1, vr, rfl, B, env, S, d, _, re, rs, r1, q, fun S1 H1 env1 σ1 g1 rs1 re1 w1 q1 => ⟨B, env1, S1, ds, Qd, re1, rs1, RepL.grow g1 _ _ r2, q1, fun S2 H2 env2 σ2 g2 rs2 re2 w2 q2 => l S2 H2 env2 σ2 (g1.trans g2) rs2 re2 (w2.trans w1) q2⟩⟩
def gT (n : Nat) (r : WGs) : WG := fun d env S Q => ∃ l, SC S d l ∧ l.length = n ∧ r l env S Q
theorem dg_tup {vs : List Nat} {es : List Expr} {k : Nat} {pos : Pos} {r : WGs} {n : Nat} (hc : X.calm = true) (h : DGs X vs es r)
    (hn : (assignEach es X.env).length = n := by rfl) (hst : (assignEach es X.env).findIdx? (·.1) = none := by rfl) : DG X vs (.Tuple es k pos) (gT n r) := by
  refine ⟨fun pins s σ H v u Q I ru ⟨B, env, S, d, Qd, re, rs, rd, ⟨m, c, hl, q⟩, l⟩ => ?_⟩
  obtain ⟨a, xs, rfl, hx, rl⟩ := sc_seq rs rd c
  rcases hx with hx | hx
  · exact (pg_unl hc h hn hst).run pins s σ H _ u Q I ru ⟨a, xs, rfl, hx, by rw [← rl.len]; exact hl, B, env, S, m, Qd, re, rs, rl, q, l⟩
  · exact (pg_tup hc h hn hst).run pins s σ H _ u Q I ru ⟨a, xs, rfl, hx, by rw [← rl.len]; exact hl, B, env, S, m, Qd, re, rs, rl, q, l⟩
/-- o[i] = v: a list's place -/
abbrev O3 := D → D → D → Store → (Store → Prop) → Prop
def oSet : O3 := fun o i v S Q => match o with
  | .ref a => (match i with | .int k => ∃ l j, S a = some (.lst l) ∧ ixN l.length k = some j ∧ Q (sput S a (.lst (l.set j v))) | _ => False)
  | _ => False
def rD3 (K : PySem.W.Frag) (o : O3) : TSet := fun vo vi vv H Q => ∃ B S x i y Qd, RepS K B S H ∧ RepD K B S H x vo ∧ RepD K B S H i vi ∧ RepD K B S H y vv ∧ o x i y S Qd ∧ ∀ S' H', Grow S H S' H' → RepS K B S' H' → Qd S' → Q H'
def OD3 (X : Cx) (o : O3) : Prop := PSet X (rD3 X.K o)
theorem od_set : OD3 X oSet := fun pins s σ H vo vi vv ov iv u Q I r1 r2 r3 ⟨B, S, x, i, y, Qd, rs, rx, ri, ry, q, l⟩ => by
  refine set_list pins s σ H vo vi vv ov iv u Q I r1 r2 r3 ?_
  cases x with
  | ref a =>
    cases i with
    | int k =>
      obtain ⟨m, j, e, hj, q⟩ := q
      rw [repD_ref] at rx
      rw [repD_int] at ri
      obtain ⟨xs, e1, rl⟩ := rs.cell a _ e
      obtain ⟨g, rs'⟩ := rs.write (o := .lst (xs.set j vv)) (c := .lst (m.set j y)) e fun S' H' g e' => ⟨_, e', (RepL.grow g _ _ rl).set j (RepD.grow g _ _ ry)⟩
      exact ⟨a, xs, k, j, rx, ri, e1, by rw [← rl.len]; exact hj, l _ _ g rs' q⟩
    | _ => exact False.elim q
  | _ => exact False.elim q
def gS (to ti : WE) (o : O3) : WG := fun v env S Q => to env S fun x S1 => ti env S1 fun i S2 => o x i v S2 fun S3 => Q env S3
theorem dg_sub {vs : List Nat} {o i : Expr} {pos : Pos} {to ti : WE} {w : O3} (ho : DE X o to) (hi : DE X i ti) (hs : OD3 X w)
    (ha : ∀ v, assign (.Subscript o i pos) X.env v = (do
      let ov ← holding [v] (eval o X.env)
      let iv ← holding [v, ov] (eval i X.env)
      standAt pos
      holding [v, ov, iv] (setItem ov iv v)
      release [v, ov, iv] []) := by intro _; rfl) : DG X vs (.Subscript o i pos) (gS to ti w) :=
  PG.mono (pg_sub ho hi hs ha) fun v σ H Q ⟨B, env, S, d, Qd, re, rs, rd, q, l⟩ =>
    ⟨B, env, S, _, re, rs, q, fun S1 H1 x vx g1 rs1 rx q1 => ⟨B, env, S1, _, re.grow g1, rs1, q1, fun S2 H2 k vk g2 rs2 rk q2 => ⟨B, S2, x, k, d, _, rs2, RepD.grow g2 _ _ rx, rk, RepD.grow (g1.trans g2) _ _ rd, q2, fun S3 H3 g3 rs3 q3 =>
      l S3 H3 env σ (g1.trans (g2.trans g3)) rs3 (re.grow (g1.trans (g2.trans g3))) rfl q3⟩⟩⟩
def wAsg (t : WE) (g : WG) : WS := fun E env S => t env S fun d S1 => g d env S1 E.nx
theorem ds_asg {vs : List Nat} {tg e : Expr} {pos : Pos} {t : WE} {g : WG} (he : DE X e t) (hg : DG X vs tg g) (hs : swapsWithSole [tg] e pos.line X.env = pure false := by rfl) (hw : swappedStores [tg] e X.env = pure none := by rfl)
    (h1 : (assignEach [tg] X.env).map (·.2) = [assign tg X.env] := by rfl) : DS X (.Assign [tg] e pos) (wAsg t g) :=
  PS.mono (ps_asg he hg hs hw h1) fun Dn σ H ⟨B, env, S, E, re, rs, q, ln, lr⟩ => ⟨B, env, S, _, re, rs, q, fun S1 H1 d v g1 rs1 rd q1 => ⟨B, env, S1, d, _, re.grow g1, rs1, rd, q1, fun S2 H2 env2 σ2 g2 rs2 re2 _ q2 => ln S2 H2 env2 σ2 (g1.trans g2) rs2 re2 q2⟩⟩
def wSet (i : Nat) (t : WE) : WS := fun E env S => t env S fun d S1 => E.nx (env.set i (some d)) S1
theorem ds_set (i : Nat) {x : Str} {e : Expr} {pos pos' : Pos} {t : WE} (hN : X.N.Nodup) (hx : Loc X.env.scope x) (he : DE X e t) (hi : X.N[i]? = some x := by rfl) (hs : swapsWith e (some (.Name x pos')) pos.line X.env = pure false := by rfl) (hf : X.fn x = true ∨ X.env.scope.names.lookup x = some .local := by first | exact .inl rfl | exact .inr rfl | assumption) :
    DS X (.Assign [.Name x pos'] e pos) (wSet i t) :=
  PS.mono (ps_set hN hi hx he hs hf) fun Dn σ H ⟨B, env, S, E, re, rs, q, ln, lr⟩ => ⟨B, env, S, _, re, rs, q, fun S1 H1 d v g1 rs1 rd q1 => ln S1 H1 _ _ g1 rs1 ((re.grow g1).set i rd) q1⟩
/-- a, b = x, y -/
def wPar (i j : Nat) (t : WA) : WS := fun E env S => t env S fun ds S1 => match ds with | [a, b] => E.nx ((env.set i (some a)).set j (some b)) S1 | _ => False
theorem ds_par (i j : Nat) {x y : Str} {a b : Expr} {t : WA} {px py pt pos : Pos} {kt k2 pt2} (hc : X.calm = true) (hN : X.N.Nodup)
    (hx : X.env.scope.names.lookup x = some .local) (hy : X.env.scope.names.lookup y = some .local) (ha : DA X [a, b] t) (hi : X.N[i]? = some x := by rfl) (hj : X.N[j]? = some y := by rfl) (hij : i ≠ j := by decide)
    (hw : swappedStores [.Tuple [.Name x px, .Name y py] kt pt] (.Tuple [a, b] k2 pt2) X.env = pure (some [x, y]) := by rfl)
    (hs : swapsWithSole [.Tuple [.Name x px, .Name y py] kt pt] (.Tuple [a, b] k2 pt2) pos.line X.env = pure false := by rfl) :
    DS X (.Assign [.Tuple [.Name x px, .Name y py] kt pt] (.Tuple [a, b] k2 pt2) pos) (wPar i j t) :=
  PS.mono (ps_par hc hN hi hj hij hx hy ha hw hs) fun Dn σ H ⟨B, env, S, E, re, rs, q, ln, lr⟩ => ⟨B, env, S, _, re, rs, q, fun S1 H1 ds vs g1 rs1 rds q1 => by
    match ds, q1 with
    | [d1, d2], q1 =>
      obtain ⟨v, u, rfl, r1, r2⟩ := repL2 rds
      exact ⟨v, u, rfl, ln S1 H1 _ _ g1 rs1 (((re.grow g1).set i r1).set j r2) q1⟩
    | [], q1 => exact False.elim q1
    | [_], q1 => exact False.elim q1
    | _ :: _ :: _ :: _, q1 => exact False.elim q1⟩
/-- x op= e -/
def wAug (i : Nat) (o : O2) (t : WE) : WS := fun E env S => ∃ x, env[i]? = some (some x) ∧ t env S fun y S1 => o x y S1 fun z S2 => E.nx (env.set i (some z)) S2
theorem ds_aug (i : Nat) {x : Str} {op : Operator} {o : O2} {e : Expr} {pos pos' : Pos} {t : WE} (hN : X.N.Nodup) (hx : Loc X.env.scope x) (he : DE X e t) (ho : OD X (inplaceOp op) o) (hi : X.N[i]? = some x := by rfl) (hf : X.fn x = true ∨ X.env.scope.names.lookup x = some .local := by first | exact .inl rfl | exact .inr rfl | assumption) :
    DS X (.AugAssign (.Name x pos') op e pos) (wAug i o t) := by
  have hp : PIp X op (rD X.K o) := fun pins s σ H vx vy v u Q I r1 r2 h => ho pins s σ H vx vy v u Q I r1 r2 h
  refine PS.mono (ps_aug hN hi hx he hp hf) fun Dn σ H ⟨B, env, S, E, re, rs, ⟨d, ed, q⟩, ln, lr⟩ => ?_
  obtain ⟨v, ev, rd⟩ := re.2 i d ed
  exact ⟨v, ev, B, env, S, _, re, rs, q, fun S1 H1 y vy g1 rs1 ry q1 => ⟨B, S1, d, y, _, rs1, RepD.grow g1 _ _ rd, ry, q1, fun S2 H2 z vz g2 rs2 rz q2 => ln S2 H2 _ _ (g1.trans g2) rs2 ((re.grow (g1.trans g2)).set i rz) q2⟩⟩
theorem op_imulW : OpR X (inplaceOp .Mult) (rI CMulW fun i j => .int (i * j)) := opI fun _ _ _ _ _ _ _ hc q => imul_int q hc.ok
theorem od_iadd : OD X (inplaceOp .Add) (oI0 fun i j => .int (i + j)) := oI0_of iop_add fun _ _ _ _ _ => repD_int.mpr rfl
theorem od_imul : OD X (inplaceOp .Mult) (oI CMulW fun i j => .int (i * j)) := oI_of op_imulW fun _ _ _ _ _ => repD_int.mpr rfl
end
end ND
set_option Elab.async false
set_option linter.all false
set_option maxRecDepth 100000
set_option maxHeartbeats 1000000
/-! zip and enumerate where each side may be a list or a tuple. -/
namespace NDZ
open PySem
open PySem.Sem (wp)
def itc (b : Bool) : String := if b then "tuple_iterator" else "list_iterator"
def SIt (b : Bool) (h : Heap) (it l : Addr) (i : Nat) : Prop := ∃ o, h.get? it = some o ∧ o.cls = .type (itc b) ∧ o.data = .fields #[.ref l, .int i 0]
def SLs (b : Bool) (h : Heap) (l : Addr) (items : Array Value) : Prop := match b with
  | true => h.IsTuple l items
  | false => h.IsList l items
theorem SIt.extBut {b : Bool} {h h' : Heap} {it l x : Addr} {i : Nat} (s : SIt b h it l i) (e : Heap.ExtBut x h h') (n : it ≠ x) : SIt b h' it l i := by
  obtain ⟨o, g, r⟩ := s
  exact ⟨o, e _ _ n g, r⟩
theorem SIt.at {b : Bool} {h h' : Heap} {it l : Addr} {i : Nat} (s : SIt b h it l i) (k : ∀ o, h.get? it = some o → h'.get? it = some o) : SIt b h' it l i := by
  obtain ⟨o, g, r⟩ := s
  exact ⟨o, k o g, r⟩
theorem SIt.lt {b : Bool} {h : Heap} {it l : Addr} {i : Nat} (s : SIt b h it l i) : it < h.objs.size := by
  obtain ⟨o, g, r⟩ := s
  exact Heap.lt_size g
theorem SLs.extBut {b : Bool} {h h' : Heap} {l x : Addr} {items : Array Value} (s : SLs b h l items) (e : Heap.ExtBut x h h') (n : l ≠ x) : SLs b h' l items := by
  cases b with
  | true => obtain ⟨o, g, r⟩ := (show h.IsTuple l items from s); exact ⟨o, e _ _ n g, r⟩
  | false => obtain ⟨o, g, r⟩ := (show h.IsList l items from s); exact ⟨o, e _ _ n g, r⟩
theorem SLs.push {b : Bool} {h : Heap} {l : Addr} {items : Array Value} (s : SLs b h l items) (ob : Obj) : SLs b (h.push ob) l items := by
  cases b with
  | true => obtain ⟨o, g, r⟩ := (show h.IsTuple l items from s); exact ⟨o, Heap.get?_push_of_some _ g, r⟩
  | false => obtain ⟨o, g, r⟩ := (show h.IsList l items from s); exact ⟨o, Heap.get?_push_of_some _ g, r⟩
theorem SLs.lt {b : Bool} {h : Heap} {l : Addr} {items : Array Value} (s : SLs b h l items) : l < h.objs.size := by
  cases b with
  | true => obtain ⟨o, g, r⟩ := (show h.IsTuple l items from s); exact Heap.lt_size g
  | false => obtain ⟨o, g, r⟩ := (show h.IsList l items from s); exact Heap.lt_size g
section
variable {prog : Program} {w : World} {A : Around} {E : Value → Shared → Prop} {s : Shared}
theorem sit_item {b : Bool} {it l : Addr} {i : Nat} {items} {x : Value} {Q : Value → Shared → Prop} (hit : SIt b s.heap it l i) (hl : SLs b s.heap l items) (hx : items[i]? = some x)
    (kQ : ∀ h', SIt b h' it l (i + 1) → Heap.SameBut it s.heap h' → Q x { s with heap := h' }) : wpAny (model prog w) A (Builtin.SmallTypes.nextOf (.ref it)) Q E s := by
  cases b with
  | true => exact RZ.nextOf_tuple_item (show s.heap.IsTupleIter it l i from hit) hl hx fun h' a c => kQ h' a c
  | false => exact wpAny_nextOf_list_item (show s.heap.IsListIter it l i from hit) hl hx fun h' a c => kQ h' a c
theorem sit_end {b : Bool} {it l : Addr} {i : Nat} {items} {Q : Value → Shared → Prop} (h0 : A.handled = none) (hit : SIt b s.heap it l i) (hl : SLs b s.heap l items) (hx : items[i]? = none)
    (kE : ∀ h' e, Heap.ExtBut it s.heap h' → (∃ o, h'.get? e = some o ∧ o.cls = .type "StopIteration") → E (.ref e) { s with heap := h' }) : wpAny (model prog w) A (Builtin.SmallTypes.nextOf (.ref it)) Q E s := by
  cases b with
  | true => exact RZ.nextOf_tuple_end h0 (show s.heap.IsTupleIter it l i from hit) hl hx kE
  | false => exact wpAny_nextOf_list_end h0 (show s.heap.IsListIter it l i from hit) hl hx kE
theorem pyIter_sls {b : Bool} {l : Addr} {items} {Q : Value → Shared → Prop} (hl : SLs b s.heap l items)
    (h : Q (.ref s.heap.objs.size) { s with heap := s.heap.push { cls := .type (itc b), data := .fields #[.ref l, .int 0 0] } }) : wpAny (model prog w) A (pyIter (.ref l)) Q E s := by
  cases b with
  | true => exact wpAny_pyIter_tuple (show s.heap.IsTuple l items from hl) h
  | false => exact wpAny_pyIter_list (show s.heap.IsList l items from hl) h
variable {b1 b2 : Bool}
theorem zipM_next_item {z Ti To i1 i2 l1 l2 : Addr} {k1 k2 : Nat} {us ws : Array Value} {x y a b : Value} {Q : Value → Shared → Prop} (D : ZipApart z Ti To i1 i2 l1 l2)
    (az : IsZip s.heap z Ti To .none) (aTI : IsPair s.heap Ti (.ref i1) (.ref i2)) (aTO : IsPair s.heap To a b)
    (j1 : SIt b1 s.heap i1 l1 k1) (j2 : SIt b2 s.heap i2 l2 k2) (c1 : SLs b1 s.heap l1 us) (c2 : SLs b2 s.heap l2 ws) (ex1 : us[k1]? = some x) (ex2 : ws[k2]? = some y)
    (kQ : ∀ h', IsZip h' z Ti To (rawInt s.heap.objs.size) → IsPair h' To x y → SIt b1 h' i1 l1 (k1 + 1) → SIt b2 h' i2 l2 (k2 + 1) → IsPair h' s.heap.objs.size x y → h'.objs.size = s.heap.objs.size + 1 →
      (∀ c o, c ≠ z → c ≠ To → c ≠ i1 → c ≠ i2 → s.heap.get? c = some o → h'.get? c = some o) → Q (.ref s.heap.objs.size) { s with heap := h' }) :
    wpAny (model prog w) A (Builtin.«zip.__next__» ⟨[.ref z], []⟩) (fun fin s' => ∃ v, fin = .done (.ret v) ∧ Q v s') E s := by
  show wpAny _ _ (field (.ref z) 2 >>= _) _ _ _
  refine wpAny_bind (wpAny_field az rfl (x := .bool false) rfl ?_)
  show wpAny _ _ (field (.ref z) 3 >>= _) _ _ _
  refine wpAny_bind (wpAny_field az rfl (x := .ref Ti) rfl ?_)
  refine wpAny_bind (wpAny_seqItems aTI rfl ?_)
  show wpAny _ _ (Builtin.SmallTypes.ownedTupleIsFree (.ref z) >>= _) _ _ _
  refine wpAny_bind ?_
  unfold Builtin.SmallTypes.ownedTupleIsFree
  refine wpAny_bind (wpAny_field az rfl (x := .none) rfl (wpAny_pure ?_))
  simp only [if_true]
  refine wpAny_bind (wpAny_rule ?_)
  refine wpAny_bind (wpAny_field az rfl (x := .ref To) rfl ?_)
  refine wpAny_bind (wpAny_setField_rec az (by simp) fun h₁ az₁ bs₁ => ?_)
  replace az₁ : IsZip h₁ z Ti To .ellipsis := az₁
  refine wpAny_bind ?_
  simp only [List.zipIdx_cons, List.zipIdx_nil, List.forIn_cons, List.forIn_nil]

  refine wpAny_bind (wpAny_bind (wpAny_onRaise ?_))
  show wpAny _ _ (Builtin.SmallTypes.nextOf (.ref i1) >>= _) _ _ _
  refine wpAny_bind (sit_item (j1.extBut bs₁.extBut D.i1z) (c1.extBut bs₁.extBut D.l1z) ex1 fun h₂ j1₂ bs₂ => wpAny_pure ?_)
  have aTO₂ : IsPair h₂ To a b := bs₂.extBut _ _ D.TOi1 (bs₁.extBut _ _ D.TOz aTO)
  refine wpAny_bind (wpAny_seqItems aTO₂ rfl ?_)
  refine wpAny_bind (wpAny_updateSeq_pair aTO₂ fun h₃ aTO₃ bs₃ => ?_)
  replace aTO₃ : IsPair h₃ To x b := aTO₃
  refine wpAny_bind (wpAny_letGo (wpAny_pure ?_))

  refine wpAny_bind (wpAny_bind (wpAny_onRaise ?_))
  show wpAny _ _ (Builtin.SmallTypes.nextOf (.ref i2) >>= _) _ _ _
  refine wpAny_bind (sit_item (((j2.extBut bs₁.extBut D.i2z).extBut bs₂.extBut D.i12.symm).extBut bs₃.extBut D.TOi2.symm)
    (((c2.extBut bs₁.extBut D.l2z).extBut bs₂.extBut D.l2i1).extBut bs₃.extBut D.l2TO) ex2 fun h₄ j2₄ bs₄ => wpAny_pure ?_)
  have aTO₄ : IsPair h₄ To x b := bs₄.extBut _ _ D.TOi2 aTO₃
  refine wpAny_bind (wpAny_seqItems aTO₄ rfl ?_)
  refine wpAny_bind (wpAny_updateSeq_pair aTO₄ fun h₅ aTO₅ bs₅ => ?_)
  replace aTO₅ : IsPair h₅ To x y := aTO₅
  refine wpAny_bind (wpAny_letGo (wpAny_pure (wpAny_pure ?_)))

  refine wpAny_bind (wpAny_seqItems aTO₅ rfl ?_)
  refine wpAny_bind (wpAny_newTuple ?_)
  have asz : h₅.objs.size = s.heap.objs.size := by rw [bs₅.1, bs₄.1, bs₃.1, bs₂.1, bs₁.1]
  have az₅ : IsZip h₅ z Ti To .ellipsis := bs₅.extBut _ _ D.TOz.symm (bs₄.extBut _ _ D.i2z.symm (bs₃.extBut _ _ D.TOz.symm (bs₂.extBut _ _ D.i1z.symm az₁)))
  have ak₅ : ∀ c o, c ≠ z → c ≠ To → c ≠ i1 → c ≠ i2 → s.heap.get? c = some o → h₅.get? c = some o := fun c o c1 c2 c3 c4 e =>
    bs₅.extBut _ _ c2 (bs₄.extBut _ _ c4 (bs₃.extBut _ _ c2 (bs₂.extBut _ _ c3 (bs₁.extBut _ _ c1 e))))
  have j1₅ : SIt b1 h₅ i1 l1 (k1 + 1) := ((j1₂.extBut bs₃.extBut D.TOi1.symm).extBut bs₄.extBut D.i12).extBut bs₅.extBut D.TOi1.symm
  have j2₅ : SIt b2 h₅ i2 l2 (k2 + 1) := j2₄.extBut bs₅.extBut D.TOi2.symm
  have lz : z < h₅.objs.size := Heap.lt_size az₅
  have lTO : To < h₅.objs.size := Heap.lt_size aTO₅
  have li1 : i1 < h₅.objs.size := j1₅.lt
  have li2 : i2 < h₅.objs.size := j2₅.lt
  show wpAny _ _ (Builtin.SmallTypes.ownedTupleHandOut (.ref z) (.ref h₅.objs.size) >>= _) _ _ _
  refine wpAny_bind ?_
  unfold Builtin.SmallTypes.ownedTupleHandOut
  have az₆ : IsZip (h₅.push { cls := .type "tuple", data := .seq #[x, y] }) z Ti To .ellipsis := Heap.get?_push_of_some _ az₅
  refine wpAny_bind (wpAny_setField_rec az₆ (by simp) fun h₇ az₇ bs₇ => ?_)
  replace az₇ : IsZip h₇ z Ti To (rawInt h₅.objs.size) := az₇
  refine wpAny_setField_rec az₇ (by simp) fun h₈ az₈ bs₈ => ?_
  replace az₈ : IsZip h₈ z Ti To (rawInt h₅.objs.size) := az₈
  have lift : ∀ c o, c ≠ z → h₅.get? c = some o → h₈.get? c = some o := fun c o c1 e => bs₈.extBut _ _ c1 (bs₇.extBut _ _ c1 (Heap.get?_push_of_some _ e))
  have aT₈ : IsPair h₈ h₅.objs.size x y := bs₈.extBut _ _ (Nat.ne_of_gt lz) (bs₇.extBut _ _ (Nat.ne_of_gt lz) (Heap.get?_push_size _ rfl))
  have hz8 : h₈.objs.size = h₅.objs.size + 1 := by rw [bs₈.1, bs₇.1, Heap.size_push]
  rw [asz] at az₈ aT₈ hz8
  refine wpAny_pure ⟨_, rfl, ?_⟩
  show Q (.ref h₅.objs.size) _
  rw [asz]
  exact kQ h₈ az₈ (lift _ _ D.TOz aTO₅) (j1₅.at fun o e => lift _ o D.i1z e) (j2₅.at fun o e => lift _ o D.i2z e) aT₈ hz8 fun c o c1 c2 c3 c4 e => lift c o c1 (ak₅ c o c1 c2 c3 c4 e)

theorem zipM_next_end {z Ti To i1 i2 l1 l2 : Addr} {k1 k2 : Nat} {us ws : Array Value} {a b : Value} {Q : Fin → Shared → Prop} (calm0 : A.handled = none) (D : ZipApart z Ti To i1 i2 l1 l2)
    (az : IsZip s.heap z Ti To .none) (aTI : IsPair s.heap Ti (.ref i1) (.ref i2)) (aTO : IsPair s.heap To a b)
    (j1 : SIt b1 s.heap i1 l1 k1) (j2 : SIt b2 s.heap i2 l2 k2) (c1 : SLs b1 s.heap l1 us) (c2 : SLs b2 s.heap l2 ws) (aend : us[k1]? = none ∨ ws[k2]? = none)
    (kE : ∀ h' e, (∀ c o, c ≠ z → c ≠ To → c ≠ i1 → c ≠ i2 → s.heap.get? c = some o → h'.get? c = some o) → (∃ o, h'.get? e = some o ∧ o.cls = .type "StopIteration") → E (.ref e) { s with heap := h' }) :
    wpAny (model prog w) A (Builtin.«zip.__next__» ⟨[.ref z], []⟩) Q E s := by
  show wpAny _ _ (field (.ref z) 2 >>= _) _ _ _
  refine wpAny_bind (wpAny_field az rfl (x := .bool false) rfl ?_)
  show wpAny _ _ (field (.ref z) 3 >>= _) _ _ _
  refine wpAny_bind (wpAny_field az rfl (x := .ref Ti) rfl ?_)
  refine wpAny_bind (wpAny_seqItems aTI rfl ?_)
  show wpAny _ _ (Builtin.SmallTypes.ownedTupleIsFree (.ref z) >>= _) _ _ _
  refine wpAny_bind ?_
  unfold Builtin.SmallTypes.ownedTupleIsFree
  refine wpAny_bind (wpAny_field az rfl (x := .none) rfl (wpAny_pure ?_))
  simp only [if_true]
  refine wpAny_bind (wpAny_rule ?_)
  refine wpAny_bind (wpAny_field az rfl (x := .ref To) rfl ?_)
  refine wpAny_bind (wpAny_setField_rec az (by simp) fun h₁ az₁ bs₁ => ?_)
  replace az₁ : IsZip h₁ z Ti To .ellipsis := az₁
  refine wpAny_bind ?_
  simp only [List.zipIdx_cons, List.zipIdx_nil, List.forIn_cons, List.forIn_nil]
  refine wpAny_bind (wpAny_bind (wpAny_onRaise ?_))
  show wpAny _ _ (Builtin.SmallTypes.nextOf (.ref i1) >>= _) _ _ _
  cases ex1 : us[k1]? with
  | none =>
    refine wpAny_bind (sit_end calm0 (j1.extBut bs₁.extBut D.i1z) (c1.extBut bs₁.extBut D.l1z) ex1 fun h₂ e bs₂ he => ?_)
    obtain ⟨oe, goe, gce⟩ := he
    have az₂ : IsZip h₂ z Ti To .ellipsis := bs₂ _ _ D.i1z.symm az₁
    have nez : e ≠ z := fun x => by subst x; rw [az₂] at goe; cases goe; simp at gce
    refine wpAny_setField_rec az₂ (by simp) fun h₃ _ bs₃ => kE h₃ e (fun c o c1 _ c3 _ x => bs₃.extBut _ _ c1 (bs₂ _ _ c3 (bs₁.extBut _ _ c1 x))) ⟨oe, bs₃.extBut _ _ nez goe, gce⟩
  | some x =>
    have ex2 : ws[k2]? = none := by rcases aend with h | h; rw [ex1] at h; cases h; exact h
    refine wpAny_bind (sit_item (j1.extBut bs₁.extBut D.i1z) (c1.extBut bs₁.extBut D.l1z) ex1 fun h₂ j1₂ bs₂ => wpAny_pure ?_)
    have aTO₂ : IsPair h₂ To a b := bs₂.extBut _ _ D.TOi1 (bs₁.extBut _ _ D.TOz aTO)
    refine wpAny_bind (wpAny_seqItems aTO₂ rfl ?_)
    refine wpAny_bind (wpAny_updateSeq_pair aTO₂ fun h₃ aTO₃ bs₃ => ?_)
    refine wpAny_bind (wpAny_letGo (wpAny_pure ?_))
    refine wpAny_bind (wpAny_bind (wpAny_onRaise ?_))
    show wpAny _ _ (Builtin.SmallTypes.nextOf (.ref i2) >>= _) _ _ _
    refine wpAny_bind (sit_end calm0 (((j2.extBut bs₁.extBut D.i2z).extBut bs₂.extBut D.i12.symm).extBut bs₃.extBut D.TOi2.symm)
      (((c2.extBut bs₁.extBut D.l2z).extBut bs₂.extBut D.l2i1).extBut bs₃.extBut D.l2TO) ex2 fun h₄ e bs₄ he => ?_)
    obtain ⟨oe, goe, gce⟩ := he
    have az₄ : IsZip h₄ z Ti To .ellipsis := bs₄ _ _ D.i2z.symm (bs₃.extBut _ _ D.TOz.symm (bs₂.extBut _ _ D.i1z.symm az₁))
    have nez : e ≠ z := fun x => by subst x; rw [az₄] at goe; cases goe; simp at gce
    refine wpAny_setField_rec az₄ (by simp) fun h₅ _ bs₅ => kE h₅ e (fun c o c1 c2 c3 c4 x => bs₅.extBut _ _ c1 (bs₄ _ _ c4 (bs₃.extBut _ _ c2 (bs₂.extBut _ _ c3 (bs₁.extBut _ _ c1 x))))) ⟨oe, bs₅.extBut _ _ nez goe, gce⟩

theorem pyNext_zipM_item {z Ti To i1 i2 l1 l2 : Addr} {k1 k2 : Nat} {us ws : Array Value} {x y a b : Value} {Q : Option Value → Shared → Prop} (D : ZipApart z Ti To i1 i2 l1 l2)
    (az : IsZip s.heap z Ti To .none) (aTI : IsPair s.heap Ti (.ref i1) (.ref i2)) (aTO : IsPair s.heap To a b)
    (j1 : SIt b1 s.heap i1 l1 k1) (j2 : SIt b2 s.heap i2 l2 k2) (c1 : SLs b1 s.heap l1 us) (c2 : SLs b2 s.heap l2 ws) (ex1 : us[k1]? = some x) (ex2 : ws[k2]? = some y)
    (kQ : ∀ h', IsZip h' z Ti To (rawInt s.heap.objs.size) → IsPair h' To x y → SIt b1 h' i1 l1 (k1 + 1) → SIt b2 h' i2 l2 (k2 + 1) → IsPair h' s.heap.objs.size x y → h'.objs.size = s.heap.objs.size + 1 →
      (∀ c o, c ≠ z → c ≠ To → c ≠ i1 → c ≠ i2 → s.heap.get? c = some o → h'.get? c = some o) → Q (some (.ref s.heap.objs.size)) { s with heap := h' }) :
    wpAny (model prog w) A (pyNext (.ref z)) Q E s := by
  have aT : s.TypeIs (.ref z) "zip" := ⟨_, az, rfl⟩
  unfold pyNext
  exact wpAny_bind (wpAny_attempt (wpAny_callSpecial?_slot (name := Str.ofString "__next__") aT F.slot_zip_next
    (wpAny_call_entry F.slot_zip_next aT F.entry_zip_next
      (zipM_next_item D az aTI aTO j1 j2 c1 c2 ex1 ex2 fun h' a1 a2 a3 a4 a5 a6 a7 => wpAny_pure (kQ h' a1 a2 a3 a4 a5 a6 a7)) (F.args_zip_next_1 _))))

theorem pyNext_zipM_end {z Ti To i1 i2 l1 l2 : Addr} {k1 k2 : Nat} {us ws : Array Value} {a b : Value} {Q : Option Value → Shared → Prop} (calm0 : A.handled = none) (D : ZipApart z Ti To i1 i2 l1 l2)
    (az : IsZip s.heap z Ti To .none) (aTI : IsPair s.heap Ti (.ref i1) (.ref i2)) (aTO : IsPair s.heap To a b)
    (j1 : SIt b1 s.heap i1 l1 k1) (j2 : SIt b2 s.heap i2 l2 k2) (c1 : SLs b1 s.heap l1 us) (c2 : SLs b2 s.heap l2 ws) (aend : us[k1]? = none ∨ ws[k2]? = none)
    (kQ : ∀ h', (∀ c o, c ≠ z → c ≠ To → c ≠ i1 → c ≠ i2 → s.heap.get? c = some o → h'.get? c = some o) → Q none { s with heap := h' }) : wpAny (model prog w) A (pyNext (.ref z)) Q E s := by
  have aT : s.TypeIs (.ref z) "zip" := ⟨_, az, rfl⟩
  unfold pyNext
  refine wpAny_bind (wpAny_attempt (wpAny_callSpecial?_slot (name := Str.ofString "__next__") aT F.slot_zip_next
    (wpAny_call_entry F.slot_zip_next aT F.entry_zip_next (zipM_next_end calm0 D az aTI aTO j1 j2 c1 c2 aend fun h' e ak he => ?_) (F.args_zip_next_1 _))))
  obtain ⟨o, ho, hc⟩ := he
  refine wpAny_bind (wpAny_isInstance (T := "StopIteration") (b := true) ⟨o, ho, hc⟩ isSubtype_stop ?_)
  exact wpAny_pure (kQ _ ak)
end

abbrev zipMH1 (b1 : Bool) (h : Heap) (l1 : Addr) : Heap := h.push { cls := .type (itc b1), data := .fields #[.ref l1, .int 0 0] }
abbrev zipMH2 (b1 b2 : Bool) (h : Heap) (l1 l2 : Addr) : Heap := (zipMH1 b1 h l1).push { cls := .type (itc b2), data := .fields #[.ref l2, .int 0 0] }
abbrev zipMH3 (b1 b2 : Bool) (h : Heap) (l1 l2 : Addr) : Heap := (zipMH2 b1 b2 h l1 l2).push { cls := .type "tuple", data := .seq #[.ref h.objs.size, .ref (zipMH1 b1 h l1).objs.size] }
abbrev zipMH4 (b1 b2 : Bool) (h : Heap) (l1 l2 : Addr) : Heap := (zipMH3 b1 b2 h l1 l2).push { cls := .type "tuple", data := .seq #[.none, .none] }
abbrev zipMH5 (b1 b2 : Bool) (h : Heap) (l1 l2 : Addr) : Heap := (zipMH4 b1 b2 h l1 l2).push { cls := .type "zip", data := .fields #[.none, .bool false, .bool false, .ref (zipMH2 b1 b2 h l1 l2).objs.size, .ref (zipMH3 b1 b2 h l1 l2).objs.size] }

theorem meets_zipM_new (b1 b2 : Bool) (l1 l2 : Addr) (us ws : Array Value) :
    Meets (Builtin.«zip.__new__» ⟨[.type "zip", .ref l1, .ref l2], []⟩) (fun _ R s => SLs b1 s.heap l1 us ∧ SLs b2 s.heap l2 ws ∧
      R (.ok (.ret (.ref (zipMH4 b1 b2 s.heap l1 l2).objs.size))) { s with heap := zipMH5 b1 b2 s.heap l1 l2 }) :=
  .of_wp fun prog w A R s h => by
    obtain ⟨hp0, g, d, tk, os⟩ := s; obtain ⟨c1, c2, h⟩ := h
    have sub0 := sub_zip
    have q1 : SLs b1 (Shared.heap ⟨hp0, g, d, tk, os⟩) l1 us := c1
    have q2 : SLs b2 (Shared.heap ⟨hp0.push { cls := .type (itc b1), data := .fields #[.ref l1, .int 0 0] }, g, d, tk, os⟩) l2 ws := c2.push _
    wp_walk using pyIter_sls q1, pyIter_sls q2
    exact ⟨_, rfl, h⟩

section
variable {prog : Program} {w : World} {A : Around} {E : Value → Shared → Prop} {s : Shared}
theorem call_zipM {l1 l2 : Addr} {us ws : Array Value} {Q : Value → Shared → Prop} (c1 : SLs b1 s.heap l1 us) (c2 : SLs b2 s.heap l2 ws)
    (h : ∀ h', IsZip h' (s.heap.objs.size + 4) (s.heap.objs.size + 2) (s.heap.objs.size + 3) .none → IsPair h' (s.heap.objs.size + 2) (.ref s.heap.objs.size) (.ref (s.heap.objs.size + 1)) →
      IsPair h' (s.heap.objs.size + 3) .none .none → SIt b1 h' s.heap.objs.size l1 0 → SIt b2 h' (s.heap.objs.size + 1) l2 0 → h'.objs.size = s.heap.objs.size + 5 →
      (∀ c o, s.heap.get? c = some o → h'.get? c = some o) → Q (.ref (s.heap.objs.size + 4)) { s with heap := h' }) :
    wpAny (model prog w) A (call (.type "zip") [.ref l1, .ref l2]) Q E s := by
  refine callType_new F.called_zip (by decide) (F.typeCall_zip_2 _ _) (F.newCall_zip_2 _ _) (fun obj => F.args_object_init_3 obj _ _) F.entry_zip_new
    (meets_zipM_new b1 b2 l1 l2 us ws) ⟨c1, c2, ?_⟩
  have z1 : (zipMH1 b1 s.heap l1).objs.size = s.heap.objs.size + 1 := Heap.size_push ..
  have z2 : (zipMH2 b1 b2 s.heap l1 l2).objs.size = s.heap.objs.size + 2 := by rw [Heap.size_push, z1]
  have z3 : (zipMH3 b1 b2 s.heap l1 l2).objs.size = s.heap.objs.size + 3 := by rw [Heap.size_push, z2]
  have z4 : (zipMH4 b1 b2 s.heap l1 l2).objs.size = s.heap.objs.size + 4 := by rw [Heap.size_push, z3]
  have z5 : (zipMH5 b1 b2 s.heap l1 l2).objs.size = s.heap.objs.size + 5 := by rw [Heap.size_push, z4]
  have g5 : (zipMH5 b1 b2 s.heap l1 l2).get? (zipMH4 b1 b2 s.heap l1 l2).objs.size = some _ := Heap.get?_push_size _ rfl
  have g4 : (zipMH5 b1 b2 s.heap l1 l2).get? (zipMH3 b1 b2 s.heap l1 l2).objs.size = some _ := Heap.get?_push_of_some _ (Heap.get?_push_size _ rfl)
  have g3 : (zipMH5 b1 b2 s.heap l1 l2).get? (zipMH2 b1 b2 s.heap l1 l2).objs.size = some _ := Heap.get?_push_of_some _ (Heap.get?_push_of_some _ (Heap.get?_push_size _ rfl))
  have g2 : (zipMH5 b1 b2 s.heap l1 l2).get? (zipMH1 b1 s.heap l1).objs.size = some _ := Heap.get?_push_of_some _ (Heap.get?_push_of_some _ (Heap.get?_push_of_some _ (Heap.get?_push_size _ rfl)))
  have g1 : (zipMH5 b1 b2 s.heap l1 l2).get? s.heap.objs.size = some _ := Heap.get?_push_of_some _ (Heap.get?_push_of_some _ (Heap.get?_push_of_some _ (Heap.get?_push_of_some _ (Heap.get?_push_size _ rfl))))
  show _ ∧ _
  rw [z2, z3, z4] at g5
  rw [z1, z2] at g3
  rw [z3] at g4
  rw [z1] at g2
  rw [z4]
  exact ⟨⟨_, g5, rfl⟩, h _ g5 g3 g4 ⟨_, g1, rfl, rfl⟩ ⟨_, g2, rfl, rfl⟩ z5 fun c o x =>
    Heap.get?_push_of_some _ (Heap.get?_push_of_some _ (Heap.get?_push_of_some _ (Heap.get?_push_of_some _ (Heap.get?_push_of_some _ x))))⟩
end
end NDZ
set_option Elab.async false
set_option linter.all false
set_option maxRecDepth 100000
/-! zip and enumerate over the layer, each side a list or a tuple. -/
namespace ND
open PySem PySem.Spec PyProof.Rows L2 NDZ

def Sq (b : Bool) (K : PySem.W.Frag) (H : Hp) (a : Addr) (xs : List V) : Prop := match b with
  | true => SqT K H a xs
  | false => SqL K H a xs
section
variable {X : Cx} {pins : List (Addr × Obj)} {σ : L2.St} {H : Hp} {s : Shared}
theorem Inv.sq {b : Bool} {a : Addr} {xs : List V} (I : Inv X pins σ H s) (h : Sq b X.K H a xs) : ∃ its : List Value, Vals xs its ∧ SLs b s.heap a its.toArray ∧ xs.length = its.length := by
  cases b with
  | true => obtain ⟨its, r, p, _⟩ := I.tuple h; exact ⟨its, r, p, r.length⟩
  | false => obtain ⟨its, r, p, _⟩ := I.list h; exact ⟨its, r, p.isList, r.length⟩
theorem Inv.sq_inj {b : Bool} {a : Addr} {xs ys : List V} (I : Inv X pins σ H s) (h : Sq b X.K H a xs) (h' : Sq b X.K H a ys) : xs = ys := by
  cases b with
  | true => exact I.tuple_inj h h'
  | false => exact I.list_inj h h'
end
def ItzM (K : PySem.W.Frag) (b1 b2 : Bool) (a c : Addr) : It where
  go := fun i H => ∃ (xs ys : List V) (x y : V), Sq b1 K H a xs ∧ Sq b2 K H c ys ∧ xs[i]? = some x ∧ ys[i]? = some y
  yld := fun i H v H' => ∃ T x y, v = .ref T ∧ H T = none ∧ H' = upd H T (.tup [x, y]) ∧ (∀ xs, Sq b1 K H a xs → xs[i]? = some x) ∧ ∀ ys, Sq b2 K H c ys → ys[i]? = some y
  stop := fun i H => ∃ xs ys : List V, Sq b1 K H a xs ∧ Sq b2 K H c ys ∧ (xs.length ≤ i ∨ ys.length ≤ i)
def ZSt (b1 b2 : Bool) (z TI TO i1 i2 a c : Addr) (i : Nat) (h : Heap) : Prop :=
  IsZip h z TI TO .none ∧ IsPair h TI (.ref i1) (.ref i2) ∧ (∃ x y, IsPair h TO x y) ∧ SIt b1 h i1 a i ∧ SIt b2 h i2 c i
theorem mem5 {c z p q r u : Addr} (h : c ∈ [z, p, q, r, u]) : c = z ∨ c = p ∨ c = q ∨ c = r ∨ c = u := by simpa using h
theorem turn_zipM {P : Program} {w : World} {K : PySem.W.Frag} {b1 b2 : Bool} {elts : List Expr} {kk : Nat} {tpos : Pos} {a c z TI TO i1 i2 : Addr} (ap : ZipApart z TI TO i1 i2 a c) :
    Turn P w K (.Tuple elts kk tpos) (ItzM K b1 b2 a c) [z, TI, TO, i1, i2] z (ZSt b1 b2 z TI TO i1 i2 a c) where
  mem := by simp
  obj := fun i h ⟨gz, gI, ⟨x, y, gO⟩, ⟨o1, e1, _, d1⟩, ⟨o2, e2, _, d2⟩⟩ d hd => by
    rcases mem5 hd with q | q | q | q | q <;> subst q
    · exact ⟨_, gz, fun v q => nomatch q⟩
    · exact ⟨_, gI, fun v q => nomatch q⟩
    · exact ⟨_, gO, fun v q => nomatch q⟩
    · exact ⟨o1, e1, fun v q => by rw [d1] at q; cases q⟩
    · exact ⟨o2, e2, fun v q => by rw [d2] at q; cases q⟩
  keep := fun i h h' ⟨gz, gI, ⟨x, y, gO⟩, g1, g2⟩ k =>
    ⟨k z (by simp) _ gz, k TI (by simp) _ gI, ⟨x, y, k TO (by simp) _ gO⟩, g1.at fun o q => k i1 (by simp) o q, g2.at fun o q => k i2 (by simp) o q⟩
  item := by
    rintro X rfl rfl rfl hc i pins s σ H E I hf ⟨gz, gI, ⟨x0, y0, gO⟩, g1, g2⟩ ⟨xs, ys, x, y, qx, qy, hx, hy⟩
    obtain ⟨its, rv, p, _⟩ := Inv.sq I qx
    obtain ⟨its2, rv2, p2, _⟩ := Inv.sq I qy
    obtain ⟨u, hu, ru⟩ := rv.get hx
    obtain ⟨u2, hu2, ru2⟩ := rv2.get hy
    have lz : z < s.heap.objs.size := Heap.lt_size gz
    refine pyNext_zipM_item ap gz gI gO g1 g2 p p2 (x := u) (y := u2) (by simpa using hu) (by simpa using hu2) fun h' z' O' n1 n2 gT sz kp => ?_
    refine ⟨_, rfl, wpAny_letOwnedTupleGo_zip (s := { s with heap := h' }) z' fun h'' z'' sb => ?_⟩
    have gT2 : h''.get? s.heap.objs.size = some { cls := .type "tuple", data := .seq #[u, u2] } := (sb.2 _ (Nat.ne_of_gt lz)).trans gT
    have new : ObjOk X.prog X.w (upd H s.heap.objs.size (.tup [x, y])) h'' s.heap.objs.size (.tup [x, y]) := ⟨by show 2 ≤ sizeLine; decide, [u, u2], .cons ru (.cons ru2 .nil), ⟨_, gT2, rfl, _, rfl⟩⟩
    have I1 : Inv X pins σ (upd H s.heap.objs.size (.tup [x, y])) { s with heap := h'' } := by
      refine I.turnedNew (t' := s.toks) (ch := [z, TI, TO, i1, i2]) (fun d o hd q => ?_) hf (Nat.le_refl _) new
      have nd : d ≠ z ∧ d ≠ TI ∧ d ≠ TO ∧ d ≠ i1 ∧ d ≠ i2 := by simpa using hd
      exact (sb.2 d nd.1).trans (kp d o nd.1 nd.2.2.1 nd.2.2.2.1 nd.2.2.2.2 q)
    refine ⟨.ref s.heap.objs.size, _, I1, rfl, ⟨_, x, y, rfl, I.hok.fresh (Nat.le_refl _), rfl, fun l hl => by rw [Inv.sq_inj I hl qx]; exact hx, fun l hl => by rw [Inv.sq_inj I hl qy]; exact hy⟩, ⟨z'', ?_, ⟨u, u2, ?_⟩, ?_, ?_⟩, fun d hd => ?_⟩
    · exact (sb.2 _ ap.TIz).trans (kp _ _ ap.TIz ap.TITO ap.TIi1 ap.TIi2 gI)
    · exact (sb.2 _ ap.TOz).trans O'
    · exact n1.at fun o q => (sb.2 _ ap.i1z).trans q
    · exact n2.at fun o q => (sb.2 _ ap.i2z).trans q
    · have lt : d < s.heap.objs.size := by
        rcases mem5 hd with q | q | q | q | q <;> subst q
        · exact lz
        · exact Heap.lt_size gI
        · exact Heap.lt_size gO
        · exact g1.lt
        · exact g2.lt
      rw [upd_ne (Nat.ne_of_lt lt)]
      exact (hf d hd).1
  done := by
    rintro X rfl rfl rfl hc i pins s σ H E I hf ⟨gz, gI, ⟨x0, y0, gO⟩, g1, g2⟩ ⟨xs, ys, qx, qy, fin⟩
    obtain ⟨its, rv, p, l1⟩ := Inv.sq I qx
    obtain ⟨its2, rv2, p2, l2⟩ := Inv.sq I qy
    have he : its.toArray[i]? = none ∨ its2.toArray[i]? = none := by
      rcases fin with q | q
      · exact .inl (by simp; omega)
      · exact .inr (by simp; omega)
    refine pyNext_zipM_end (I.ok.hd hc) ap gz gI gO g1 g2 p p2 he fun h' kp => ⟨rfl, I.turnedL (t' := s.toks) (ch := [z, TI, TO, i1, i2]) (fun d o hd q => ?_) hf⟩
    have nd : d ≠ z ∧ d ≠ TI ∧ d ≠ TO ∧ d ≠ i1 ∧ d ≠ i2 := by simpa using hd
    exact kp d o nd.1 nd.2.2.1 nd.2.2.2.1 nd.2.2.2.2 q
  self := fun A i s Q E st h => wpAny_pyIter_zip st.1 h
def iZipM (K : PySem.W.Frag) (ta : TA) : TI := fun σ H R => ta σ H fun vs H1 => ∃ b1 b2 a c xs ys, vs = [.ref a, .ref c] ∧ Sq b1 K H1 a xs ∧ Sq b2 K H1 c ys ∧ R (ItzM K b1 b2 a c) H1
theorem pi_zipM {X : Cx} {e e2 : Expr} {ta : TA} {p pos tpos : Pos} {elts : List Expr} {kk : Nat} (hg : Gl X "zip") (hm : X.mg "zip" = none) (ha : PA X [e, e2] ta)
    (hs : starEach [e, e2] X.env = (false, eval e X.env) :: starEach [e2] X.env := by rfl) (hpl : (backTo pos (starEach [e2] X.env)).any (·.1) = false := by rfl) :
    PI X (.Tuple elts kk tpos) (.Call (.Name "zip" p) [e, e2] [] pos) (iZipM X.K ta) := by
  refine ⟨fun pins s σ H R I h => Call_ (ld_blt I hg hm PyProof.Rows.boot_zip (PyProof.Rows.callWith_type1 (thn (ha.run pos pins s σ H _ I h) fun us s1 ⟨vs, H1, I1, r1, q1⟩ => ?_) hs hpl))⟩
  obtain ⟨b1, b2, a, c, xs, ys, rfl, qx, qy, q⟩ := q1
  obtain ⟨u1, u2, rfl, e1, e2⟩ := vals2 r1
  cases e1
  cases e2
  obtain ⟨its, rv, p1, _⟩ := Inv.sq I1 qx
  obtain ⟨its2, rv2, p2, _⟩ := Inv.sq I1 qy
  refine call_zipM p1 p2 fun h' gz gI gO g1 g2 sz kp => wpAny_pyIter_zip gz ?_
  have I2 : Inv X pins σ H1 { s1 with heap := h' } := I1.kept (t' := s1.toks) kp
  have apart := PySem.W.ktu_apart s1.heap.objs.size a c p1.lt p2.lt
  refine ⟨_, _, ZSt b1 b2 _ _ _ _ _ a c, ItzM X.K b1 b2 a c, H1, rfl, I2, turn_zipM apart, ⟨gz, gI, ⟨_, _, gO⟩, g1, g2⟩, fun d hd => ?_, q⟩
  have le : s1.heap.objs.size ≤ d := by
    rcases mem5 hd with z | z | z | z | z <;> (rw [z]; omega)
  exact I1.fpOk le (I1.hok.fresh le)

/-! enumerate -/
theorem drawsM {prog : Program} {w : World} {A : Around} (hh : A.handled = none) (b : Bool) (it l : Addr) (hne : l ≠ it) (items : Array Value) :
    Draws prog w A it [it, l] items.size (fun i v => items[i]? = some v) (fun i h => SIt b h it l i ∧ SLs b h l items) where
  live := fun _ _ st => let ⟨o, ho, _⟩ := st.1; ⟨o, ho⟩
  frame := fun _ h h' st hk => ⟨st.1.at fun o e => hk it (by simp) o e, by
    cases b with
    | true => obtain ⟨o, g, r⟩ := (show h.IsTuple l items from st.2); exact ⟨o, hk l (by simp) o g, r⟩
    | false => obtain ⟨o, g, r⟩ := (show h.IsList l items from st.2); exact ⟨o, hk l (by simp) o g, r⟩⟩
  item := fun i s Q E hi st hQ => sit_item st.1 st.2 (x := items[i]) (by simp [hi]) fun h' n sb => hQ _ h' s.toks (by simp [hi]) ⟨n, st.2.extBut sb.extBut hne⟩ sb
  done := fun s Q E st hE => sit_end hh st.1 st.2 (by simp) hE
set_option maxHeartbeats 1000000 in
theorem meets_enumT (l : Addr) (items : Array Value) (n : Nat) (dct : Option Addr) (sl : Array (Option Value)) :
    Meets (Builtin.«enumerate.__new__» ⟨[.type "enumerate", .ref l], []⟩) (fun _ R s => s.heap.get? l = some { cls := .type "tuple", dict := dct, data := .seq items n, slots := sl } ∧
      R (.ok (.ret (.ref (s.heap.push { cls := .type (itc true), data := .fields #[.ref l, .int 0 0] }).objs.size)))
        { s with heap := (s.heap.push { cls := .type (itc true), data := .fields #[.ref l, .int 0 0] }).push { cls := .type "enumerate", data := .fields #[.none, .bool false, .ref s.heap.objs.size, rawInt 0, .none, .none] } }) := by
  refine .of_wp fun prog w A R s ⟨hl, h⟩ => ?_
  obtain ⟨hp, g, d, tk, os⟩ := s
  have h0 := sub_enumerate
  have hL : SLs true (Shared.heap ⟨hp, g, d, tk, os⟩) l items := ⟨_, hl, rfl, n, rfl⟩
  wp_walk using AutoSeq1.wpAny_loadPart' hl
  refine wpAny_stack_any fun st => wpAny_pure ?_
  split
  · rename_i c _ _ _ _ _
    cases (c == Value.type "enumerate") <;> (wp_walk using AutoSeq1.wpAny_loadPart' hl, pyIter_sls hL; exact ⟨_, rfl, h⟩)
  · wp_walk using AutoSeq1.wpAny_loadPart' hl, pyIter_sls hL
    exact ⟨_, rfl, h⟩
theorem call_enumT {prog : Program} {w : World} {A : Around} {E : Value → Shared → Prop} {s : Shared} {l : Addr} {items : Array Value} {Q : Value → Shared → Prop} (hL : s.heap.IsTuple l items)
    (h : ∀ h', IsEnum h' (s.heap.objs.size + 1) s.heap.objs.size 0 .none → SIt true h' s.heap.objs.size l 0 → (∀ b o, s.heap.get? b = some o → h'.get? b = some o) → Q (.ref (s.heap.objs.size + 1)) { s with heap := h' }) :
    wpAny (model prog w) A (call (.type "enumerate") [.ref l]) Q E s := by
  obtain ⟨⟨c, dct, dt, sl⟩, hl, rfl, n, rfl⟩ := hL
  refine callType_new F.called_enumerate (by decide) (F.typeCall_enumerate_1 _) (F.newCall_enumerate_1 _) (fun obj => F.args_object_init_2 obj _) F.entry_enumerate_new (meets_enumT l items n dct sl) ⟨hl, ?_⟩
  have z1 : (s.heap.push { cls := .type (itc true), data := .fields #[.ref l, .int 0 0] }).objs.size = s.heap.objs.size + 1 := Heap.size_push ..
  have key : ∀ (h1 : Heap) (o1 : Obj), h1 = s.heap.push { cls := .type (itc true), data := .fields #[.ref l, .int 0 0] } → o1 = { cls := .type "enumerate", data := .fields #[.none, .bool false, .ref s.heap.objs.size, rawInt 0, .none, .none] } →
      IsEnum (h1.push o1) (s.heap.objs.size + 1) s.heap.objs.size 0 .none ∧ SIt true (h1.push o1) s.heap.objs.size l 0 ∧ ∀ b o, s.heap.get? b = some o → (h1.push o1).get? b = some o := by
    rintro h1 o1 rfl rfl
    refine ⟨?_, ⟨_, Heap.get?_push_of_some _ (Heap.get?_push_size _ rfl), rfl, rfl⟩, fun b o e => Heap.get?_push_of_some _ (Heap.get?_push_of_some _ e)⟩
    rw [← z1]
    exact Heap.get?_push_size _ rfl
  obtain ⟨k1, k2, k3⟩ := key _ _ rfl rfl
  show _ ∧ _
  rw [z1]
  exact ⟨⟨_, k1, rfl⟩, h _ k1 k2 k3⟩
def IteM (K : PySem.W.Frag) (b : Bool) (a : Addr) : It where
  go := fun i H => ∃ (xs : List V) (x : V), Sq b K H a xs ∧ xs[i]? = some x
  yld := fun i H v H' => ∃ T x, v = .ref T ∧ H T = none ∧ H' = upd H T (.tup [.int (i : Nat), x]) ∧ ∀ xs, Sq b K H a xs → xs[i]? = some x
  stop := fun i H => ∃ xs : List V, Sq b K H a xs ∧ xs.length ≤ i
def ESt (b : Bool) (e it a : Addr) (i : Nat) (h : Heap) : Prop := (∃ old, IsEnum h e it ((i : Nat) : Int) old) ∧ SIt b h it a i ∧ e ≠ it
theorem mem2 {c e it : Addr} (h : c ∈ [e, it]) : c = e ∨ c = it := by simpa using h
theorem SLs.cls {b : Bool} {h : Heap} {l : Addr} {items : Array Value} (s : SLs b h l items) : ∃ o, h.get? l = some o ∧ (o.cls = .type "tuple" ∨ o.cls = .type "list") := by
  cases b with
  | true => obtain ⟨o, g, r, _⟩ := (show h.IsTuple l items from s); exact ⟨o, g, .inl r⟩
  | false => obtain ⟨o, g, r, _⟩ := (show h.IsList l items from s); exact ⟨o, g, .inr r⟩
theorem turn_enumM {P : Program} {w : World} {K : PySem.W.Frag} {b : Bool} {elts : List Expr} {kk : Nat} {tpos : Pos} (a e it : Addr) : Turn P w K (.Tuple elts kk tpos) (IteM K b a) [e, it] e (ESt b e it a) where
  mem := by simp
  obj := fun i h ⟨⟨old, he⟩, ⟨o, ho, hc, hd⟩, _⟩ d hm => by
    rcases mem2 hm with z | z <;> subst z
    · exact ⟨_, he, fun v q => nomatch q⟩
    · exact ⟨o, ho, fun v q => by rw [hd] at q; cases q⟩
  keep := fun i h h' ⟨⟨old, he⟩, hi, hne⟩ k => ⟨⟨old, k e (by simp) _ he⟩, hi.at fun o q => k it (by simp) o q, hne⟩
  item := by
    rintro X rfl rfl rfl hc i pins s σ H E I hf ⟨⟨old, he⟩, hit, hne⟩ ⟨xs, x, hq, hx⟩
    obtain ⟨its, rv, p, hl⟩ := Inv.sq I hq
    obtain ⟨u, hu, ru⟩ := rv.get hx
    have el : e < s.heap.objs.size := Heap.lt_size he
    obtain ⟨oi, gi, ci, _⟩ := id hit
    obtain ⟨ol, gl, cl⟩ := SLs.cls p
    have nae : e ≠ a := fun z => by
      subst z
      rw [he] at gl; cases gl
      rcases cl with z | z <;> (simp at z)
    have nit : a ≠ it := fun z => by
      subst z
      rw [gi] at gl; cases gl
      rw [ci] at cl
      cases b <;> (rcases cl with z | z <;> (simp [itc] at z))
    have hi : i < its.toArray.size := by
      have := (List.getElem?_eq_some_iff.mp hu).1
      simpa using this
    refine wpAny_pyNext_enum_itemD (drawsM (A := X.A.in1) (I.ok.hd hc) b it a nit its.toArray) he ⟨hit, p⟩ hi hne (by simp [hne, nae]) fun v h' tk hv ho st' gT sz kp => ?_
    have ev : v = u := by
      have hu' : its.toArray[i]? = some u := by simpa using hu
      rw [hu'] at hv
      exact (Option.some.inj hv).symm
    subst ev
    refine ⟨_, rfl, wpAny_letOwnedTupleGo_enum (s := { s with heap := h', toks := tk + 1 }) ho fun h'' he' sb => ?_⟩
    have gT2 : h''.get? s.heap.objs.size = some { cls := .type "tuple", data := .seq #[.int i tk, v] } := (sb.2 _ (Nat.ne_of_gt el)).trans gT
    have new : ObjOk X.prog X.w (upd H s.heap.objs.size (.tup [.int (i : Nat), x])) h'' s.heap.objs.size (.tup [.int (i : Nat), x]) := ⟨by show 2 ≤ sizeLine; decide, [.int i tk, v], .cons ⟨_, rfl⟩ (.cons ru .nil), ⟨_, gT2, rfl, _, rfl⟩⟩
    have I1 : Inv X pins σ (upd H s.heap.objs.size (.tup [.int (i : Nat), x])) { s with heap := h'', toks := tk + 1 } := by
      refine I.turnedNew (ch := [e, it]) (fun d ob hd q => ?_) hf (Nat.le_refl _) new
      have nd : d ≠ e ∧ d ≠ it := by simpa using hd
      exact (sb.2 d nd.1).trans (kp d ob nd.1 nd.2 q)
    refine ⟨.ref s.heap.objs.size, _, I1, rfl, ⟨_, x, rfl, I.hok.fresh (Nat.le_refl _), rfl, fun ys hy => by rw [Inv.sq_inj I hy hq]; exact hx⟩, ⟨⟨v, ?_⟩, st'.1.at fun o q => (sb.2 it (Ne.symm hne)).trans q, hne⟩, fun d hd => ?_⟩
    · rw [show ((i + 1 : Nat) : Int) = (i : Int) + 1 by omega]; exact he'
    · have lt : d < s.heap.objs.size := by
        rcases mem2 hd with z | z <;> subst z
        · exact el
        · exact hit.lt
      rw [upd_ne (Nat.ne_of_lt lt)]
      exact (hf d hd).1
  done := by
    rintro X rfl rfl rfl hc i pins s σ H E I hf ⟨⟨old, he⟩, hit, hne⟩ ⟨xs, hq, hx⟩
    obtain ⟨its, rv, p, hl⟩ := Inv.sq I hq
    obtain ⟨f0, f1, f2, f3, f4, f5⟩ := hf it (by simp)
    obtain ⟨oi, gi, ci, _⟩ := id hit
    obtain ⟨ol, gl, cl⟩ := SLs.cls p
    have nit : a ≠ it := fun z => by
      subst z
      rw [gi] at gl; cases gl
      rw [ci] at cl
      cases b <;> (rcases cl with z | z <;> (simp [itc] at z))
    unfold pyNext
    have hT : s.TypeIs (.ref e) "enumerate" := ⟨_, he, rfl⟩
    refine wpAny_bind (wpAny_attempt (wpAny_callSpecial?_slot (name := Str.ofString "__next__") hT F.slot_enumerate_next (wpAny_call_entry F.slot_enumerate_next hT F.entry_enumerate_next ?_ (F.args_enumerate_next_1 _))))
    show wpAny _ _ (field (.ref e) 2 >>= _) _ _ _
    refine wpAny_bind (wpAny_field he rfl (x := .ref it) rfl (wpAny_bind (sit_end (I.ok.hd hc) hit p (by simp; omega) fun h' x eb ⟨o, ho, hcx⟩ => ?_)))
    refine wpAny_bind (wpAny_isInstance (T := "StopIteration") (b := true) ⟨o, ho, hcx⟩ isSubtype_stop (wpAny_pure ⟨rfl, I.turned (t' := s.toks) (fun b o hb q => eb b o hb q) f0 f1 f3 f4 f5⟩))
  self := fun A i s Q E ⟨⟨_, he⟩, _⟩ h => wpAny_pyIter_enum he h
def iEnumM (K : PySem.W.Frag) (ta : TA) : TI := fun σ H R => ta σ H fun vs H1 => ∃ b a xs, vs = [.ref a] ∧ Sq b K H1 a xs ∧ R (IteM K b a) H1
theorem pi_enumM {X : Cx} {e : Expr} {ta : TA} {p pos tpos : Pos} {elts : List Expr} {kk : Nat} (hg : Gl X "enumerate") (hm : X.mg "enumerate" = none) (ha : PA X [e] ta) (hs : starEach [e] X.env = [(false, eval e X.env)] := by rfl) :
    PI X (.Tuple elts kk tpos) (.Call (.Name "enumerate" p) [e] [] pos) (iEnumM X.K ta) := by
  refine ⟨fun pins s σ H R I h => Call_ (ld_blt I hg hm boot_enumerate (PyProof.Rows.callWith_type1 (thn (ha.run pos pins s σ H _ I h) fun us s1 ⟨vs, H1, I1, r1, q1⟩ => ?_) hs rfl))⟩
  obtain ⟨b, a, xs, rfl, hq, q⟩ := q1
  obtain ⟨u, rfl, ru⟩ := vals1 r1
  cases ru
  obtain ⟨its, rv, p', hz⟩ := Inv.sq I1 hq
  have fin : ∀ h' : Heap, IsEnum h' (s1.heap.objs.size + 1) s1.heap.objs.size 0 .none → SIt b h' s1.heap.objs.size a 0 → (∀ b o, s1.heap.get? b = some o → h'.get? b = some o) →
      PIE X pins σ (.Tuple elts kk tpos) R (.ref (s1.heap.objs.size + 1)) { s1 with heap := h' } := fun h' he hit kp => by
    have I2 : Inv X pins σ H1 { s1 with heap := h' } := I1.kept (t' := s1.toks) kp
    refine ⟨s1.heap.objs.size + 1, [s1.heap.objs.size + 1, s1.heap.objs.size], _, _, H1, rfl, I2, turn_enumM a (s1.heap.objs.size + 1) s1.heap.objs.size, ⟨⟨.none, he⟩, hit, Nat.succ_ne_self _⟩, fun d hd => ?_, q⟩
    have le : s1.heap.objs.size ≤ d := by
      rcases mem2 hd with z | z <;> (rw [z]; omega)
    exact I1.fpOk le (I1.hok.fresh le)
  cases b with
  | true => exact call_enumT p' fun h' he hit kp => wpAny_pyIter_enum he (fin h' he hit kp)
  | false => exact call_enumerate_list p' fun h' he hit _ kp => wpAny_pyIter_enum he (fin h' he hit kp)
end ND
set_option Elab.async false
set_option linter.all false
set_option maxRecDepth 100000
namespace ND
open PySem PySem.Spec PyProof.Rows L2 NDZ

/-! ### what is walked: the items, and what has to stay true of the store meanwhile -/
abbrev WI := Slots → Store → (List D → (Store → Prop) → Store → Prop) → Prop
def Src (K : PySem.W.Frag) (B : Blk) (S0 : Store) (H0 : Hp) (J : It) (items : List D) (wt : Store → Prop) : Prop :=
  ∀ (B' : Blk) S H, (∀ a, B a → B' a) → (∀ a, B' a → B a ∨ H0 a = none) → Grow S0 H0 S H → RepS K B' S H → wt S → ∀ i,
    (i < items.length → J.go i H ∧ ∀ x H', J.yld i H x H' → Grow S H S H' ∧ RepS K B' S H' ∧ ∃ d, items[i]? = some d ∧ RepD K B' S H' d x) ∧ (items.length ≤ i → J.stop i H)
def tDI (K : PySem.W.Frag) (t : WI) : TI := fun σ H R => ∃ B env S Ri, RepE K B S H env σ ∧ RepS K B S H ∧ t env S Ri ∧
  ∀ S' H' items wt J, Grow S H S' H' → RepS K B S' H' → Src K B S' H' J items wt → Ri items wt S' → R J H'
def DI (X : Cx) (tg iter : Expr) (t : WI) : Prop := PI X tg iter (tDI X.K t)
/- other blocked addresses, younger than the heap -/
mutual
theorem RepD.blk {K : PySem.W.Frag} {B B' : Blk} {S : Store} {H : Hp} (hb : ∀ a, B' a → B a ∨ H a = none) : ∀ (d : D) (v : V), RepD K B S H d v → RepD K B' S H d v
  | .non, v, h => by rw [repD_non] at h ⊢; exact h
  | .bl b, v, h => by rw [repD_bl] at h ⊢; exact h
  | .int i, v, h => by rw [repD_int] at h ⊢; exact h
  | .str x, v, h => by rw [repD_str] at h ⊢; exact h
  | .ref a, v, h => by rw [repD_ref] at h ⊢; exact h
  | .fn x, v, h => by rw [repD_fn] at h ⊢; exact h
  | .tup l, v, h => by
    obtain ⟨a, xs, e, t, r⟩ := repD_tup.mp h
    refine repD_tup.mpr ⟨a, xs, e, ?_, RepL.blk hb l xs r⟩
    rcases t with ⟨r, s, n⟩ | k
    · refine .inl ⟨r, s, fun z => (hb a z).elim n fun z => ?_⟩
      rcases r with r | ⟨o, r⟩ <;> (rw [z] at r; cases r)
    · exact .inr k
  | .kls l, v, h => by
    obtain ⟨a, xs, e, t, rl⟩ := repD_kls.mp h
    exact repD_kls.mpr ⟨a, xs, e, t, RepL.blk hb l xs rl⟩
  | .lst l, v, h => by
    obtain ⟨a, xs, e, ⟨r, s, n⟩, rl⟩ := repD_lst.mp h
    refine repD_lst.mpr ⟨a, xs, e, ⟨r, s, fun z => (hb a z).elim n fun z => ?_⟩, RepL.blk hb l xs rl⟩
    rcases r with r | ⟨o, r⟩ <;> (rw [z] at r; cases r)
theorem RepL.blk {K : PySem.W.Frag} {B B' : Blk} {S : Store} {H : Hp} (hb : ∀ a, B' a → B a ∨ H a = none) : ∀ (l : List D) (xs : List V), RepL K B S H l xs → RepL K B' S H l xs
  | [], xs, h => by rw [repL_nil] at h ⊢; exact h
  | d :: l, xs, h => by
    obtain ⟨v, r, e, h1, h2⟩ := repL_cons.mp h
    exact repL_cons.mpr ⟨v, r, e, RepD.blk hb d v h1, RepL.blk hb l r h2⟩
end
mutual
theorem RepD.moved {K : PySem.W.Frag} {B : Blk} {S : Store} {H H' : Hp} (k : ∀ a o, H a = some o → ¬ B a → H' a = some o) : ∀ (d : D) (v : V), RepD K B S H d v → RepD K B S H' d v
  | .non, v, h => by rw [repD_non] at h ⊢; exact h
  | .bl b, v, h => by rw [repD_bl] at h ⊢; exact h
  | .int i, v, h => by rw [repD_int] at h ⊢; exact h
  | .str x, v, h => by rw [repD_str] at h ⊢; exact h
  | .ref a, v, h => by rw [repD_ref] at h ⊢; exact h
  | .fn x, v, h => by rw [repD_fn] at h ⊢; exact h
  | .tup l, v, h => by
    obtain ⟨a, xs, e, t, r⟩ := repD_tup.mp h
    refine repD_tup.mpr ⟨a, xs, e, ?_, RepL.moved k l xs r⟩
    rcases t with ⟨r | ⟨o, r⟩, s, n⟩ | kk
    · exact .inl ⟨.inl (k _ _ r n), s, n⟩
    · exact .inl ⟨.inr ⟨o, k _ _ r n⟩, s, n⟩
    · exact .inr kk
  | .kls l, v, h => by
    obtain ⟨a, xs, e, t, rl⟩ := repD_kls.mp h
    exact repD_kls.mpr ⟨a, xs, e, t, RepL.moved k l xs rl⟩
  | .lst l, v, h => by
    obtain ⟨a, xs, e, ⟨r, s, n⟩, rl⟩ := repD_lst.mp h
    refine repD_lst.mpr ⟨a, xs, e, ⟨?_, s, n⟩, RepL.moved k l xs rl⟩
    rcases r with r | ⟨o, r⟩
    · exact .inl (k _ _ r n)
    · exact .inr ⟨o, k _ _ r n⟩
theorem RepL.moved {K : PySem.W.Frag} {B : Blk} {S : Store} {H H' : Hp} (k : ∀ a o, H a = some o → ¬ B a → H' a = some o) : ∀ (l : List D) (xs : List V), RepL K B S H l xs → RepL K B S H' l xs
  | [], xs, h => by rw [repL_nil] at h ⊢; exact h
  | d :: l, xs, h => by
    obtain ⟨v, r, e, h1, h2⟩ := repL_cons.mp h
    exact repL_cons.mpr ⟨v, r, e, RepD.moved k d v h1, RepL.moved k l r h2⟩
end
theorem RepC.moved {K : PySem.W.Frag} {B : Blk} {S : Store} {H H' : Hp} (k : ∀ a o, H a = some o → ¬ B a → H' a = some o) {a : Addr} {c : Cell} (h : RepC K B S H a c) (n : ¬ B a) : RepC K B S H' a c := by
  have pk : ∀ {κ : Type} {fs : List (κ × D)} {gs : List (κ × V)}, RepK K B S H fs gs → RepK K B S H' fs gs := fun {κ fs gs} h => by
    unfold RepK at h ⊢
    induction h with
    | nil => exact .nil
    | cons a _ ih => exact .cons ⟨a.1, RepD.moved k _ _ a.2⟩ ih
  cases c with
  | lst l => obtain ⟨xs, e1, r⟩ := h; exact ⟨xs, k _ _ e1 n, RepL.moved k _ _ r⟩
  | ins C fs => obtain ⟨dx, gs, e1, r⟩ := h; exact ⟨dx, gs, k _ _ e1 n, pk r⟩
  | dK kvs => obtain ⟨gs, e1, r⟩ := h; exact ⟨gs, k _ _ e1 n, pk r⟩
  | dT kvs => obtain ⟨gs, e1, r⟩ := h; exact ⟨gs, k _ _ e1 n, pk r⟩
  | exc x => obtain ⟨C, c, e1⟩ := h; exact ⟨C, c, k _ _ e1 n⟩
theorem wipe_wipe (vs : List Nat) (σ : L2.St) : wipe (wipe σ vs) vs = wipe σ vs := by
  apply List.ext_getElem?
  intro j
  by_cases hj : j ∈ vs
  · rw [wipe_at hj, wipe_at hj]
    cases σ[j]? <;> rfl
  · rw [wipe_out hj]
theorem RepE.blk {K : PySem.W.Frag} {B B' : Blk} {S : Store} {H : Hp} {env : Slots} {σ : L2.St} (h : RepE K B S H env σ) (hb : ∀ a, B' a → B a ∨ H a = none) : RepE K B' S H env σ :=
  ⟨h.1, fun i d e => let ⟨v, e1, r⟩ := h.2 i d e; ⟨v, e1, RepD.blk hb d v r⟩⟩
theorem RepC.unblk {K : PySem.W.Frag} {B B' : Blk} {S : Store} {H : Hp} (hb : ∀ a, B' a → B a) {a : Addr} {c : Cell} (h : RepC K B S H a c) : RepC K B' S H a c := by
  have pk : ∀ {κ : Type} {fs : List (κ × D)} {gs : List (κ × V)}, RepK K B S H fs gs → RepK K B' S H fs gs := fun {κ fs gs} h => by
    unfold RepK at h ⊢
    induction h with
    | nil => exact .nil
    | cons a _ ih => exact .cons ⟨a.1, RepD.unblk hb _ _ a.2⟩ ih
  cases c with
  | lst l => obtain ⟨xs, e1, r⟩ := h; exact ⟨xs, e1, RepL.unblk hb _ _ r⟩
  | ins C fs => obtain ⟨dx, gs, e1, r⟩ := h; exact ⟨dx, gs, e1, pk r⟩
  | dK kvs => obtain ⟨gs, e1, r⟩ := h; exact ⟨gs, e1, pk r⟩
  | dT kvs => obtain ⟨gs, e1, r⟩ := h; exact ⟨gs, e1, pk r⟩
  | exc x => exact h
theorem RepC.blk {K : PySem.W.Frag} {B B' : Blk} {S : Store} {H : Hp} (hb : ∀ a, B' a → B a ∨ H a = none) {a : Addr} {c : Cell} (h : RepC K B S H a c) : RepC K B' S H a c := by
  have pk : ∀ {κ : Type} {fs : List (κ × D)} {gs : List (κ × V)}, RepK K B S H fs gs → RepK K B' S H fs gs := fun {κ fs gs} h => by
    unfold RepK at h ⊢
    induction h with
    | nil => exact .nil
    | cons a _ ih => exact .cons ⟨a.1, RepD.blk hb _ _ a.2⟩ ih
  cases c with
  | lst l => obtain ⟨xs, e1, r⟩ := h; exact ⟨xs, e1, RepL.blk hb _ _ r⟩
  | ins C fs => obtain ⟨dx, gs, e1, r⟩ := h; exact ⟨dx, gs, e1, pk r⟩
  | dK kvs => obtain ⟨gs, e1, r⟩ := h; exact ⟨gs, e1, pk r⟩
  | dT kvs => obtain ⟨gs, e1, r⟩ := h; exact ⟨gs, e1, pk r⟩
  | exc x => exact h
theorem RepS.unblk {K : PySem.W.Frag} {B B' : Blk} {S : Store} {H : Hp} (rs : RepS K B S H) (hb : ∀ a, B' a → B a) : RepS K B' S H :=
  ⟨fun a c e => (rs.cell a c e).unblk hb, fun a b => rs.blk a (hb a b)⟩

/-- what one side of a walk is, now and later -/
def Side (K : PySem.W.Frag) (B : Blk) (S0 : Store) (H0 : Hp) (b : Bool) (a : Addr) (l : List D) (wt : Store → Prop) : Prop :=
  ∀ (B' : Blk) S H, (∀ a, B a → B' a) → (∀ a, B' a → B a ∨ H0 a = none) → Grow S0 H0 S H → RepS K B' S H → wt S → ∃ xs, Sq b K H a xs ∧ RepL K B' S H l xs
def watchS (x : D) (l : List D) : Store → Prop := match x with
  | .ref a => fun S => S a = some (.lst l)
  | _ => fun _ => True
theorem side_of {K : PySem.W.Frag} {B : Blk} {S : Store} {H : Hp} {x : D} {v : V} {l : List D} (rs : RepS K B S H) (r : RepD K B S H x v) (c : SC S x l) :
    ∃ b a, v = .ref a ∧ (∃ xs, Sq b K H a xs) ∧ Side K B S H b a l (watchS x l) := by
  cases x with
  | tup l' =>
    obtain rfl : l' = l := c
    obtain ⟨a, xs, e, t, rl⟩ := repD_tup.mp r
    exact ⟨true, a, e, ⟨xs, t.seq⟩, fun B' S' H' _ h2 g _ _ => ⟨xs, (t.grow g).seq, RepL.grow g _ _ (RepL.blk h2 _ _ rl)⟩⟩
  | lst l' =>
    obtain rfl : l' = l := c
    obtain ⟨a, xs, e, t, rl⟩ := repD_lst.mp r
    exact ⟨false, a, e, ⟨xs, t.seq⟩, fun B' S' H' _ h2 g _ _ => ⟨xs, (t.grow g).seq, RepL.grow g _ _ (RepL.blk h2 _ _ rl)⟩⟩
  | kls l' =>
    obtain rfl : l' = l := c
    obtain ⟨a, xs, e, t, rl⟩ := repD_kls.mp r
    exact ⟨false, a, e, ⟨xs, .inr t⟩, fun B' S' H' _ h2 g _ _ => ⟨xs, .inr t, RepL.grow g _ _ (RepL.blk h2 _ _ rl)⟩⟩
  | ref a =>
    have c' : S a = some (.lst l) := c
    obtain ⟨xs, e, _⟩ := rs.cell a _ c'
    refine ⟨false, a, repD_ref.mp r, ⟨xs, .of e⟩, fun B' S' H' _ h2 g rs' w => ?_⟩
    obtain ⟨ys, e', rl'⟩ := rs'.cell a _ (show S' a = some (.lst l) from w)
    exact ⟨ys, .of e', rl'⟩
  | _ => exact False.elim c
def ItS (b : Bool) (K : PySem.W.Frag) (a : Addr) : It := match b with
  | true => Itt K a
  | false => Itl K a
theorem src_seq {K : PySem.W.Frag} {B : Blk} {S0 : Store} {H0 : Hp} {b : Bool} {a : Addr} {l : List D} {wt : Store → Prop} (sd : Side K B S0 H0 b a l wt) : Src K B S0 H0 (ItS b K a) l wt :=
  fun B' S H h1 h2 g rs w i => by
    obtain ⟨xs, q, rl⟩ := sd B' S H h1 h2 g rs w
    refine ⟨fun hi => ?_, fun hi => ?_⟩
    · obtain ⟨v, hv, rd⟩ := rl.get (List.getElem?_eq_getElem hi)
      cases b with
      | true =>
        refine ⟨⟨xs, v, q, hv⟩, fun x H' ⟨e, f⟩ => ?_⟩
        subst e
        have e := (f xs q).symm.trans hv
        cases e
        exact ⟨.refl, rs, _, List.getElem?_eq_getElem hi, rd⟩
      | false =>
        refine ⟨⟨xs, v, q, hv⟩, fun x H' ⟨e, f⟩ => ?_⟩
        subst e
        have e := (f xs q).symm.trans hv
        cases e
        exact ⟨.refl, rs, _, List.getElem?_eq_getElem hi, rd⟩
    · rw [rl.len] at hi
      cases b with
      | true => exact ⟨xs, q, hi⟩
      | false => exact ⟨xs, q, hi⟩
def zipD (l m : List D) : List D := List.zipWith (fun x y => D.tup [x, y]) l m
theorem src_zip {K : PySem.W.Frag} {B : Blk} {S0 : Store} {H0 : Hp} {b c : Bool} {a d : Addr} {l m : List D} {w1 w2 : Store → Prop} (s1 : Side K B S0 H0 b a l w1) (s2 : Side K B S0 H0 c d m w2) :
    Src K B S0 H0 (ItzM K b c a d) (zipD l m) (fun S => w1 S ∧ w2 S) :=
  fun B' S H h1 h2 g rs w i => by
    obtain ⟨xs, q, rl⟩ := s1 B' S H h1 h2 g rs w.1
    obtain ⟨ys, q2, rl2⟩ := s2 B' S H h1 h2 g rs w.2
    have len : (zipD l m).length = min l.length m.length := by unfold zipD; rw [List.length_zipWith]
    refine ⟨fun hi => ?_, fun hi => ?_⟩
    · rw [len] at hi
      have i1 : i < l.length := by omega
      have i2 : i < m.length := by omega
      obtain ⟨v, hv, rd⟩ := rl.get (List.getElem?_eq_getElem i1)
      obtain ⟨v2, hv2, rd2⟩ := rl2.get (List.getElem?_eq_getElem i2)
      refine ⟨⟨xs, ys, v, v2, q, q2, hv, hv2⟩, ?_⟩
      rintro x H' ⟨T, x1, y1, rfl, nT, rfl, f1, f2⟩
      have e1 := (f1 xs q).symm.trans hv
      have e2 := (f2 ys q2).symm.trans hv2
      cases e1
      cases e2
      obtain ⟨g', rs', sp, nb⟩ := rs.new (o := .tup [v, v2]) nT
      refine ⟨g', rs', .tup [l[i], m[i]], by unfold zipD; simp [List.getElem?_zipWith, i1, i2], repD_tup.mpr ⟨T, [v, v2], rfl, .inl ⟨.inl upd_same, sp, nb⟩, RepL.grow g' _ _ (repL_cons.mpr ⟨v, _, rfl, rd, .one rd2⟩)⟩⟩
    · refine ⟨xs, ys, q, q2, ?_⟩
      rw [len, rl.len, rl2.len] at hi
      omega
def enumD (l : List D) : List D := l.zipIdx.map fun p => D.tup [.int (p.2 : Nat), p.1]
theorem src_enum {K : PySem.W.Frag} {B : Blk} {S0 : Store} {H0 : Hp} {b : Bool} {a : Addr} {l : List D} {wt : Store → Prop} (s1 : Side K B S0 H0 b a l wt) : Src K B S0 H0 (IteM K b a) (enumD l) wt :=
  fun B' S H h1 h2 g rs w i => by
    obtain ⟨xs, q, rl⟩ := s1 B' S H h1 h2 g rs w
    have len : (enumD l).length = l.length := by unfold enumD; rw [List.length_map, List.length_zipIdx]
    refine ⟨fun hi => ?_, fun hi => ?_⟩
    · rw [len] at hi
      obtain ⟨v, hv, rd⟩ := rl.get (List.getElem?_eq_getElem hi)
      refine ⟨⟨xs, v, q, hv⟩, ?_⟩
      rintro x H' ⟨T, x1, rfl, nT, rfl, f1⟩
      have e1 := (f1 xs q).symm.trans hv
      cases e1
      obtain ⟨g', rs', sp, nb⟩ := rs.new (o := .tup [.int (i : Nat), v]) nT
      refine ⟨g', rs', .tup [.int (i : Nat), l[i]], by unfold enumD; simp [List.getElem?_zipIdx, hi], repD_tup.mpr ⟨T, _, rfl, .inl ⟨.inl upd_same, sp, nb⟩, repL_cons.mpr ⟨_, _, rfl, repD_int.mpr rfl, .one (RepD.grow g' _ _ rd)⟩⟩⟩
    · rw [len, rl.len] at hi
      exact ⟨xs, q, hi⟩
def rngD (i j : Int) : List D := (List.range (j - i).toNat).map fun k => D.int (i + (k : Nat))
theorem src_rng {K : PySem.W.Frag} {B : Blk} {S0 : Store} {H0 : Hp} {lo hi : Int} : Src K B S0 H0 (Itr lo (hi - lo).toNat) (rngD lo hi) (fun _ => True) :=
  fun B' S H h1 h2 g rs w i => by
    have len : (rngD lo hi).length = (hi - lo).toNat := by unfold rngD; rw [List.length_map, List.length_range]
    rw [len]
    refine ⟨fun h => ⟨h, ?_⟩, fun h => h⟩
    rintro x H' ⟨rfl, rfl⟩
    exact ⟨.refl, rs, .int (lo + (i : Nat)), by unfold rngD; simp [h], repD_int.mpr rfl⟩
def chrsD (z : Str) : List D := z.cps.toList.map fun c => D.str ⟨#[c]⟩
theorem src_str {K : PySem.W.Frag} {B : Blk} {S0 : Store} {H0 : Hp} {z : Str} : Src K B S0 H0 (Its z) (chrsD z) (fun _ => True) :=
  fun B' S H h1 h2 g rs w i => by
    have len : (chrsD z).length = z.cps.size := by unfold chrsD; simp
    rw [len]
    refine ⟨fun h => ⟨h, ?_⟩, fun h => h⟩
    rintro x H' ⟨rfl, c, hc, rfl⟩
    exact ⟨.refl, rs, .str ⟨#[c]⟩, by unfold chrsD; simp [hc], repD_str.mpr rfl⟩

section
variable {X : Cx}
/-! ### what is walked -/
def walkD (x : D) (S1 : Store) (R : List D → (Store → Prop) → Store → Prop) : Prop := match x with
  | .str z => R (chrsD z) (fun _ => True) S1
  | x => ∃ l, SC S1 x l ∧ R l (watchS x l) S1
theorem walkD_of {x : D} {l : List D} {S : Store} {R : List D → (Store → Prop) → Store → Prop} (c : SC S x l) (h : R l (watchS x l) S) : walkD x S R := by
  cases x with
  | str z => exact False.elim c
  | _ => exact ⟨l, c, h⟩
def wSeqI (t : WE) : WI := fun env S R => t env S fun x S1 => walkD x S1 R
theorem di_seq {tg e : Expr} {t : WE} (he : DE X e t) : DI X tg e (wSeqI t) := by
  refine ⟨fun pins s σ H R I ⟨B, env, S, Ri, re, rs, q, l⟩ => thn (he.run pins s σ H (fun v H1 => ∃ S1 d, Grow S H S1 H1 ∧ RepS X.K B S1 H1 ∧ RepD X.K B S1 H1 d v ∧
    walkD d S1 Ri) I ⟨B, env, S, _, re, rs, q, fun S1 H1 d v g rs1 rd q1 => ⟨S1, d, g, rs1, rd, q1⟩⟩) fun v s1 ⟨x, H1, I1, r1, S1, d, g, rs1, rd, q1⟩ => ?_⟩
  have seqs : (∃ m, SC S1 d m ∧ Ri m (watchS d m) S1) → wpAny (model X.prog X.w) X.A (pyIter v) (PIE X pins σ tg R) X.xe s1 := by
    rintro ⟨m, c, q1⟩
    obtain ⟨b, a, rfl, ⟨xs, sq⟩, sd⟩ := side_of rs1 rd c
    have fin := l S1 H1 m _ (ItS b X.K a) g rs1 (src_seq sd) q1
    cases r1
    obtain ⟨its, rv, p, _⟩ := Inv.sq I1 sq
    refine pyIter_sls p ?_
    have I2 : Inv X pins σ H1 { s1 with heap := s1.heap.push { cls := .type (itc b), data := .fields #[.ref a, .int 0 0] } } := I1.kept (t' := s1.toks) fun b o e => Heap.get?_push_of_some _ e
    have fp : ∀ d ∈ [s1.heap.objs.size], FpOk X pins H1 d := fun d hd => by
      obtain rfl : d = s1.heap.objs.size := by simpa using hd
      exact I1.fpOk (Nat.le_refl _) (I1.hok.fresh (Nat.le_refl _))
    cases b with
    | true => exact ⟨_, [s1.heap.objs.size], _, _, H1, rfl, I2, turn_tuple a _, ⟨_, Heap.get?_push_size _ rfl, rfl, rfl⟩, fp, fin⟩
    | false => exact ⟨_, [s1.heap.objs.size], _, _, H1, rfl, I2, turn_list a _, ⟨_, Heap.get?_push_size _ rfl, rfl, rfl⟩, fp, fin⟩
  cases d with
  | str z =>
    rw [repD_str] at rd
    subst rd
    obtain ⟨t, rfl⟩ := r1
    have fin := l S1 H1 _ _ (Its z) g rs1 src_str q1
    cases ha : z.cps.all (· < 128)
    · exact wpAny_pyIter_wide ha (pi_one (tk := s1.toks) I1 _ (turn_str _ z t "str_iterator" (.inr rfl)) ⟨_, Heap.get?_push_size _ rfl, rfl, rfl⟩ fin)
    · exact wpAny_pyIter_ascii ha (pi_one (tk := s1.toks) I1 _ (turn_str _ z t "str_ascii_iterator" (.inl rfl)) ⟨_, Heap.get?_push_size _ rfl, rfl, rfl⟩ fin)
  | int i => exact seqs q1
  | tup m => exact seqs q1
  | lst m => exact seqs q1
  | ref a => exact seqs q1
  | non => exact seqs q1
  | bl b => exact seqs q1
  | kls m => exact seqs q1
  | fn m => exact seqs q1
def wZipI (t : WA) : WI := fun env S R => t env S fun ds S1 => match ds with
  | [x, y] => ∃ l m, SC S1 x l ∧ SC S1 y m ∧ R (zipD l m) (fun S2 => watchS x l S2 ∧ watchS y m S2) S1
  | _ => False
theorem di_zip {e e2 : Expr} {t : WA} {p pos tpos : Pos} {elts : List Expr} {kk : Nat} (hg : Gl X "zip") (hm : X.mg "zip" = none) (ha : DA X [e, e2] t)
    (hs : starEach [e, e2] X.env = (false, eval e X.env) :: starEach [e2] X.env := by rfl) (hpl : (backTo pos (starEach [e2] X.env)).any (·.1) = false := by rfl) :
    DI X (.Tuple elts kk tpos) (.Call (.Name "zip" p) [e, e2] [] pos) (wZipI t) :=
  PI.mono (pi_zipM hg hm ha hs hpl) fun σ H R ⟨B, env, S, Ri, re, rs, q, l⟩ => ⟨B, env, S, _, re, rs, q, fun S1 H1 ds vs g1 rs1 rds q1 => by
    match ds, q1 with
    | [x, y], q1 =>
      obtain ⟨m1, m2, c1, c2, q1⟩ := q1
      obtain ⟨v, u, rfl, r1, r2⟩ := repL2 rds
      obtain ⟨b, a, rfl, ⟨xs, sq⟩, sd⟩ := side_of rs1 r1 c1
      obtain ⟨b', a', rfl, ⟨ys, sq'⟩, sd'⟩ := side_of rs1 r2 c2
      exact ⟨b, b', a, a', xs, ys, rfl, sq, sq', l S1 H1 _ _ _ g1 rs1 (src_zip sd sd') q1⟩
    | [], q1 => exact False.elim q1
    | [_], q1 => exact False.elim q1
    | _ :: _ :: _ :: _, q1 => exact False.elim q1⟩
def wEnumI (t : WA) : WI := fun env S R => t env S fun ds S1 => match ds with
  | [x] => ∃ l, SC S1 x l ∧ R (enumD l) (watchS x l) S1
  | _ => False
theorem di_enum {e : Expr} {t : WA} {p pos tpos : Pos} {elts : List Expr} {kk : Nat} (hg : Gl X "enumerate") (hm : X.mg "enumerate" = none) (ha : DA X [e] t) (hs : starEach [e] X.env = [(false, eval e X.env)] := by rfl) :
    DI X (.Tuple elts kk tpos) (.Call (.Name "enumerate" p) [e] [] pos) (wEnumI t) :=
  PI.mono (pi_enumM hg hm ha hs) fun σ H R ⟨B, env, S, Ri, re, rs, q, l⟩ => ⟨B, env, S, _, re, rs, q, fun S1 H1 ds vs g1 rs1 rds q1 => by
    match ds, q1 with
    | [x], q1 =>
      obtain ⟨m1, c1, q1⟩ := q1
      obtain ⟨v, rfl, r1⟩ := repL1 rds
      obtain ⟨b, a, rfl, ⟨xs, sq⟩, sd⟩ := side_of rs1 r1 c1
      exact ⟨b, a, xs, rfl, sq, l S1 H1 _ _ _ g1 rs1 (src_enum sd) q1⟩
    | [], q1 => exact False.elim q1
    | _ :: _ :: _, q1 => exact False.elim q1⟩
def Small62 (i : Int) : Prop := -(2 ^ 62) ≤ i ∧ i < 2 ^ 62
def wRng1 (t : WE) : WI := fun env S R => t env S fun d S1 => match d with
  | .int j => Small62 j ∧ R (rngD 0 j) (fun _ => True) S1
  | _ => False
theorem di_rng1 {tg a : Expr} {t : WE} {p pos : Pos} (hg : Gl X "range") (hm : X.mg "range" = none) (ha : DE X a t) (hs : starEach [a] X.env = [(false, eval a X.env)] := by rfl) (hs' : starEach [a] X.env = (false, eval a X.env) :: starEach [] X.env := by rfl) :
    DI X tg (.Call (.Name "range" p) [a] [] pos) (wRng1 t) :=
  PI.mono (pi_range1 hg hm (pa_cons ha pa_nil hs') hs) fun σ H R ⟨B, env, S, Ri, re, rs, q, l⟩ => ⟨B, env, S, _, re, rs, q, fun S1 H1 d v g1 rs1 rd q1 => by
    cases d with
    | int j =>
      rw [repD_int] at rd
      subst rd
      have src := src_rng (K := X.K) (B := B) (S0 := S1) (H0 := H1) (lo := 0) (hi := j)
      rw [Int.sub_zero] at src
      exact ⟨j, rfl, q1.1.1, q1.1.2, l S1 H1 _ _ _ g1 rs1 src q1.2⟩
    | _ => exact False.elim q1⟩
def wRng2 (ta tb : WE) : WI := fun env S R => ta env S fun d S1 => tb env S1 fun e S2 => match d, e with
  | .int i, .int j => Small62 i ∧ Small62 j ∧ R (rngD i j) (fun _ => True) S2
  | _, _ => False
theorem di_rng2 {tg a b : Expr} {t u : WE} {p pos : Pos} (hg : Gl X "range") (hm : X.mg "range" = none) (ha : DE X a t) (hb : DE X b u) (hs : starEach [a, b] X.env = [(false, eval a X.env), (false, eval b X.env)] := by rfl) (hs2 : starEach [b] X.env = [(false, eval b X.env)] := by rfl)
    (hs3 : starEach [a, b] X.env = (false, eval a X.env) :: starEach [b] X.env := by rfl) (hs4 : starEach [b] X.env = (false, eval b X.env) :: starEach [] X.env := by rfl) : DI X tg (.Call (.Name "range" p) [a, b] [] pos) (wRng2 t u) :=
  PI.mono (pi_range2 hg hm (pa_cons ha (pa_cons hb pa_nil hs4) hs3) hs hs2) fun σ H R ⟨B, env, S, Ri, re, rs, q, l⟩ => ⟨B, env, S, _, re, rs, q, fun S1 H1 d v g1 rs1 rd q1 => ⟨B, env, S1, _, re.grow g1, rs1, q1, fun S2 H2 e u g2 rs2 re2 q2 => by
    cases d with
    | int i =>
      cases e with
      | int j =>
        rw [repD_int] at rd re2
        subst rd re2
        exact ⟨i, j, rfl, ⟨q2.1.1, q2.1.2, q2.2.1.1, q2.2.1.2⟩, l S2 H2 _ _ _ (g1.trans g2) rs2 src_rng q2.2.2⟩
      | _ => exact False.elim q2
    | _ => exact False.elim q2⟩⟩

/-! ### for -/
def forW (wt : Store → Prop) (g : WG) (b : WS) : List D → WS
  | [] => fun E env S => wt S ∧ E.nx env S
  | x :: r => fun E env S => wt S ∧ g x env S fun env1 S1 => b ⟨fun env2 S2 => forW wt g b r E env2 S2, E.rt⟩ env1 S1
def forS (ti : WI) (g : WG) (b : WS) : WS := fun E env S => ti env S fun items wt S1 => forW wt g b items E env S1
theorem for_of {K : PySem.W.Frag} {ti : WI} {g : WG} {b : WS} {vs : List Nat} {Dn : Ends} {σ : L2.St} {H : Hp} (h : tDS K (forS ti g b) Dn σ H) : tFor (tDI K ti) (tDG K vs g) (tDS K b) Dn σ H := by
  obtain ⟨B, env, S, E, re, rs, q, ln, lr⟩ := h
  refine ⟨B, env, S, _, re, rs, q, fun S1 H1 items wt J g1 rs1 src q1 => ?_⟩
  refine ⟨fun i m σ' H' => ∃ env' S', RepE K B S' H' env' σ' ∧ RepS K B S' H' ∧ Grow S1 H1 S' H' ∧ m = items.length - i ∧ i ≤ items.length ∧ forW wt g b (items.drop i) E env' S',
    ⟨items.length, env, S1, re.grow g1, rs1, .refl, rfl, Nat.zero_le _, q1⟩, ?_⟩
  rintro i m σ' H' ⟨env', S', re', rs', g', rfl, hi, q'⟩
  by_cases hlt : i < items.length
  · rw [List.drop_eq_getElem_cons hlt] at q'
    obtain ⟨hw, q'⟩ := q'
    obtain ⟨go, item⟩ := (src B S' H' (fun _ z => z) (fun _ z => .inl z) g' rs' hw i).1 hlt
    refine .inr ⟨go, _, fun σ'' H'' n => ⟨items.length - (i + 1), by omega, n⟩, fun x H'' y => ?_⟩
    obtain ⟨g2, rs2, d, hd, rd⟩ := item x H'' y
    rw [List.getElem?_eq_getElem hlt] at hd
    cases hd
    refine ⟨B, env', S', _, _, re'.grow g2, rs2, rd, q', fun S3 H3 env3 σ3 g3 rs3 re3 _ q3 => ?_⟩
    have gg : Grow S1 H1 S3 H3 := g'.trans (g2.trans g3)
    exact ⟨B, env3, S3, _, re3, rs3, q3, fun S4 H4 env4 σ4 g4 rs4 re4 q4 => ⟨env4, S4, re4, rs4, gg.trans g4, rfl, hlt, q4⟩, fun S4 H4 d v g4 rs4 rd4 q4 => lr S4 H4 d v (g1.trans (gg.trans g4)) rs4 rd4 q4⟩
  · have e : i = items.length := by omega
    subst e
    rw [List.drop_length] at q'
    exact .inl ⟨(src B S' H' (fun _ z => z) (fun _ z => .inl z) g' rs' q'.1 _).2 (Nat.le_refl _), ln S' H' env' σ' (g1.trans g') rs' re' q'.2⟩
theorem ds_for {vs : List Nat} {tg iter : Expr} {body : List Stmt} {ti : WI} {g : WG} {b : WS} {pos : Pos} (hp : PassesOwn (model X.prog X.w) X.A X.env X.xe) (hc : X.calm = true) (hi : DI X tg iter ti) (hg : DG X vs tg g) (hb : DSs X body b)
    (hs : ∀ x, foldedSetIterable iter X.env x = pure x := by intro _; rfl) : DS X (.For tg iter body [] pos) (forS ti g b) :=
  PS.mono (ps_for hp hc hi hg hb hs) fun Dn σ H q => for_of q

/-! ### while -/
def whileS (c : WT) (b : WS) : WS := fun E env S => ∃ I : Nat → Slots → Store → Prop, (∃ m, I m env S) ∧ ∀ m env S, I m env S →
  c env S fun k S1 => if k = true then b ⟨fun env' S' => ∃ m', m' < m ∧ I m' env' S', E.rt⟩ env S1 else E.nx env S1
theorem ds_while {c : Expr} {body : List Stmt} {tc : WT} {tb : WS} {pos : Pos} (hp : PassesOwn (model X.prog X.w) X.A X.env X.xe) (hc : DT X c tc) (hb : DSs X body tb) : DS X (.While c body [] pos) (whileS tc tb) :=
  PS.mono (ps_while hp hc hb) fun Dn σ H ⟨B, env, S, E, re, rs, ⟨I, ⟨m0, i0⟩, turn⟩, ln, lr⟩ => by
    refine ⟨fun m σ' H' => ∃ env' S', RepE X.K B S' H' env' σ' ∧ RepS X.K B S' H' ∧ Grow S H S' H' ∧ I m env' S', ⟨m0, env, S, re, rs, .refl, i0⟩, ?_⟩
    rintro m σ' H' ⟨env', S', re', rs', g', i'⟩
    refine ⟨B, env', S', _, re', rs', turn m env' S' i', fun S1 H1 k g1 rs1 q1 => ?_⟩
    cases k with
    | true =>
      rw [if_pos rfl] at q1 ⊢
      refine ⟨fun σ'' H'' => ∃ m', m' < m ∧ ∃ env' S', RepE X.K B S' H'' env' σ'' ∧ RepS X.K B S' H'' ∧ Grow S H S' H'' ∧ I m' env' S', fun σ'' H'' n => n, ?_⟩
      exact ⟨B, env', S1, _, re'.grow g1, rs1, q1, fun S2 H2 env2 σ2 g2 rs2 re2 ⟨m', hm, i2⟩ => ⟨m', hm, env2, S2, re2, rs2, g'.trans (g1.trans g2), i2⟩, fun S2 H2 d v g2 rs2 rd q2 => lr S2 H2 d v (g'.trans (g1.trans g2)) rs2 rd q2⟩
    | false =>
      rw [if_neg Bool.false_ne_true] at q1 ⊢
      exact ln S1 H1 env' σ' (g'.trans g1) rs1 (re'.grow g1) q1

/-! ### [e for x in ..] -/
def wipeD (env : Slots) : List Nat → Slots
  | [] => env
  | v :: vs => (wipeD env vs).set v none
theorem RepE.wipe {K : PySem.W.Frag} {B : Blk} {S : Store} {H : Hp} {env : Slots} {σ : L2.St} (h : RepE K B S H env σ) : ∀ vs : List Nat, RepE K B S H (wipeD env vs) (wipe σ vs)
  | [] => h
  | v :: vs => (RepE.wipe h vs).unset v none
def wYes : WT := fun _ S Q => Q true S
def lcW (wt : Store → Prop) (g : WG) (tt : WT) (te : WE) (env : Slots) : List D → List D → Store → (List D → Store → Prop) → Prop
  | [], acc, S, Q => wt S ∧ Q acc S
  | x :: r, acc, S, Q => wt S ∧ g x env S fun env1 S1 => tt env1 S1 fun b S2 => if b = true then te env1 S2 fun d S3 => lcW wt g tt te env r (acc ++ [d]) S3 Q else lcW wt g tt te env r acc S2 Q
/-- the new list stays (frozen), or is a cell -/
def wLc (ti : WI) (g : WG) (tt : WT) (te : WE) (vs : List Nat) : WE := fun env S Q => ti env S fun items wt S1 => items.length ≤ sizeLine ∧ lcW wt g tt te (wipeD env vs) items [] S1 fun acc S2 => Q (.lst acc) S2
def wLcM (ti : WI) (g : WG) (tt : WT) (te : WE) (vs : List Nat) : WE := fun env S Q => ti env S fun items wt S1 => items.length ≤ sizeLine ∧ lcW wt g tt te (wipeD env vs) items [] S1 fun acc S2 => ∀ p, S2 p = none → Q (.ref p) (sput S2 p (.lst acc))
def DTs (X : Cx) (ifs : List Expr) (t : WT) : Prop := PTs X ifs (tDT X.K t)
theorem dts_nil : DTs X [] wYes := ⟨fun pins s σ H Q I ⟨B, env, S, Qd, re, rs, q, l⟩ => pts_nil.run pins s σ H Q I (l S H true .refl rs q)⟩
theorem dts_one {c : Expr} {t : WT} (h : DT X c t) : DTs X [c] t := pts_one h
theorem lc_of {K : PySem.W.Frag} {ti : WI} {g : WG} {tt : WT} {te : WE} {vs : List Nat} {σ : L2.St} {H : Hp} {Q : VK} {Qa : List D → Store → Prop} {B : Blk} {env : Slots} {S : Store}
    (re : RepE K B S H env σ) (rs : RepS K B S H) (h : ti env S fun items wt S1 => items.length ≤ sizeLine ∧ lcW wt g tt te (wipeD env vs) items [] S1 Qa)
    (fin : ∀ S1 H1 S' H' acc xs D, Grow S H S1 H1 → H1 D = none → Grow S1 H1 S' H' → RepS K (fun a => B a ∨ a = D) S' H' → ¬ B D → H' D = some (.lst xs) → RepL K (fun a => B a ∨ a = D) S' H' acc xs → Qa acc S' → Q (.ref D) H') :
    tLc (tDI K ti) (tDG K vs g) (tDT K tt) (tD K te) vs σ H Q := by
  refine ⟨B, env, S, _, re, rs, h, fun S1 H1 items wt J g1 rs1 src ⟨hz, q1⟩ D hD => ?_⟩
  have hb : ∀ a, (B a ∨ a = D) → B a ∨ H1 a = none := fun a z => z.elim .inl fun e => .inr (by rw [e]; exact hD)
  obtain ⟨gD, rsD, sD, nD⟩ := rs1.new (o := .lst []) hD
  have rsB : RepS K (fun a => B a ∨ a = D) S1 (upd H1 D (.lst [])) := by
    refine ⟨fun a c e => ?_, fun a z => ?_⟩
    · obtain ⟨o', e'⟩ := (rs1.cell a c e).there
      exact ((rs1.cell a c e).blk hb).frame gD (upd_ne (ne_of_none e' hD))
    · rcases z with z | z
      · exact rsD.blk a z
      · subst z
        exact ⟨⟨_, upd_same⟩, sD⟩
  refine ⟨fun i m H' => ∃ S' acc xs, RepS K (fun a => B a ∨ a = D) S' H' ∧ H' D = some (.lst xs) ∧ RepL K (fun a => B a ∨ a = D) S' H' acc xs ∧ RepE K (fun a => B a ∨ a = D) S' H' (wipeD env vs) (wipe σ vs) ∧ Grow S1 H1 S' H' ∧
      m = items.length - i ∧ i ≤ items.length ∧ acc.length ≤ i ∧ lcW wt g tt te (wipeD env vs) (items.drop i) acc S' Qa,
    ⟨items.length, S1, [], [], rsB, upd_same, repL_nil.mpr rfl, (((re.grow g1).blk hb).grow gD).wipe vs, gD, rfl, Nat.zero_le _, Nat.le_refl _, q1⟩, ?_⟩
  rintro i m H' ⟨S', acc, xs, rs', eD, rl, re', g', rfl, hi, ha, q'⟩
  by_cases hlt : i < items.length
  · rw [List.drop_eq_getElem_cons hlt] at q'
    obtain ⟨hw, q'⟩ := q'
    obtain ⟨go, item⟩ := (src _ S' H' (fun _ z => .inl z) hb g' rs' hw i).1 hlt
    refine .inr ⟨go, _, fun H'' n => ⟨items.length - (i + 1), by omega, n⟩, fun x H'' y => ?_⟩
    obtain ⟨g2, rs2, d, hd, rd⟩ := item x H'' y
    rw [List.getElem?_eq_getElem hlt] at hd
    cases hd
    refine ⟨_, wipeD env vs, S', _, _, re'.grow g2, rs2, rd, q', fun S3 H3 env3 σ3 g3 rs3 re3 w3 q3 => ⟨w3.trans (wipe_wipe vs σ), _, env3, S3, _, re3, rs3, q3, fun S4 H4 b g4 rs4 q4 => ?_⟩⟩
    have g24 : Grow S' H' S4 H4 := g2.trans (g3.trans g4)
    have sD' : S' D = none := (rs'.blk D (.inr rfl)).2
    cases b with
    | false =>
      simp only [Bool.false_eq_true, if_false] at q4
      exact iteF ⟨S4, acc, xs, rs4, (g24 D _ eD sD').1, RepL.grow g24 _ _ rl, re'.grow g24, g'.trans g24, rfl, hlt, by omega, q4⟩
    | true =>
      simp only [if_true] at q4
      refine iteT ⟨_, env3, S4, _, re3.grow g4, rs4, q4, fun S5 H5 y vy g5 rs5 ry q5 => ?_⟩
      have g25 : Grow S' H' S5 H5 := g24.trans g5
      obtain ⟨eD5, sD5⟩ := g25 D _ eD sD'
      have k : ∀ a o, H5 a = some o → ¬ (B a ∨ a = D) → (upd H5 D (.lst (xs ++ [vy]))) a = some o := fun a o e n => by rw [upd_ne fun z => n (.inr z)]; exact e
      have rl5 : RepL K (fun a => B a ∨ a = D) S5 H5 (acc ++ [y]) (xs ++ [vy]) := (RepL.grow g25 _ _ rl).app (.one ry)
      refine ⟨xs, eD5, by rw [← rl.len]; omega, S5, acc ++ [y], xs ++ [vy], ⟨fun a c e => ?_, fun a z => ?_⟩, upd_same, RepL.moved k _ _ rl5, ⟨(re'.grow g25).1, fun i d e => ?_⟩, fun a o e s => ?_, rfl, hlt, by rw [List.length_append]; simp; omega, q5⟩
      · have na : ¬ (B a ∨ a = D) := fun z => by rw [(rs5.blk a z).2] at e; cases e
        exact (rs5.cell a c e).moved k na
      · obtain ⟨⟨o, e⟩, s5⟩ := rs5.blk a z
        refine ⟨?_, s5⟩
        by_cases ea : a = D
        · subst ea; exact ⟨_, upd_same⟩
        · exact ⟨o, by rw [upd_ne ea]; exact e⟩
      · obtain ⟨v, e1, r⟩ := (re'.grow g25).2 i d e
        exact ⟨v, e1, RepD.moved k _ _ r⟩
      · obtain ⟨e5, s5⟩ := (g'.trans g25) a o e s
        exact ⟨by rw [upd_ne (ne_of_none e hD)]; exact e5, s5⟩
  · have e : i = items.length := by omega
    subst e
    rw [List.drop_length] at q'
    exact .inl ⟨(src _ S' H' (fun _ z => .inl z) hb g' rs' q'.1 _).2 (Nat.le_refl _), fin S1 H1 S' H' acc xs D g1 hD g' rs' nD eD rl q'.2⟩
end
end ND
set_option Elab.async false
set_option linter.all false
set_option maxRecDepth 100000
namespace ND
open PySem PySem.Spec PyProof.Rows L2

section
variable {X : Cx}
abbrev Blks (X : Cx) (scope : Scope) (P : Cx → Prop) : Prop := ∀ (s : Shared) (H : Hp) (C : Addr) (cl : List (Str × Addr)) (fp : List Addr), P (X.blk s H scope (compEnvC scope cl C X.env) fp)
theorem lc_frz {K : PySem.W.Frag} {B : Blk} {S : Store} {H : Hp} {Qd : D → Store → Prop} {Q : VK} (l : Lift K B S H Qd Q) (S' : Store) (H' : Hp) (acc : List D) (xs : List V) (p : Addr) (g : Grow S H S' H') (rs : RepS K (fun a => B a ∨ a = p) S' H') (nb : ¬ B p) (e : H' p = some (.lst xs))
    (rl : RepL K (fun a => B a ∨ a = p) S' H' acc xs) (q : Qd (.lst acc) S') : Q (.ref p) H' :=
  l S' H' _ _ g (rs.unblk fun a z => .inl z) (repD_lst.mpr ⟨p, xs, rfl, ⟨.inl e, (rs.blk p (.inr rfl)).2, nb⟩, RepL.unblk (fun a z => .inl z) _ _ rl⟩) q
theorem lc_cell {K : PySem.W.Frag} {B : Blk} {S : Store} {H : Hp} {Qd : D → Store → Prop} {Q : VK} (l : Lift K B S H Qd Q) (S' : Store) (H' : Hp) (acc : List D) (xs : List V) (p : Addr) (g : Grow S H S' H') (rs : RepS K (fun a => B a ∨ a = p) S' H') (nb : ¬ B p) (e : H' p = some (.lst xs))
    (rl : RepL K (fun a => B a ∨ a = p) S' H' acc xs) (n0 : H p = none) (q : ∀ p, S' p = none → Qd (.ref p) (sput S' p (.lst acc))) : Q (.ref p) H' := by
  have sp : S' p = none := (rs.blk p (.inr rfl)).2
  -- what is told stays true where p is a cell: no frozen thing stands there
  have mv : ∀ (d : D) (v : V), RepD K (fun a => B a ∨ a = p) S' H' d v → RepD K B (sput S' p (.lst acc)) H' d v := by
    have both : ∀ n : Nat, (∀ (d : D) (v : V), sizeOf d < n → RepD K (fun a => B a ∨ a = p) S' H' d v → RepD K B (sput S' p (.lst acc)) H' d v) ∧
        (∀ (l : List D) (xs : List V), sizeOf l < n → RepL K (fun a => B a ∨ a = p) S' H' l xs → RepL K B (sput S' p (.lst acc)) H' l xs) := by
      intro n
      induction n with
      | zero => exact ⟨fun _ _ h => absurd h (Nat.not_lt_zero _), fun _ _ h => absurd h (Nat.not_lt_zero _)⟩
      | succ n ih =>
        refine ⟨fun d v hn h => ?_, fun l xs hn h => ?_⟩
        · cases d with
          | non => rw [repD_non] at h ⊢; exact h
          | bl b => rw [repD_bl] at h ⊢; exact h
          | int i => rw [repD_int] at h ⊢; exact h
          | str x => rw [repD_str] at h ⊢; exact h
          | ref a => rw [repD_ref] at h ⊢; exact h
          | fn x => rw [repD_fn] at h ⊢; exact h
          | tup l =>
            obtain ⟨a, xs, e, t, r⟩ := repD_tup.mp h
            refine repD_tup.mpr ⟨a, xs, e, ?_, ih.2 l xs (by simp at hn; omega) r⟩
            rcases t with ⟨r, s, n⟩ | k
            · exact .inl ⟨r, by rw [sput_ne fun z => n (.inr z)]; exact s, fun z => n (.inl z)⟩
            · exact .inr k
          | lst l =>
            obtain ⟨a, xs, e, ⟨r, s, n⟩, rl⟩ := repD_lst.mp h
            exact repD_lst.mpr ⟨a, xs, e, ⟨r, by rw [sput_ne fun z => n (.inr z)]; exact s, fun z => n (.inl z)⟩, ih.2 l xs (by simp at hn; omega) rl⟩
          | kls l =>
            obtain ⟨a, xs, e, t, rl⟩ := repD_kls.mp h
            exact repD_kls.mpr ⟨a, xs, e, t, ih.2 l xs (by simp at hn; omega) rl⟩
        · cases l with
          | nil => rw [repL_nil] at h ⊢; exact h
          | cons d l =>
            obtain ⟨v, r, e, h1, h2⟩ := repL_cons.mp h
            exact repL_cons.mpr ⟨v, r, e, ih.1 d v (by simp at hn; omega) h1, ih.2 l r (by simp at hn; omega) h2⟩
    exact fun d v h => (both (sizeOf d + 1)).1 d v (Nat.lt_succ_self _) h
  have mvl : ∀ (l : List D) (xs : List V), RepL K (fun a => B a ∨ a = p) S' H' l xs → RepL K B (sput S' p (.lst acc)) H' l xs := by
    intro l
    induction l with
    | nil => intro xs h; rw [repL_nil] at h ⊢; exact h
    | cons d l ih =>
      intro xs h
      obtain ⟨v, r, e, h1, h2⟩ := repL_cons.mp h
      exact repL_cons.mpr ⟨v, r, e, mv d v h1, ih r h2⟩
  have pk : ∀ {κ : Type} {fs : List (κ × D)} {gs : List (κ × V)}, RepK K (fun a => B a ∨ a = p) S' H' fs gs → RepK K B (sput S' p (.lst acc)) H' fs gs := fun {κ fs gs} h => by
    unfold RepK at h ⊢
    induction h with
    | nil => exact .nil
    | cons a _ ih => exact .cons ⟨a.1, mv _ _ a.2⟩ ih
  have rs' : RepS K B (sput S' p (.lst acc)) H' := by
    refine ⟨fun a c ea => ?_, fun a z => ?_⟩
    · by_cases ha : a = p
      · subst ha
        rw [sput_same] at ea
        cases ea
        exact ⟨xs, e, mvl _ _ rl⟩
      · rw [sput_ne ha] at ea
        have h := rs.cell a c ea
        cases c with
        | lst l => obtain ⟨xs, e1, r⟩ := h; exact ⟨xs, e1, mvl _ _ r⟩
        | ins C fs => obtain ⟨dx, gs, e1, r⟩ := h; exact ⟨dx, gs, e1, pk r⟩
        | dK kvs => obtain ⟨gs, e1, r⟩ := h; exact ⟨gs, e1, pk r⟩
        | dT kvs => obtain ⟨gs, e1, r⟩ := h; exact ⟨gs, e1, pk r⟩
        | exc x => exact h
    · obtain ⟨o, s⟩ := rs.blk a (.inl z)
      exact ⟨o, by rw [sput_ne fun (e : a = p) => nb (e ▸ z)]; exact s⟩
  have g' : Grow S H (sput S' p (.lst acc)) H' := fun a o e s => by
    obtain ⟨e1, s1⟩ := g a o e s
    exact ⟨e1, by rw [sput_ne (ne_of_none e n0)]; exact s1⟩
  exact l _ _ _ _ g' rs' (repD_ref.mpr rfl) (q p sp)

theorem de_lc {elt tg iter : Expr} {ifs : List Expr} {scope : Scope} {own : List (Str × Nat)} {pos : Pos} {ti : WI} {g : WG} {tt : WT} {te : WE} (hc : X.calm = true) (hN : X.N.Nodup) (hi : DI X tg iter ti) (ok : BlkOk X.N X.env.scope scope own)
    (hg : Blks X scope fun Y => DG Y (own.map (·.2)) tg g) (ht : Blks X scope fun Y => DTs Y ifs tt) (he : Blks X scope fun Y => DE Y elt te) (hs : ∀ x, foldedSetIterable iter X.env x = pure x := by intro _; rfl) :
    DE X (.ListComp elt [⟨tg, iter, ifs, 0⟩] scope pos) (wLc ti g tt te (own.map (·.2))) :=
  PE.mono (pe_lc (own := own) (wi := tDI X.K ti) (g := tDG X.K (own.map (fun p : Str × Nat => p.2)) g) (tt := tDT X.K tt) (te := tD X.K te) hc hN hi ok (fun s H C cl fp => hg s H C cl fp) (fun s H C cl fp => ht s H C cl fp) (fun s H C cl fp => he s H C cl fp) hs) fun σ H Q ⟨B, env, S, Qd, re, rs, q, l⟩ => lc_of re rs q fun S1 H1 S' H' acc xs p g1 _ g' rs' nb e rl q' => lc_frz (l.grow g1) S' H' acc xs p g' rs' nb e rl q'
theorem de_lcM {elt tg iter : Expr} {ifs : List Expr} {scope : Scope} {own : List (Str × Nat)} {pos : Pos} {ti : WI} {g : WG} {tt : WT} {te : WE} (hc : X.calm = true) (hN : X.N.Nodup) (hi : DI X tg iter ti) (ok : BlkOk X.N X.env.scope scope own)
    (hg : Blks X scope fun Y => DG Y (own.map (·.2)) tg g) (ht : Blks X scope fun Y => DTs Y ifs tt) (he : Blks X scope fun Y => DE Y elt te) (hs : ∀ x, foldedSetIterable iter X.env x = pure x := by intro _; rfl) :
    DE X (.ListComp elt [⟨tg, iter, ifs, 0⟩] scope pos) (wLcM ti g tt te (own.map (·.2))) :=
  PE.mono (pe_lc (own := own) (wi := tDI X.K ti) (g := tDG X.K (own.map (fun p : Str × Nat => p.2)) g) (tt := tDT X.K tt) (te := tD X.K te) hc hN hi ok (fun s H C cl fp => hg s H C cl fp) (fun s H C cl fp => ht s H C cl fp) (fun s H C cl fp => he s H C cl fp) hs) fun σ H Q ⟨B, env, S, Qd, re, rs, q, l⟩ => lc_of re rs q fun S1 H1 S' H' acc xs p g1 n0 g' rs' nb e rl q' => lc_cell (l.grow g1) S' H' acc xs p g' rs' nb e rl n0 q'
/-- name = [..] -/
theorem ds_setLc (i : Nat) {y : Str} {py : Pos} {elt tg iter : Expr} {ifs : List Expr} {scope : Scope} {own : List (Str × Nat)} {pos spos : Pos} {ti : WI} {g : WG} {tt : WT} {te : WE} (hc : X.calm = true) (hN : X.N.Nodup) (hyl : X.env.scope.names.lookup y = some .local)
    (hsw : swapsWith (.ListComp elt [⟨tg, iter, ifs, 0⟩] scope pos) (some (.Name y py)) spos.line X.env = pure true) (hi : DI X tg iter ti) (ok : BlkOk X.N X.env.scope scope own)
    (hg : Blks X scope fun Y => DG Y (own.map (·.2)) tg g) (ht : Blks X scope fun Y => DTs Y ifs tt) (he : Blks X scope fun Y => DE Y elt te) (hy : X.N[i]? = some y := by rfl) (hs : ∀ x, foldedSetIterable iter X.env x = pure x := by intro _; rfl) :
    DS X (.Assign [.Name y py] (.ListComp elt [⟨tg, iter, ifs, 0⟩] scope pos) spos) (wSet i (wLc ti g tt te (own.map (·.2)))) :=
  PS.mono (ps_setLc (own := own) (wi := tDI X.K ti) (g := tDG X.K (own.map (fun p : Str × Nat => p.2)) g) (tt := tDT X.K tt) (te := tD X.K te) hc hN hy hyl hsw hi ok (fun s H C cl fp => hg s H C cl fp) (fun s H C cl fp => ht s H C cl fp) (fun s H C cl fp => he s H C cl fp) hs) fun Dn σ H ⟨B, env, S, E, re, rs, q, ln, lr⟩ => by
    show tLc _ _ _ _ _ σ H fun x H1 => gName i x σ H1 Dn.nx
    exact lc_of re rs q fun S1 H1 S' H' acc xs p g1 _ g' rs' nb e rl q' => ln _ _ _ _ (g1.trans g') (rs'.unblk fun a z => .inl z) ((((re.grow (g1.trans g'))).set i (repD_lst.mpr ⟨p, xs, rfl, ⟨.inl e, (rs'.blk p (.inr rfl)).2, nb⟩, RepL.unblk (fun a z => .inl z) _ _ rl⟩))) q'
theorem ds_setLcM (i : Nat) {y : Str} {py : Pos} {elt tg iter : Expr} {ifs : List Expr} {scope : Scope} {own : List (Str × Nat)} {pos spos : Pos} {ti : WI} {g : WG} {tt : WT} {te : WE} (hc : X.calm = true) (hN : X.N.Nodup) (hyl : X.env.scope.names.lookup y = some .local)
    (hsw : swapsWith (.ListComp elt [⟨tg, iter, ifs, 0⟩] scope pos) (some (.Name y py)) spos.line X.env = pure true) (hi : DI X tg iter ti) (ok : BlkOk X.N X.env.scope scope own)
    (hg : Blks X scope fun Y => DG Y (own.map (·.2)) tg g) (ht : Blks X scope fun Y => DTs Y ifs tt) (he : Blks X scope fun Y => DE Y elt te) (hy : X.N[i]? = some y := by rfl) (hs : ∀ x, foldedSetIterable iter X.env x = pure x := by intro _; rfl) :
    DS X (.Assign [.Name y py] (.ListComp elt [⟨tg, iter, ifs, 0⟩] scope pos) spos) (wSet i (wLcM ti g tt te (own.map (·.2)))) :=
  PS.mono (ps_setLc (own := own) (wi := tDI X.K ti) (g := tDG X.K (own.map (fun p : Str × Nat => p.2)) g) (tt := tDT X.K tt) (te := tD X.K te) hc hN hy hyl hsw hi ok (fun s H C cl fp => hg s H C cl fp) (fun s H C cl fp => ht s H C cl fp) (fun s H C cl fp => he s H C cl fp) hs) fun Dn σ H ⟨B, env, S, E, re, rs, q, ln, lr⟩ => by
    show tLc _ _ _ _ _ σ H fun x H1 => gName i x σ H1 Dn.nx
    exact lc_of re rs q fun S1 H1 S' H' acc xs p g1 n0 g' rs' nb e rl q' => by
      show Dn.nx (σ.set i (some (.ref p))) H'
      refine lc_cell (B := B) (Q := fun v H2 => ∀ w, v = .ref w → Dn.nx (σ.set i (some (.ref w))) H2) (Qd := fun d S2 => E.nx (env.set i (some d)) S2) (fun S2 H2 d v g2 rs2 rd q2 w ew => ?_) S' H' acc xs p g' rs' nb e rl n0 q' p rfl
      subst ew
      exact ln _ _ _ _ (g1.trans g2) rs2 ((re.grow (g1.trans g2)).set i rd) q2

/-! ### defs -/
def spD (K : PySem.W.Frag) (m : On) : Sp := fun vs H Q _ => ∃ B ds S Qd, RepL K B S H ds vs ∧ RepS K B S H ∧ m ds S Qd ∧ Lift K B S H Qd Q
/-- a def that may be called by its name: m its promise over data -/
structure CalD (P : Program) (w : World) (K : PySem.W.Frag) (mg : Str → Option Value) (base : Heap) (k : Nat) (x : Str) (m : On) : Prop where
  ex : ∃ (f : Addr) (fd : FuncData) (ps : List Str), FnOk P w K mg base CX0 k f fd ps (spD K m) ∧ mg x = some (.ref f) ∧ PySem.W.keepIn K (.ref f) = true ∧ Binds K fd ps []
theorem CalD.up {P : Program} {w : World} {K : PySem.W.Frag} {mg : Str → Option Value} {base : Heap} {k j : Nat} {x : Str} {m : On} (c : CalD P w K mg base k x m) (h : k ≤ j) : CalD P w K mg base j x m := by
  obtain ⟨f, fd, ps, F, a, b, c⟩ := c.ex
  exact ⟨f, fd, ps, F.mono h, a, b, c⟩
theorem de_call {k : Nat} {x : Str} {m : On} {p pos : Pos} {e : Expr} {es : List Expr} {t : WA} (c : CalD X.prog X.w X.K X.mg X.base k x m) (hr : Room k X.A) (hg : Gl X x) (ha : DA X (e :: es) t)
    (hd : (x == ("__debug__" : Str)) = false := by decide) (he : starEach (e :: es) X.env = (false, eval e X.env) :: starEach es X.env := by rfl) (hpl : (backTo pos (starEach es X.env)).any (·.1) = false := by rfl) :
    DE X (.Call (.Name x p) (e :: es) [] pos) (wCall m t) := by
  obtain ⟨f, fd, ps, F, hm, hk, hb⟩ := c.ex
  exact PE.mono (pe_call (E := E0) F hr hg hm hk hb .nil pass0 ha (hdb := hd) (he := he) (hpl := hpl)) fun σ H Q ⟨B, env, S, Qd, re, rs, q, l⟩ => ⟨B, env, S, _, re, rs, q, fun S1 H1 ds vs g1 rs1 rds q1 => ⟨B, ds, S1, Qd, by rw [List.append_nil]; exact rds, rs1, q1, l.grow g1⟩⟩
def dstart (N : List Str) (ds : List D) : Slots := ds.map some ++ List.replicate (N.length - ds.length) none
theorem repE_start {K : PySem.W.Frag} {B : Blk} {S : Store} {H : Hp} {N : List Str} {ds : List D} {vs : List V} (r : RepL K B S H ds vs) : RepE K B S H (dstart N ds) (L2.start N vs) := by
  unfold dstart L2.start
  refine ⟨by simp [r.len], fun i d e => ?_⟩
  rw [List.getElem?_append] at e ⊢
  rw [List.length_map] at e ⊢
  rw [← r.len]
  by_cases hi : i < ds.length
  · rw [if_pos hi] at e ⊢
    rw [List.getElem?_map] at e ⊢
    cases q : ds[i]? with
    | none => rw [q] at e; cases e
    | some d' =>
      rw [q] at e
      simp at e
      subst e
      obtain ⟨v, h1, h2⟩ := r.get q
      exact ⟨v, by rw [h1]; rfl, h2⟩
  · rw [if_neg hi] at e
    rw [List.getElem?_replicate] at e
    split at e <;> simp at e
section
variable {P : Program} {w : World} {K : PySem.W.Frag} {mg : Str → Option Value} {base : Heap}
/-- THE RULE for a def, over data -/
theorem okD {x qual : Str} {st : Stmt} {f : Addr} {fd : FuncData} {N ps : List Str} {k : Nat} {m : On} (F : Fun K x qual st f fd) (S : FnScope N ps (defScope st)) (len : ∀ ds S Q, m ds S Q → ds.length = ps.length)
    (hbody : ∀ (cdv : Value) (A : Around) (outer : List Env) (s : Shared) (H : Hp) (E : XK), Room k (A.deeper (envOfC qual (defScope st) s.heap.objs.size f cdv)) →
      ∃ t : WS, DSs (cxOf CX0 P w K mg base N qual (defScope st) f cdv A outer s H E).nox (defBody st) t ∧ ∀ ds S Q, m ds S Q → t ⟨fun _ S' => ∃ S'', Sub S'' S' ∧ Q .non S'', Q⟩ (dstart N ds) S) : FnOk P w K mg base CX0 (k + 1) f fd ps (spD K m) := by
  refine F.ok S (fun vs H Q E ⟨B, ds, S', Qd, r, rs, q, l⟩ => by rw [← r.len]; exact len _ _ _ q) (fun cdv A outer s H vs Q E hr ⟨B, ds, S', Qd, r, rs, q, l⟩ => ?_)
  obtain ⟨t, ht, hq⟩ := hbody cdv A outer s H E hr
  exact ⟨_, ht, B, dstart N ds, S', _, repE_start r, rs, hq ds S' Qd q, fun S1 H1 env1 σ1 g1 rs1 re1 ⟨S2, sb, q1⟩ => l S2 H1 _ _ (g1.trans sb.grow) (rs1.sub sb) (repD_non.mpr rfl) q1, l⟩
theorem calD {x : Str} {st : Stmt} {f : Addr} {fd : FuncData} {ps : List Str} {k : Nat} {m : On} (F : Fun K x x st f fd) (hm : mg x = some (.ref f)) (hb : Binds K fd ps []) (h : FnOk P w K mg base CX0 k f fd ps (spD K m)) : CalD P w K mg base k x m := ⟨f, fd, ps, h, hm, F.kp, hb⟩
/-- the law's own promise -/
def mLaw (n : Nat) : On := fun ds S Q => ∃ (d : D) (ns : List Int), ds = [d] ∧ SC S d (ns.map D.int) ∧ (d = .lst (ns.map D.int) ∨ d = .kls (ns.map D.int)) ∧ ns.length ≤ n ∧ ∀ S', Q (.bl true) S'
theorem law_sp {n : Nat} {H : Hp} {a : Addr} {ns : List Int} (hl : ns.length ≤ n) (hS : SqL K H a (ns.map V.int)) : spD K (mLaw n) [.ref a] H (fun v _ => v = .bl true) fun _ _ _ => False := by
  rcases hS with h | h
  · exact ⟨fun _ => False, [.lst (ns.map D.int)], fun _ => none, fun d _ => d = .bl true, .one (repD_lst.mpr ⟨a, _, rfl, ⟨h, rfl, fun z => z⟩, repL_ints⟩), ⟨fun _ _ e => (nomatch e), fun _ z => False.elim z⟩, ⟨_, ns, rfl, rfl, .inl rfl, hl, fun _ => rfl⟩, fun S' H' d v _ _ r e => by
      subst e
      exact repD_bl.mp r⟩
  · exact ⟨fun _ => False, [.kls (ns.map D.int)], fun _ => none, fun d _ => d = .bl true, .one (repD_kls.mpr ⟨a, _, rfl, h, repL_ints⟩), ⟨fun _ _ e => (nomatch e), fun _ z => False.elim z⟩, ⟨_, ns, rfl, rfl, .inr rfl, hl, fun _ => rfl⟩, fun S' H' d v _ _ r e => by
      subst e
      exact repD_bl.mp r⟩
end
end
end ND
set_option Elab.async false
set_option linter.all false
set_option maxRecDepth 100000
namespace ND
open PySem PySem.Spec PyProof.Rows L2

/-! ### methods of lists that are cells -/
abbrev OM := D → On
def rDM (K : PySem.W.Frag) (o : OM) : V → List V → Hp → VK → Prop := fun vx vs H Q => ∃ B S x ds Qd, RepS K B S H ∧ RepD K B S H x vx ∧ RepL K B S H ds vs ∧ o x ds S Qd ∧ Lift K B S H Qd Q
def MD (X : Cx) (id : String) (o : OM) : Prop := MtR X id (rDM X.K o)
def CellL (S : Store) (x : D) (l : List D) : Prop := match x with
  | .ref a => S a = some (.lst l)
  | _ => False
section
variable {X : Cx}
theorem MD.of {id : String} {o : OM} {r : V → List V → Hp → VK → Prop} (h : MtR X id r)
    (m : ∀ B S H x ds vx vs Qd Q, RepS X.K B S H → RepD X.K B S H x vx → RepL X.K B S H ds vs → o x ds S Qd → Lift X.K B S H Qd Q → r vx vs H Q) : MD X id o :=
  fun pins s σ H x xs v us Q I r1 r2 ⟨B, S, d, ds, Qd, rs, rx, rl, q, l⟩ => h pins s σ H x xs v us Q I r1 r2 (m B S H d ds x xs Qd Q rs rx rl q l)
def wM0 (o : OM) (t : WE) : WE := fun env S Q => t env S fun x S1 => (∃ l, CellL S1 x l) ∧ o x [] S1 Q
def wM (o : OM) (t : WE) (ta : WA) : WE := fun env S Q => t env S fun x S1 => (∃ l, CellL S1 x l) ∧ ta env S1 fun ds S2 => o x ds S2 Q
theorem cellL_rep {K : PySem.W.Frag} {B : Blk} {S : Store} {H : Hp} {x : D} {v : V} {l : List D} (rs : RepS K B S H) (r : RepD K B S H x v) (c : CellL S x l) : ∃ a xs, x = .ref a ∧ v = .ref a ∧ S a = some (.lst l) ∧ H a = some (.lst xs) ∧ RepL K B S H l xs := by
  cases x with
  | ref a =>
    have c' : S a = some (.lst l) := c
    obtain ⟨xs, e, rl⟩ := rs.cell a _ c'
    exact ⟨a, xs, rfl, repD_ref.mp r, c', e, rl⟩
  | _ => exact False.elim c
theorem de_m0 {id : String} {name : Str} {o : OM} {e : Expr} {t : WE} {apos cpos : Pos} (slot : Slot "list" name id) (hty : typeOf (.builtin id) = pure (.type "method_descriptor")) (hm : MD X id o) (ho : DE X e t)
    (hbase : attributeBase e name X.env (eval e X.env) = eval e X.env := by rfl) (hline : (apos.endLine == cpos.line) = true := by rfl) : DE X (.Call (.Attribute e name apos) [] [] cpos) (wM0 o t) :=
  PE.mono (pe_bm0 PySem.F.plainAttrs_list slot hty hm ho hbase hline) fun σ H Q ⟨B, env, S, Qd, re, rs, q, l⟩ => ⟨B, env, S, _, re, rs, q, fun S1 H1 x v g1 rs1 rx ⟨⟨m, c⟩, q1⟩ => by
    obtain ⟨a, xs, rfl, rfl, _, e, _⟩ := cellL_rep rs1 rx c
    exact ⟨.inl ⟨rfl, xs, .of e⟩, B, S1, _, [], Qd, rs1, rx, repL_nil.mpr rfl, q1, l.grow g1⟩⟩
theorem de_m {id : String} {name : Str} {o : OM} {e a : Expr} {es : List Expr} {t : WE} {ta : WA} {apos cpos : Pos} (slot : Slot "list" name id) (hty : typeOf (.builtin id) = pure (.type "method_descriptor")) (hm : MD X id o) (ho : DE X e t) (ha : DA X (a :: es) ta)
    (hbase : attributeBase e name X.env (eval e X.env) = eval e X.env := by rfl)
    (hfew : ((backTo cpos (starEach (a :: es) X.env)).all (fun x => !x.1) && (backToKw cpos (keywordEach [] X.env)).all (fun x => x.1.isSome) && decide ((a :: es).length + ([] : List Keyword).length + (if ([] : List Keyword).isEmpty then 0 else 1) < 30)) = true := by rfl)
    (hline : (apos.endLine == cpos.line) = true := by rfl) (hs : starEach (a :: es) X.env = (false, eval a X.env) :: starEach es X.env := by rfl) (hplain : (backTo cpos (starEach es X.env)).any (·.1) = false := by rfl) :
    DE X (.Call (.Attribute e name apos) (a :: es) [] cpos) (wM o t ta) :=
  PE.mono (pe_bm PySem.F.plainAttrs_list slot hty hm ho ha hbase hfew hline hs hplain) fun σ H Q ⟨B, env, S, Qd, re, rs, q, l⟩ => ⟨B, env, S, _, re, rs, q, fun S1 H1 x v g1 rs1 rx ⟨⟨m, c⟩, q1⟩ => by
    obtain ⟨a, xs, rfl, rfl, _, e, _⟩ := cellL_rep rs1 rx c
    exact ⟨.inl ⟨rfl, xs, .of e⟩, B, env, S1, _, re.grow g1, rs1, q1, fun S2 H2 ds vs g2 rs2 rds q2 => ⟨B, S2, _, ds, Qd, rs2, RepD.grow g2 _ _ rx, rds, q2, l.grow (g1.trans g2)⟩⟩⟩
/-- what a method does to its cell -/
theorem cell_set {K : PySem.W.Frag} {B : Blk} {S : Store} {H : Hp} {Qd : D → Store → Prop} {Q : VK} {a : Addr} {l l' : List D} {xs' : List V} {d : D} {v : V} (lf : Lift K B S H Qd Q) (rs : RepS K B S H) (e : S a = some (.lst l)) (rl : RepL K B S H l' xs') (rd : RepD K B S H d v)
    (q : Qd d (sput S a (.lst l'))) : Q v (upd H a (.lst xs')) := by
  obtain ⟨g, rs'⟩ := rs.write (o := .lst xs') (c := .lst l') e fun S' H' g e' => ⟨xs', e', RepL.grow g _ _ rl⟩
  exact lf _ _ _ _ g rs' (RepD.grow g _ _ rd) q
def oAppend : OM := fun x ds S Q => ∃ l d, CellL S x l ∧ ds = [d] ∧ l.length < sizeLine ∧ (∀ a, x = .ref a → Q .non (sput S a (.lst (l ++ [d]))))
theorem md_append : MD X "list.append" oAppend := MD.of mt_append fun B S H x ds vx vs Qd Q rs rx rds ⟨l, d, c, e, hz, q⟩ lf => by
  subst e
  obtain ⟨a, xs, rfl, rfl, ea, eh, rl⟩ := cellL_rep rs rx c
  obtain ⟨v, rfl, rd⟩ := repL1 rds
  exact ⟨a, xs, v, rfl, rfl, eh, by rw [← rl.len]; exact hz, cell_set lf rs ea (rl.app (.one rd)) (repD_non.mpr rfl) (q a rfl)⟩
def oPop : OM := fun x ds S Q => ∃ l d, CellL S x l ∧ ds = [] ∧ l[l.length - 1]? = some d ∧ (∀ a, x = .ref a → Q d (sput S a (.lst l.dropLast)))
theorem md_pop : MD X "list.pop" oPop := MD.of mt_pop fun B S H x ds vx vs Qd Q rs rx rds ⟨l, d, c, e, hd, q⟩ lf => by
  subst e
  obtain ⟨a, xs, rfl, rfl, ea, eh, rl⟩ := cellL_rep rs rx c
  obtain ⟨v, hv, rd⟩ := rl.get hd
  rw [repL_nil] at rds
  subst rds
  refine ⟨a, xs, v, rfl, rfl, eh, by rw [← rl.len]; exact hv, ?_⟩
  refine cell_set lf rs ea ?_ rd (q a rfl)
  rw [List.dropLast_eq_take, List.dropLast_eq_take, ← rl.len]
  exact rl.take _
def oPopAt : OM := fun x ds S Q => ∃ l i k d, CellL S x l ∧ ds = [.int i] ∧ (-(2 ^ 63) ≤ i ∧ i < 2 ^ 63) ∧ ixN l.length i = some k ∧ l[k]? = some d ∧ (∀ a, x = .ref a → Q d (sput S a (.lst (l.eraseIdx k))))
theorem md_popAt : MD X "list.pop" oPopAt := MD.of mt_popAt fun B S H x ds vx vs Qd Q rs rx rds ⟨l, i, k, d, c, e, hi, hk, hd, q⟩ lf => by
  subst e
  obtain ⟨a, xs, rfl, rfl, ea, eh, rl⟩ := cellL_rep rs rx c
  obtain ⟨v, hv, rd⟩ := rl.get hd
  obtain ⟨u, rfl, ru⟩ := repL1 rds
  rw [repD_int] at ru
  subst ru
  exact ⟨a, xs, i, k, v, rfl, rfl, eh, hi.1, hi.2, by rw [← rl.len]; exact (ixN_seq hk).1, hv, cell_set lf rs ea (rl.erase k) rd (q a rfl)⟩
def oInsert : OM := fun x ds S Q => ∃ l i d, CellL S x l ∧ ds = [.int i, d] ∧ l.length < sizeLine ∧ 0 ≤ i ∧ i < 2 ^ 63 ∧ (∀ a, x = .ref a → Q .non (sput S a (.lst (l.take i.toNat ++ [d] ++ l.drop i.toNat))))
theorem md_insert : MD X "list.insert" oInsert := MD.of mt_insert fun B S H x ds vx vs Qd Q rs rx rds ⟨l, i, d, c, e, hz, h0, h1, q⟩ lf => by
  subst e
  obtain ⟨a, xs, rfl, rfl, ea, eh, rl⟩ := cellL_rep rs rx c
  obtain ⟨u, v, rfl, ru, rd⟩ := repL2 rds
  rw [repD_int] at ru
  subst ru
  exact ⟨a, xs, i, v, rfl, rfl, eh, by rw [← rl.len]; exact hz, h0, h1, cell_set lf rs ea (((rl.take _).app (.one rd)).app (rl.drop _)) (repD_non.mpr rfl) (q a rfl)⟩
def oReverse : OM := fun x ds S Q => ∃ l, CellL S x l ∧ ds = [] ∧ (∀ a, x = .ref a → Q .non (sput S a (.lst l.reverse)))
theorem md_reverse : MD X "list.reverse" oReverse := MD.of mt_reverse fun B S H x ds vx vs Qd Q rs rx rds ⟨l, c, e, q⟩ lf => by
  subst e
  obtain ⟨a, xs, rfl, rfl, ea, eh, rl⟩ := cellL_rep rs rx c
  rw [repL_nil] at rds
  subst rds
  exact ⟨a, xs, rfl, rfl, eh, cell_set lf rs ea rl.rev (repD_non.mpr rfl) (q a rfl)⟩
theorem de_append {e a : Expr} {t u : WE} {apos cpos : Pos} (ho : DE X e t) (ha : DE X a u)
    (hbase : attributeBase e "append" X.env (eval e X.env) = eval e X.env := by rfl)
    (hfew : ((backTo cpos (starEach [a] X.env)).all (fun x => !x.1) && (backToKw cpos (keywordEach [] X.env)).all (fun x => x.1.isSome) && decide ([a].length + ([] : List Keyword).length + (if ([] : List Keyword).isEmpty then 0 else 1) < 30)) = true := by rfl)
    (hline : (apos.endLine == cpos.line) = true := by rfl) (hs : starEach [a] X.env = (false, eval a X.env) :: starEach [] X.env := by rfl) (hplain : (backTo cpos (starEach [] X.env)).any (·.1) = false := by rfl) :
    DE X (.Call (.Attribute e "append" apos) [a] [] cpos) (wM oAppend t (wCons u wNil)) :=
  de_m PySem.F.slot_list_append PySem.F.type_list_append md_append ho (da_cons ha da_nil hs) hbase hfew hline hs hplain
end
abbrev oSub : O2 := oI0 fun i j => .int (i - j)
abbrev oFdiv : O2 := oI CFd fun i j => .int (i.fdiv j)
abbrev oMod : O2 := oI (fun _ j => j ≠ 0) fun i j => .int (i.fmod j)
abbrev oPow : O2 := oI CPow fun i j => .int (i ^ j.toNat)
abbrev oLt : O2 := oI0 fun i j => .bl (decide (i < j))
abbrev oLe : O2 := oI0 fun i j => .bl (decide (i ≤ j))
abbrev oGt : O2 := oI0 fun i j => .bl (decide (j < i))
abbrev oGe : O2 := oI0 fun i j => .bl (decide (j ≤ i))
/-! ### the built-in names -/
theorem bt_len : bootBuiltins "len" = some (.builtin "len") := by decide +kernel
theorem bt_abs : bootBuiltins "abs" = some (.builtin "abs") := by decide +kernel
theorem bt_max : bootBuiltins "max" = some (.builtin "max") := by decide +kernel
theorem bt_min : bootBuiltins "min" = some (.builtin "min") := by decide +kernel
theorem bt_sum : bootBuiltins "sum" = some (.builtin "sum") := by decide +kernel
theorem bt_all : bootBuiltins "all" = some (.builtin "all") := by decide +kernel
theorem bt_tuple : bootBuiltins "tuple" = some (.type "tuple") := by decide +kernel
theorem bt_list : bootBuiltins "list" = some (.type "list") := by decide +kernel
theorem bt_int : bootBuiltins "int" = some (.type "int") := by decide +kernel
theorem bt_str : bootBuiltins "str" = some (.type "str") := by decide +kernel
theorem bt_bool : bootBuiltins "bool" = some (.type "bool") := by decide +kernel
theorem bt_isi : bootBuiltins "isinstance" = some (.builtin "isinstance") := by decide +kernel
/-- a step of the store: a cell is there -/
theorem CellL.put {S : Store} {p : Addr} {l : List D} : CellL (sput S p (.lst l)) (.ref p) l := sput_same
theorem LC.put {S : Store} {p : Addr} {l : List D} : LC (sput S p (.lst l)) (.ref p) l := sput_same
theorem SC.put {S : Store} {p : Addr} {l : List D} : SC (sput S p (.lst l)) (.ref p) l := sput_same
end ND
set_option Elab.async false
set_option linter.all false
set_option maxRecDepth 100000
/-! ND8: loops by an invariant, data told equal, numbers and fractions as data. -/
namespace ND
open PySem L2
/-- how a def's reading ends -/
abbrev fin (Q : D → Store → Prop) : DEnds := ⟨fun _ S' => ∃ S'', Sub S'' S' ∧ Q .non S'', Q⟩
theorem ite_nf {c A B : Prop} [Decidable c] (h1 : c → A) (h2 : ¬ c → B) : if decide c = true then A else B := by
  by_cases h : c
  · rw [decide_eq_true h]; exact h1 h
  · rw [decide_eq_false h]; exact h2 h
theorem ite_nn {c A B : Prop} [Decidable c] (h1 : ¬ c → A) (h2 : c → B) : if (!decide c) = true then A else B := by
  by_cases h : c
  · rw [decide_eq_true h]; exact h2 h
  · rw [decide_eq_false h]; exact h1 h
theorem ite_b {b : Bool} {A B : Prop} (h1 : b = true → A) (h2 : b = false → B) : if b = true then A else B := by
  cases b with
  | true => exact h1 rfl
  | false => exact h2 rfl
theorem ite_nb {b : Bool} {A B : Prop} (h1 : b = false → A) (h2 : b = true → B) : if (!b) = true then A else B := by
  cases b with
  | true => exact h2 rfl
  | false => exact h1 rfl
/-- the slots at the entry -/
abbrev dst (k : Nat) (ds : List D) : Slots := ds.map some ++ List.replicate (k - ds.length) none
/-! constants of the module -/
theorem glob_int {K : PySem.W.Frag} {mg : Str → Option Value} {x : Str} {i : Int} {t : Tok} (h : mg x = some (.int i t)) : GlobD K mg x (.int i) := ⟨_, .int i, h, ⟨_, rfl⟩, fun _ _ _ => repD_int.mpr rfl⟩
theorem glob_str {K : PySem.W.Frag} {mg : Str → Option Value} {x : Str} {i : Str} {t : Tok} (h : mg x = some (.str i t)) : GlobD K mg x (.str i) := ⟨_, .str i, h, ⟨_, rfl⟩, fun _ _ _ => repD_str.mpr rfl⟩
/-- ints told by their values -/
def intsOf : List Value → Option (List Int)
  | [] => some []
  | .int i _ :: r => (intsOf r).map (i :: ·)
  | _ => none
theorem intsOf_vals : ∀ {us : List Value} {ns : List Int}, intsOf us = some ns → Vals (ns.map V.int) us
  | [], ns, h => by cases h; exact .nil
  | .int i t :: r, ns, h => by
    unfold intsOf at h
    cases e : intsOf r with
    | none => rw [e] at h; cases h
    | some m =>
      rw [e] at h
      cases h
      exact .cons ⟨t, rfl⟩ (intsOf_vals e)
theorem glob_tup {K : PySem.W.Frag} {mg : Str → Option Value} {x : Str} {a : Addr} {o : Option Addr} {its : Array Value} {n : Nat} {sl : Array (Option Value)} {ns : List Int} (h : mg x = some (.ref a)) (l : K.lookup a = some ⟨.type "tuple", o, .seq its n, sl⟩)
    (hi : intsOf its.toList = some ns) (hs : its.size ≤ sizeLine) : GlobD K mg x (.tup (ns.map D.int)) :=
  ⟨_, .ref a, h, rfl, fun _ _ _ => repD_tup.mpr ⟨a, _, rfl, .inr ⟨_, its, n, l, rfl, rfl, hs, intsOf_vals hi⟩, repL_ints⟩⟩
/-- a for, by what holds ahead of each turn -/
theorem for_inv {wt : Store → Prop} {g : WG} {b : WS} {items : List D} {E : DEnds} {env : Slots} {S : Store} (I : Nat → Slots → Store → Prop) (h0 : I 0 env S)
    (step : ∀ i x env S (K : Slots → Store → Prop), items[i]? = some x → I i env S → (∀ env2 S2, I (i + 1) env2 S2 → K env2 S2) → wt S ∧ g x env S fun env1 S1 => b ⟨K, E.rt⟩ env1 S1)
    (done : ∀ env S, I items.length env S → wt S ∧ E.nx env S) : forW wt g b items E env S := by
  have go : ∀ (rest pre : List D), items = pre ++ rest → ∀ env S, I pre.length env S → forW wt g b rest E env S := by
    intro rest
    induction rest with
    | nil =>
      intro pre e env S hI
      rw [List.append_nil] at e
      subst e
      exact done env S hI
    | cons x r ih =>
      intro pre e env S hI
      have hx : items[pre.length]? = some x := by rw [e]; simp
      exact step pre.length x env S _ hx hI fun env2 S2 h2 => ih (pre ++ [x]) (by rw [e]; simp) env2 S2 (by rw [List.length_append]; exact h2)
  exact go items [] rfl env S h0
/-- the items of a comprehension, one after another: I i out S ahead of the i-th -/
theorem lc_inv {wt : Store → Prop} {g : WG} {tt : WT} {te : WE} {env : Slots} {items : List D} {S : Store} {Q : List D → Store → Prop} (I : Nat → List D → Store → Prop) (h0 : I 0 [] S)
    (step : ∀ i x acc S (K1 : D → Store → Prop) (K2 : Store → Prop), items[i]? = some x → I i acc S → (∀ d S', I (i + 1) (acc ++ [d]) S' → K1 d S') → (∀ S', I (i + 1) acc S' → K2 S') →
      wt S ∧ g x env S fun env1 S1 => tt env1 S1 fun b S2 => if b = true then te env1 S2 K1 else K2 S2)
    (done : ∀ acc S, I items.length acc S → wt S ∧ Q acc S) : lcW wt g tt te env items [] S Q := by
  have go : ∀ (rest pre acc : List D) S, items = pre ++ rest → I pre.length acc S → lcW wt g tt te env rest acc S Q := by
    intro rest
    induction rest with
    | nil =>
      intro pre acc S e hI
      rw [List.append_nil] at e
      subst e
      exact done acc S hI
    | cons x r ih =>
      intro pre acc S e hI
      have hx : items[pre.length]? = some x := by rw [e]; simp
      have e2 : items = (pre ++ [x]) ++ r := by rw [e]; simp
      exact step pre.length x acc S _ _ hx hI (fun d S' h => ih (pre ++ [x]) (acc ++ [d]) S' e2 (by rw [List.length_append]; exact h)) fun S' h => ih (pre ++ [x]) acc S' e2 (by rw [List.length_append]; exact h)
  exact go items [] [] S rfl h0
/-- .. without a test: each item is turned into one, nothing else happens -/
theorem lc_map {g : WG} {te : WE} {env : Slots} {items : List D} {S : Store} {Q : List D → Store → Prop} (f : Nat → D → D)
    (step : ∀ i x (K : D → Store → Prop), items[i]? = some x → K (f i x) S → g x env S fun env1 S1 => te env1 S1 K) (done : Q (items.mapIdx f) S) : lcW (fun _ => True) g wYes te env items [] S Q := by
  refine lc_inv (fun i acc S' => S' = S ∧ acc = (items.take i).mapIdx f) ⟨rfl, by simp⟩ ?_ ?_
  · rintro i x acc S' K1 K2 hx ⟨rfl, rfl⟩ k1 k2
    refine ⟨trivial, step i x K1 hx (k1 _ _ ⟨rfl, ?_⟩)⟩
    have hi : i < items.length := (List.getElem?_eq_some_iff.mp hx).1
    rw [List.take_add_one, hx, List.mapIdx_append]
    simp [Nat.min_eq_left (Nat.le_of_lt hi)]
  · rintro acc S' ⟨rfl, rfl⟩
    rw [List.take_length]
    exact ⟨trivial, done⟩
/-! ### data told equal -/
mutual
def pureD : D → Bool
  | .non => true
  | .int _ => true
  | .str x => PyData.strOk x
  | .tup l => pureDs l
  | .lst l => pureDs l
  | _ => false
def pureDs : List D → Bool
  | [] => true
  | d :: l => pureD d && pureDs l
def deepD : D → Nat
  | .tup l => deepDs l + 1
  | .lst l => deepDs l + 1
  | _ => 0
def deepDs : List D → Nat
  | [] => 0
  | d :: l => max (deepD d) (deepDs l)
end
mutual
theorem pure_noRef : ∀ d : D, pureD d = true → noRef d = true ∧ (toP d).canLay0 = true ∧ (toP d).depth = deepD d
  | .non, _ => ⟨rfl, rfl, rfl⟩
  | .int _, _ => ⟨rfl, rfl, rfl⟩
  | .str x, h => ⟨rfl, by unfold pureD at h; simpa [toP, PyData.canLay0] using h, by simp [toP, PyData.depth, deepD]⟩
  | .tup l, h => by
    unfold pureD at h
    obtain ⟨a, b, c⟩ := pures_noRef l h
    exact ⟨by unfold noRef; exact a, by unfold toP PyData.canLay0; exact b, by unfold toP PyData.depth deepD; rw [c]⟩
  | .lst l, h => by
    unfold pureD at h
    obtain ⟨a, b, c⟩ := pures_noRef l h
    exact ⟨by unfold noRef; exact a, by unfold toP PyData.canLay0; exact b, by unfold toP PyData.depth deepD; rw [c]⟩
  | .bl _, h => by unfold pureD at h; cases h
  | .ref _, h => by unfold pureD at h; cases h
  | .kls _, h => by unfold pureD at h; cases h
  | .fn _, h => by unfold pureD at h; cases h
theorem pures_noRef : ∀ l : List D, pureDs l = true → noRefs l = true ∧ PyData.canLayAll0 (toPs l) = true ∧ PyData.depthAll (toPs l) = deepDs l
  | [], _ => ⟨rfl, rfl, rfl⟩
  | d :: l, h => by
    unfold pureDs at h
    rw [Bool.and_eq_true] at h
    obtain ⟨a, b, c⟩ := pure_noRef d h.1
    obtain ⟨a', b', c'⟩ := pures_noRef l h.2
    refine ⟨by unfold noRefs; rw [a, a']; rfl, by unfold toPs PyData.canLayAll0; rw [b, b']; rfl, by unfold toPs PyData.depthAll deepDs; rw [c, c']⟩
end
theorem okP_of {d : D} (h : pureD d = true) (hd : deepD d ≤ 64) : okP d := by
  obtain ⟨a, b, c⟩ := pure_noRef d h
  refine ⟨a, ?_⟩
  unfold SeqAt.shaped
  rw [b, c, decide_eq_true hd]
  rfl
mutual
theorem deq_pure : ∀ x y : D, pureD x = true → pureD y = true → (deq x y = true ↔ x = y)
  | .non, y, _, hy => by cases y <;> first | (simp [deq, toP, PyData.eqv]; done) | (simp [pureD] at hy)
  | .int i, y, _, hy => by cases y <;> first | (simp [deq, toP, PyData.eqv]; done) | (simp [pureD] at hy)
  | .str s, y, _, hy => by cases y <;> first | (simp [deq, toP, PyData.eqv]; done) | (simp [pureD] at hy)
  | .tup l, y, hx, hy => by
    cases y with
    | tup m =>
      unfold pureD at hx hy
      have := deqs_pure l m hx hy
      simpa [deq, toP, PyData.eqv] using this
    | non => simp [deq, toP, PyData.eqv]
    | int _ => simp [deq, toP, PyData.eqv]
    | str _ => simp [deq, toP, PyData.eqv]
    | lst _ => simp [deq, toP, PyData.eqv]
    | bl _ => simp [pureD] at hy
    | ref _ => simp [pureD] at hy
    | kls _ => simp [pureD] at hy
    | fn _ => simp [pureD] at hy
  | .lst l, y, hx, hy => by
    cases y with
    | lst m =>
      unfold pureD at hx hy
      have := deqs_pure l m hx hy
      simpa [deq, toP, PyData.eqv] using this
    | non => simp [deq, toP, PyData.eqv]
    | int _ => simp [deq, toP, PyData.eqv]
    | str _ => simp [deq, toP, PyData.eqv]
    | tup _ => simp [deq, toP, PyData.eqv]
    | bl _ => simp [pureD] at hy
    | ref _ => simp [pureD] at hy
    | kls _ => simp [pureD] at hy
    | fn _ => simp [pureD] at hy
  | .bl _, _, hx, _ => by simp [pureD] at hx
  | .ref _, _, hx, _ => by simp [pureD] at hx
  | .kls _, _, hx, _ => by simp [pureD] at hx
  | .fn _, _, hx, _ => by simp [pureD] at hx
theorem deqs_pure : ∀ x y : List D, pureDs x = true → pureDs y = true → (PyData.eqvAll (toPs x) (toPs y) = true ↔ x = y)
  | [], [], _, _ => by simp [toPs, PyData.eqvAll]
  | [], _ :: _, _, _ => by simp [toPs, PyData.eqvAll]
  | _ :: _, [], _, _ => by simp [toPs, PyData.eqvAll]
  | a :: x, b :: y, hx, hy => by
    unfold pureDs at hx hy
    rw [Bool.and_eq_true] at hx hy
    have h1 := deq_pure a b hx.1 hy.1
    have h2 := deqs_pure x y hx.2 hy.2
    unfold deq at h1
    simp [toPs, PyData.eqvAll, h1, h2]
end
/-- == where both sides are plain data -/
theorem eq_pure {neg : Bool} {x y : D} {S : Store} {Q : D → Store → Prop} (hx : pureD x = true) (hy : pureD y = true) (dx : deepD x ≤ 64) (dy : deepD y ≤ 64) (h : ∀ b : Bool, (b = true ↔ x = y) → Q (.bl (nb neg b)) S) : oEqB neg x y S Q := by
  have gen : seen S x x → seen S y y → ∃ x' y', seen S x x' ∧ seen S y y' ∧ okP x' ∧ okP y' ∧ Q (.bl (nb neg (deq x' y'))) S := fun s1 s2 => ⟨x, y, s1, s2, okP_of hx dx, okP_of hy dy, h _ (deq_pure x y hx hy)⟩
  have sn : ∀ d : D, pureD d = true → seen S d d := fun d hd => by
    cases d with
    | ref a => simp [pureD] at hd
    | _ => rfl
  cases x with
  | int i =>
    cases y with
    | int j => exact h _ (by rw [decide_eq_true_iff]; exact ⟨fun e => by rw [e], fun e => by injection e⟩)
    | _ => exact gen (sn _ hx) (sn _ hy)
  | _ => exact gen (sn _ hx) (sn _ hy)
/-! ### menus -/
theorem atI_int {ns : List Int} {r : Int} (h0 : 0 ≤ r) (h1 : r < ns.length) : ∃ s, s ∈ ns ∧ atI (ns.map D.int) r = some (.int s) := by
  have hn : r.toNat < ns.length := by omega
  refine ⟨ns[r.toNat], List.getElem_mem hn, ?_⟩
  have e := atI_nat (xs := ns.map D.int) (j := r.toNat) (v := .int ns[r.toNat]) (by simp [hn])
  rwa [show ((r.toNat : Nat) : Int) = r by omega] at e
/-! ### sizes -/
theorem mulOk {i j : Int} {a b : Nat} (ha : i.natAbs < 2 ^ a) (hb : j.natAbs < 2 ^ b) (h0 : 0 < a := by decide) (h1 : 0 < b := by decide) (h : a + b ≤ 1000000 := by decide) : CMulW i j := wide_mul ha hb h0 h1 h
theorem cfd_of {i j : Int} {b : Nat} (h : j ≠ 0) (_ : j.natAbs < 2 ^ b) (_ : 0 < b := by decide) (_ : b ≤ 300000 := by decide) : CFd i j := h
theorem fmod_bds {x n : Int} (hn : 0 < n) : 0 ≤ x.fmod n ∧ x.fmod n < n := by
  rw [Int.fmod_eq_emod_of_nonneg _ (by omega)]
  exact ⟨Int.emod_nonneg _ (by omega), Int.emod_lt_of_pos _ hn⟩
end ND
set_option Elab.async false
set_option linter.all false
set_option maxRecDepth 100000
/-! ND9: ranges with a step, join, x in a sequence, max and min of a list, comparisons in a row. -/
namespace ND
open PySem PySem.Spec PyProof.Rows L2
def rngC (lo c : Int) (n : Nat) : List D := (List.range n).map fun k => D.int (lo + (k : Nat) * c)
theorem rngC_at {lo c : Int} {n i : Nat} (h : i < n) : (rngC lo c n)[i]? = some (.int (lo + (i : Nat) * c)) := by unfold rngC; simp [h]
theorem rngC_len {lo c : Int} {n : Nat} : (rngC lo c n).length = n := by unfold rngC; simp
theorem src_rngC {K : PySem.W.Frag} {B : Blk} {S0 : Store} {H0 : Hp} {lo c : Int} {n : Nat} : Src K B S0 H0 (Itc lo c n) (rngC lo c n) (fun _ => True) :=
  fun B' S H h1 h2 g rs w i => by
    rw [rngC_len]
    refine ⟨fun h => ⟨h, ?_⟩, fun h => h⟩
    rintro x H' ⟨rfl, rfl⟩
    exact ⟨.refl, rs, _, rngC_at h, repD_int.mpr rfl⟩
def wRng3 (t : WA) : WI := fun env S R => t env S fun ds S1 => match ds with
  | [.int i, .int j, .int c] => ∃ n, RgC i j c n ∧ R (rngC i c n) (fun _ => True) S1
  | _ => False
theorem rng3_get {ds : List D} {S : Store} {R : List D → (Store → Prop) → Store → Prop} (h : match ds with
  | [.int i, .int j, .int c] => ∃ n, RgC i j c n ∧ R (rngC i c n) (fun _ => True) S
  | _ => False) : ∃ i j c n, ds = [.int i, .int j, .int c] ∧ RgC i j c n ∧ R (rngC i c n) (fun _ => True) S := by
  match ds, h with
  | [.int i, .int j, .int c], ⟨n, h1, h2⟩ => exact ⟨i, j, c, n, rfl, h1, h2⟩
section
variable {X : Cx}
theorem di_rng3 {tg a b c : Expr} {t : WA} {p pos : Pos} (hg : Gl X "range") (hm : X.mg "range" = none) (ha : DA X [a, b, c] t)
    (hs : starEach [a, b, c] X.env = (false, eval a X.env) :: starEach [b, c] X.env := by rfl) (hpl : (backTo pos (starEach [b, c] X.env)).any (·.1) = false := by rfl) : DI X tg (.Call (.Name "range" p) [a, b, c] [] pos) (wRng3 t) :=
  PI.mono (pi_range3 hg hm ha hs hpl) fun σ H R ⟨B, env, S, Ri, re, rs, q, l⟩ => ⟨B, env, S, _, re, rs, q, fun S1 H1 ds vs g1 rs1 rds q1 => by
    obtain ⟨i, j, k, n, rfl, hc, q⟩ := rng3_get q1
    obtain ⟨v1, r1, rfl, e1, rds⟩ := repL_cons.mp rds
    obtain ⟨v2, v3, rfl, e2, e3⟩ := repL2 rds
    rw [repD_int] at e1 e2 e3
    subst e1 e2 e3
    exact ⟨i, j, k, n, rfl, hc, l S1 H1 _ _ _ g1 rs1 src_rngC q⟩⟩
/-- sep.join(texts) -/
def wJoin (t u : WE) : WE := fun env S Q => t env S fun x S1 => (∃ a, x = .str a) ∧ u env S1 fun y S2 => ∃ (a : Str) (ys : List Str), x = .str a ∧ SC S2 y (ys.map D.str) ∧ (ys.map (·.length)).sum + ys.length * a.length ≤ 16777216 ∧ Q (.str (Txt.join a ys)) S2
theorem de_join {o e : Expr} {t u : WE} {apos pos : Pos} (ho : DE X o t) (he : DE X e u) (hs : starEach [e] X.env = [(false, eval e X.env)] := by rfl) (hbase : attributeBase o "join" X.env (eval o X.env) = eval o X.env := by rfl) (hline : (apos.endLine == pos.line) = true := by rfl) :
    DE X (.Call (.Attribute o "join" apos) [e] [] pos) (wJoin t u) :=
  PE.mono (pe_join ho he hs hbase hline) fun σ H Q ⟨B, env, S, Qd, re, rs, q, l⟩ => ⟨B, env, S, _, re, rs, q, fun S1 H1 x vx g1 rs1 rx ⟨⟨a, e⟩, q1⟩ => by
    subst e
    rw [repD_str] at rx
    subst rx
    refine ⟨⟨a, rfl⟩, B, env, S1, _, re.grow g1, rs1, q1, fun S2 H2 y vy g2 rs2 ry ⟨b, ys, e, c, hz, q2⟩ => ?_⟩
    cases e
    obtain ⟨p, xs, rfl, hq, rl⟩ := sc_seq rs2 ry c
    obtain rfl := rl.strs'
    exact ⟨_, p, ys, rfl, rfl, hq, hz, l S2 H2 _ _ (g1.trans g2) rs2 (repD_str.mpr rfl) q2⟩⟩
/-! ### in -/
def flatD : D → Bool
  | .non => true
  | .bl _ => true
  | .int _ => true
  | .str _ => true
  | _ => false
def flatTo : D → V
  | .bl b => .bl b
  | .int i => .int i
  | .str s => .str s
  | _ => .non
def inDs (x : D) (l : List D) : Bool := l.any fun y => eqV (flatTo y) (flatTo x)
theorem flat_rep {K : PySem.W.Frag} {B : Blk} {S : Store} {H : Hp} {d : D} {v : V} (f : flatD d = true) (r : RepD K B S H d v) : v = flatTo d ∧ flatV v = true := by
  cases d with
  | non => rw [repD_non] at r; subst r; exact ⟨rfl, rfl⟩
  | bl b => rw [repD_bl] at r; subst r; exact ⟨rfl, rfl⟩
  | int b => rw [repD_int] at r; subst r; exact ⟨rfl, rfl⟩
  | str b => rw [repD_str] at r; subst r; exact ⟨rfl, rfl⟩
  | _ => cases f
theorem flats_rep {K : PySem.W.Frag} {B : Blk} {S : Store} {H : Hp} : ∀ {l : List D} {xs : List V}, l.all flatD = true → RepL K B S H l xs → xs = l.map flatTo ∧ xs.all flatV = true
  | [], xs, _, r => by rw [repL_nil] at r; subst r; exact ⟨rfl, rfl⟩
  | d :: l, xs, f, r => by
    obtain ⟨v, r', rfl, h1, h2⟩ := repL_cons.mp r
    rw [List.all_cons, Bool.and_eq_true] at f
    obtain ⟨e1, f1⟩ := flat_rep f.1 h1
    obtain ⟨e2, f2⟩ := flats_rep f.2 h2
    refine ⟨by rw [e1, e2]; rfl, ?_⟩
    rw [List.all_cons, f1, f2]
    rfl
def oInL (neg : Bool) : O2 := fun x y S Q => flatD x = true ∧ ∃ l, SC S y l ∧ l.all flatD = true ∧ Q (.bl (nb neg (inDs x l))) S
def oIn (neg : Bool) : O2 := fun x y S Q => match y with
  | .str z => (match x with | .str a => Q (.bl (nb neg (!(Builtin.Str.occurrences z a 0 z.length 1).isEmpty))) S | _ => False)
  | y => oInL neg x y S Q
theorem inL_rep {K : PySem.W.Frag} {neg : Bool} {B : Blk} {S : Store} {H : Hp} {x y : D} {vx vy : V} {Qd : D → Store → Prop} {Q : VK} (rs : RepS K B S H) (rx : RepD K B S H x vx) (ry : RepD K B S H y vy) (q : oInL neg x y S Qd) (l : Lift K B S H Qd Q) : rIn K neg vx vy H Q := by
  obtain ⟨fx, m, c, fm, q⟩ := q
  obtain ⟨p, xs, rfl, hq, rl⟩ := sc_seq rs ry c
  obtain ⟨e1, f1⟩ := flat_rep fx rx
  obtain ⟨e2, f2⟩ := flats_rep fm rl
  refine ⟨p, xs, rfl, hq, f1, f2, l S H _ _ .refl rs (repD_bl.mpr ?_) q⟩
  subst e1 e2
  have e : inV (flatTo x) (m.map flatTo) = inDs x m := by unfold inV inDs; rw [List.any_map]; rfl
  rw [e]
  cases neg <;> rfl
theorem od_in : OD X (compareOp .In) (oIn false) := OD.of (op_in_str.or op_in_seq) fun B S H x y vx vy Qd Q rs rx ry q l => by
  cases y with
  | str z =>
    cases x with
    | str a => rw [repD_str] at rx ry; exact .inl ⟨a, z, rx, ry, l S H _ _ .refl rs (repD_bl.mpr rfl) q⟩
    | _ => exact False.elim q
  | _ => exact .inr (inL_rep rs rx ry q l)
theorem od_notin : OD X (compareOp .NotIn) (oIn true) := OD.of (op_notin_str.or op_notIn_seq) fun B S H x y vx vy Qd Q rs rx ry q l => by
  cases y with
  | str z =>
    cases x with
    | str a => rw [repD_str] at rx ry; exact .inl ⟨a, z, rx, ry, l S H _ _ .refl rs (repD_bl.mpr rfl) q⟩
    | _ => exact False.elim q
  | _ => exact .inr (inL_rep rs rx ry q l)
theorem in_strs {x : Str} {ns : List Str} : inDs (.str x) (ns.map D.str) = decide (x ∈ ns) := by
  unfold inDs
  rw [List.any_map]
  rw [Bool.eq_iff_iff]
  simp only [List.any_eq_true, decide_eq_true_eq, Function.comp]
  constructor
  · rintro ⟨y, hy, e⟩
    have e : (y == x) = true := e
    rw [beq_iff_eq] at e
    subst e
    exact hy
  · intro h
    exact ⟨x, h, show (x == x) = true by rw [beq_iff_eq]⟩
theorem in_ints {x : Int} {ns : List Int} : inDs (.int x) (ns.map D.int) = decide (x ∈ ns) := by
  unfold inDs
  rw [List.any_map]
  rw [Bool.eq_iff_iff]
  simp only [List.any_eq_true, decide_eq_true_eq, Function.comp]
  constructor
  · rintro ⟨y, hy, e⟩
    have e : (y == x) = true := e
    rw [beq_iff_eq] at e
    subst e
    exact hy
  · intro h
    exact ⟨x, h, show (x == x) = true by rw [beq_iff_eq]⟩
/-- strings, ints in a sequence -/
theorem str_in {neg : Bool} {x : Str} {y : D} {ns : List Str} {S : Store} {Q : D → Store → Prop} (c : SC S y (ns.map D.str)) (q : Q (.bl (nb neg (decide (x ∈ ns)))) S) : oIn neg (.str x) y S Q := by
  rw [← in_strs] at q
  have h : oInL neg (.str x) y S Q := ⟨rfl, _, c, by simp [flatD], q⟩
  cases y with
  | str z => exact False.elim c
  | _ => exact h
theorem int_in {neg : Bool} {x : Int} {y : D} {ns : List Int} {S : Store} {Q : D → Store → Prop} (c : SC S y (ns.map D.int)) (q : Q (.bl (nb neg (decide (x ∈ ns)))) S) : oIn neg (.int x) y S Q := by
  rw [← in_ints] at q
  have h : oInL neg (.int x) y S Q := ⟨rfl, _, c, by simp [flatD], q⟩
  cases y with
  | str z => exact False.elim c
  | _ => exact h
/-! ### max, min of a list -/
def oMaxL : On := o1 fun x S Q => ∃ ns : List Int, LC S x (ns.map D.int) ∧ 0 < ns.length ∧ ∀ m, m ∈ ns → (∀ y, y ∈ ns → y ≤ m) → Q (.int m) S
def oMinL : On := o1 fun x S Q => ∃ ns : List Int, LC S x (ns.map D.int) ∧ 0 < ns.length ∧ ∀ m, m ∈ ns → (∀ y, y ∈ ns → m ≤ y) → Q (.int m) S
theorem o1_get {o : O1} {ds : List D} {S : Store} {Q : D → Store → Prop} (h : o1 o ds S Q) : ∃ x, ds = [x] ∧ o x S Q := by
  match ds, h with
  | [x], h => exact ⟨x, rfl, h⟩
theorem cd_maxL (hc : X.calm = true) : CD X (.builtin "max") oMaxL := CD.of (cr_max hc) fun B S H ds vs Qd Q rs r q l => by
  obtain ⟨x, rfl, ns, c, h0, q⟩ := o1_get q
  obtain ⟨v, rfl, rx⟩ := repL1 r
  obtain ⟨a, xs, rfl, h, rl⟩ := lc_seq rs rx c
  obtain rfl := rl.ints
  exact ⟨a, ns, rfl, .inl h, h0, fun m h1 h2 => l S H _ _ .refl rs (repD_int.mpr rfl) (q m h1 h2)⟩
theorem cd_minL (hc : X.calm = true) : CD X (.builtin "min") oMinL := CD.of (cr_min hc) fun B S H ds vs Qd Q rs r q l => by
  obtain ⟨x, rfl, ns, c, h0, q⟩ := o1_get q
  obtain ⟨v, rfl, rx⟩ := repL1 r
  obtain ⟨a, xs, rfl, h, rl⟩ := lc_seq rs rx c
  obtain rfl := rl.ints
  exact ⟨a, ns, rfl, .inl h, h0, fun m h1 h2 => l S H _ _ .refl rs (repD_int.mpr rfl) (q m h1 h2)⟩
/-! ### a op b op c -/
def wChain (o o' : O2) (ta tb tc : WE) : WE := fun env S Q => ta env S fun x S1 => tb env S1 fun y S2 => o x y S2 fun z S3 => match z with
  | .bl k => if k = true then tc env S3 fun w S4 => o' y w S4 Q else Q (.bl false) S3
  | _ => False
theorem chain_of {o o' : O2} {ta tb tc : WE} {σ : L2.St} {H : Hp} {Q : VK} (h : tD X.K (wChain o o' ta tb tc) σ H Q) : tChain (rD X.K o) (rD X.K o') (tD X.K ta) (tD X.K tb) (tD X.K tc) σ H Q :=
  (show ∀ σ H Q, tD X.K (wChain o o' ta tb tc) σ H Q → tChain (rD X.K o) (rD X.K o') (tD X.K ta) (tD X.K tb) (tD X.K tc) σ H Q from fun σ H Q ⟨B, env, S, Qd, re, rs, q, l⟩ => ⟨B, env, S, _, re, rs, q, fun S1 H1 x vx g1 rs1 rx q1 => ⟨B, env, S1, _, re.grow g1, rs1, q1, fun S2 H2 y vy g2 rs2 ry q2 =>
    ⟨B, S2, x, y, _, rs2, RepD.grow g2 _ _ rx, ry, q2, fun S3 H3 z vz g3 rs3 rz q3 => by
      cases z with
      | bl k =>
        rw [repD_bl] at rz
        refine ⟨k, rz, ?_⟩
        cases k with
        | true =>
          change (if true = true then _ else _) at q3
          rw [if_pos rfl] at q3 ⊢
          exact ⟨B, env, S3, _, (re.grow (g1.trans (g2.trans g3))), rs3, q3, fun S4 H4 w vw g4 rs4 rw' q4 => ⟨B, S4, y, w, Qd, rs4, RepD.grow (g3.trans g4) _ _ ry, rw', q4, l.grow (g1.trans (g2.trans (g3.trans g4)))⟩⟩
        | false =>
          change (if false = true then _ else _) at q3
          rw [if_neg Bool.false_ne_true] at q3 ⊢
          exact l S3 H3 _ _ (g1.trans (g2.trans g3)) rs3 (repD_bl.mpr rfl) q3
      | _ => exact False.elim q3⟩⟩⟩) σ H Q h
theorem de_chain {op op' : CmpOp} {o o' : O2} {a b c : Expr} {pos : Pos} {ta tb tc : WE} (ho : OD X (compareOp op) o) (ho' : OD X (compareOp op') o') (ha : DE X a ta) (hb : DE X b tb) (hc : DE X c tc)
    (hm : lastMarks [op, op'] [b, c] = false := by with_unfolding_all rfl) : DE X (.Compare a [op, op'] [b, c] pos) (wChain o o' ta tb tc) :=
  PE.mono (pe_chain ho ho' ha hb hc hm) fun σ H Q h => chain_of h
theorem dt_chain {op op' : CmpOp} {o o' : O2} {a b c : Expr} {pos : Pos} {ta tb tc : WE} (ho : OD X (compareOp op) o) (ho' : OD X (compareOp op') o') (ha : DE X a ta) (hb : DE X b tb) (hc : DE X c tc)
    (hm : lastMarks [op, op'] [b, c] = false := by with_unfolding_all rfl) : DT X (.Compare a [op, op'] [b, c] pos) (wTst (wChain o o' ta tb tc)) :=
  PT.mono (pt_chain ho ho' ha hb hc hm) fun σ H Q q => chain_of (tst_of q)
/-- what is never reached -/
def wNever : WS := fun _ _ _ => False
theorem ds_never {st : Stmt} : DS X st wNever := PS.mono ps_never fun D σ H h => by
  obtain ⟨_, _, _, _, _, _, q, _⟩ := h
  exact q
end
/-- a seam: what holds behind the first part -/
theorem wSeq_cut {a b : WS} {E : DEnds} {env : Slots} {S : Store} (P : Slots → Store → Prop) (h2 : ∀ env' S', P env' S' → b E env' S') (h1 : ∀ nx : Slots → Store → Prop, (∀ env' S', P env' S' → nx env' S') → a ⟨nx, E.rt⟩ env S) : wSeq a b E env S := h1 _ h2
theorem cut_to {l : List D} {k : Nat} : cutD l none (some (k : Int)) = l.take k := by
  unfold cutD
  simp [HT.sIx]
  rw [if_neg (by omega)]
  omega
end ND
set_option Elab.async false
set_option linter.all false
set_option maxRecDepth 100000
/-! NDC: objects of own classes: fields, methods, making. -/
namespace ND
open PySem PySem.Spec PyProof.Rows L2
def putD (f : Str) (d : D) : List (Str × D) → List (Str × D)
  | [] => [(f, d)]
  | (g, x) :: r => if g = f then (g, d) :: r else (g, x) :: putD f d r
section
variable {K : PySem.W.Frag} {B : Blk} {S : Store} {H : Hp}
theorem repF_get {f : Str} : ∀ {fs : List (Str × D)} {gs : List (Str × V)} {d : D}, RepF K B S H fs gs → fs.lookup f = some d → ∃ v, gs.lookup f = some v ∧ RepD K B S H d v
  | [], _, _, _, h => by cases h
  | (a, x) :: fs, gs, d, r, h => by
    cases r with
    | cons h1 h2 =>
      next q ys =>
      obtain ⟨b, y⟩ := q
      obtain ⟨e, rd⟩ := h1
      cases e
      rw [List.lookup_cons] at h ⊢
      by_cases hb : f == a
      · rw [hb] at h ⊢
        cases h
        exact ⟨y, rfl, rd⟩
      · rw [Bool.eq_false_iff.mpr hb] at h ⊢
        exact repF_get h2 h
theorem repF_none {f : Str} : ∀ {fs : List (Str × D)} {gs : List (Str × V)}, RepF K B S H fs gs → fs.lookup f = none → gs.lookup f = none
  | [], _, r, _ => by cases r; rfl
  | (a, x) :: fs, gs, r, h => by
    cases r with
    | cons h1 h2 =>
      next q ys =>
      obtain ⟨b, y⟩ := q
      obtain ⟨e, rd⟩ := h1
      cases e
      rw [List.lookup_cons] at h ⊢
      by_cases hb : f == a
      · rw [hb] at h
        cases h
      · rw [Bool.eq_false_iff.mpr hb] at h ⊢
        exact repF_none h2 h
theorem repF_len : ∀ {fs : List (Str × D)} {gs : List (Str × V)}, RepF K B S H fs gs → fs.length = gs.length
  | [], _, r => by cases r; rfl
  | _ :: fs, gs, r => by
    cases r with
    | cons h1 h2 => rw [List.length_cons, List.length_cons, repF_len h2]
theorem repF_put {f : Str} {d : D} {v : V} (rd : RepD K B S H d v) : ∀ {fs : List (Str × D)} {gs : List (Str × V)}, RepF K B S H fs gs → RepF K B S H (putD f d fs) (putF f v gs)
  | [], _, r => by cases r; exact .cons ⟨rfl, rd⟩ .nil
  | (a, x) :: fs, gs, r => by
    cases r with
    | cons h1 h2 =>
      next q ys =>
      obtain ⟨b, y⟩ := q
      obtain ⟨e, rx⟩ := h1
      cases e
      unfold putD putF
      by_cases hf : a = f
      · rw [if_pos hf, if_pos hf]; exact .cons ⟨rfl, rd⟩ h2
      · rw [if_neg hf, if_neg hf]; exact .cons ⟨rfl, rx⟩ (repF_put rd h2)
theorem RepF.grow' {S' : Store} {H' : Hp} (g : Grow S H S' H') : ∀ {fs : List (Str × D)} {gs : List (Str × V)}, RepF K B S H fs gs → RepF K B S' H' fs gs
  | [], _, r => by cases r; exact .nil
  | _ :: fs, gs, r => by
    cases r with
    | cons h1 h2 => exact .cons ⟨h1.1, RepD.grow g _ _ h1.2⟩ (RepF.grow' g h2)
end
section
variable {X : Cx}
/-- an object's field -/
def wFld (C : Addr) (f : Str) (t : WE) : WE := fun env S Q => t env S fun x S1 => ∃ a fs d, x = .ref a ∧ S1 a = some (.ins C fs) ∧ fs.lookup f = some d ∧ Q d S1
theorem ins_at {K : PySem.W.Frag} {B : Blk} {S : Store} {H : Hp} {a C : Addr} {fs : List (Str × D)} (rs : RepS K B S H) (e : S a = some (.ins C fs)) : ∃ dx gs, H a = some (.ins C dx gs) ∧ RepF K B S H fs gs := rs.cell a _ e
theorem de_fld {C : Addr} {f : Str} {e : Expr} {t : WE} {pos : Pos} (c : Cls X.K C) (n : NoAttr X.K C f) (he : DE X e t) (hb : attributeBase e f X.env (eval e X.env) = eval e X.env := by rfl) : DE X (.Attribute e f pos) (wFld C f t) :=
  PE.mono (pe_fld he hb) fun σ H Q ⟨B, env, S, Qd, re, rs, q, l⟩ => ⟨B, env, S, _, re, rs, q, fun S1 H1 x vx g1 rs1 rx ⟨a, fs, d, ex, ea, ef, q1⟩ => by
    subst ex
    rw [repD_ref] at rx
    obtain ⟨dx, gs, eh, rf⟩ := ins_at rs1 ea
    obtain ⟨v, ev, rd⟩ := repF_get rf ef
    exact ⟨a, C, dx, gs, v, rx, eh, c, n, ev, l S1 H1 d v g1 rs1 rd q1⟩⟩
/-- object.field = value -/
def wSetF (C : Addr) (f : Str) (to tv : WE) : WS := fun E env S => tv env S fun y S1 => to env S1 fun x S2 => ∃ a fs, x = .ref a ∧ S2 a = some (.ins C fs) ∧ fs.length < 1000 ∧ E.nx env (sput S2 a (.ins C (putD f y fs)))
theorem ds_fld {C : Addr} {f : Str} {o value : Expr} {to tv : WE} {pos pos' : Pos} (c : Cls X.K C) (n : NoAttr X.K C f) (ho : DE X o to) (hv : DE X value tv) (hs : swapsWith value (some (.Attribute o f pos')) pos.line X.env = pure false := by rfl) :
    DS X (.Assign [.Attribute o f pos'] value pos) (wSetF C f to tv) :=
  PS.mono (ps_fld ho hv hs) fun Dn σ H ⟨B, env, S, E, re, rs, q, ln, lr⟩ => ⟨B, env, S, _, re, rs, q, fun S1 H1 y vy g1 rs1 ry q1 => ⟨B, env, S1, _, re.grow g1, rs1, q1, fun S2 H2 x vx g2 rs2 rx ⟨a, fs, ex, ea, hl, q2⟩ => by
    subst ex
    rw [repD_ref] at rx
    obtain ⟨dx, gs, eh, rf⟩ := ins_at rs2 ea
    have ry2 := RepD.grow g2 _ _ ry
    refine ⟨a, C, dx, gs, rx, eh, c, n, by rw [← repF_len rf]; exact hl, ?_⟩
    obtain ⟨g, rs'⟩ := rs2.write (o := .ins C dx (putF f vy gs)) (c := .ins C (putD f y fs)) ea fun S' H' g e' => ⟨dx, _, e', (repF_put ry2 rf).grow' g⟩
    exact ln _ _ _ _ (g1.trans (g2.trans g)) rs' (re.grow (g1.trans (g2.trans g))) q2⟩⟩
/-- a method that may be called on objects of C: m its promise, the object first -/
structure MetD (P : Program) (w : World) (K : PySem.W.Frag) (mg : Str → Option Value) (base : Heap) (k : Nat) (C : Addr) (x : Str) (m : On) : Prop where
  ex : ∃ (f : Addr) (fd : FuncData) (ps : List Str), FnOk P w K mg base CX0 k f fd ps (spD K m) ∧ Cls K C ∧ Meth K C x f ∧ Binds K fd ps []
theorem MetD.up {P : Program} {w : World} {K : PySem.W.Frag} {mg : Str → Option Value} {base : Heap} {k j : Nat} {C : Addr} {x : Str} {m : On} (c : MetD P w K mg base k C x m) (h : k ≤ j) : MetD P w K mg base j C x m := by
  obtain ⟨f, fd, ps, F, a, b, c⟩ := c.ex
  exact ⟨f, fd, ps, F.mono h, a, b, c⟩
def wMeth (C : Addr) (x : Str) (m : On) (t : WE) (ta : WA) : WE := fun env S Q => t env S fun o S1 => ∃ a fs, o = .ref a ∧ S1 a = some (.ins C fs) ∧ fs.lookup x = none ∧ ta env S1 fun ds S2 => m (o :: ds) S2 Q
theorem de_meth {k : Nat} {C : Addr} {x : Str} {m : On} {o e : Expr} {es : List Expr} {t : WE} {ta : WA} {apos pos : Pos} {pl : Sem Bool} (c : MetD X.prog X.w X.K X.mg X.base k C x m) (hr : Room k X.A) (ho : DE X o t) (ha : DA X (e :: es) ta)
    (hst : starEach (e :: es) X.env = (false, eval e X.env) :: starEach es X.env := by rfl) (hpl : (backTo pos (starEach es X.env)).any (·.1) = false := by rfl)
    (ht : eval (.Call (.Attribute o x apos) (e :: es) [] pos) X.env = (do
      let ov ← eval o X.env
      standAt apos.atName
      let (f, first) ← holding [ov] (getMethod ov x pl)
      callWith pos f first (backTo pos (starEach (e :: es) X.env)) (backToKw pos (keywordEach [] X.env))) := by rfl) :
    DE X (.Call (.Attribute o x apos) (e :: es) [] pos) (wMeth C x m t ta) := by
  obtain ⟨f, fd, ps, F, hc, hm, hb⟩ := c.ex
  exact PE.mono (pe_meth (E := E0) ho hc hm F hr hb .nil pass0 ha (hst := hst) (hpl := hpl) (ht := ht)) fun σ H Q ⟨B, env, S, Qd, re, rs, q, l⟩ => ⟨B, env, S, _, re, rs, q, fun S1 H1 u vu g1 rs1 ru ⟨a, fs, eu, ea, en, q1⟩ => by
    subst eu
    have ru' := ru
    rw [repD_ref] at ru
    obtain ⟨dx, gs, eh, rf⟩ := ins_at rs1 ea
    exact ⟨a, dx, gs, ru, eh, repF_none rf en, B, env, S1, _, re.grow g1, rs1, q1, fun S2 H2 ds vs g2 rs2 rds q2 => ⟨B, .ref a :: ds, S2, Qd, repL_cons.mpr ⟨_, _, rfl, RepD.grow g2 _ _ ru', by rw [List.append_nil]; exact rds⟩, rs2, q2, l.grow (g1.trans g2)⟩⟩⟩
theorem de_meth0 {k : Nat} {C : Addr} {x : Str} {m : On} {o : Expr} {t : WE} {apos pos : Pos} {pl : Sem Bool} (c : MetD X.prog X.w X.K X.mg X.base k C x m) (hr : Room k X.A) (ho : DE X o t)
    (ht : eval (.Call (.Attribute o x apos) [] [] pos) X.env = (do
      let ov ← eval o X.env
      standAt apos.atName
      let (f, first) ← holding [ov] (getMethod ov x pl)
      callWith pos f first (backTo pos (starEach [] X.env)) (backToKw pos (keywordEach [] X.env))) := by rfl) :
    DE X (.Call (.Attribute o x apos) [] [] pos) (wMeth C x m t wNil) := by
  obtain ⟨f, fd, ps, F, hc, hm, hb⟩ := c.ex
  exact PE.mono (pe_meth0 (E := E0) ho hc hm F hr hb .nil pass0 (ht := ht)) fun σ H Q ⟨B, env, S, Qd, re, rs, q, l⟩ => ⟨B, env, S, _, re, rs, q, fun S1 H1 u vu g1 rs1 ru ⟨a, fs, eu, ea, en, q1⟩ => by
    subst eu
    have ru' := ru
    rw [repD_ref] at ru
    obtain ⟨dx, gs, eh, rf⟩ := ins_at rs1 ea
    exact ⟨a, dx, gs, ru, eh, repF_none rf en, B, [.ref a], S1, Qd, repL_cons.mpr ⟨_, _, rfl, ru', repL_nil.mpr rfl⟩, rs1, q1, l.grow g1⟩⟩
/-- a class that may be called: m its __init__'s promise -/
structure MakD (P : Program) (w : World) (K : PySem.W.Frag) (mg : Str → Option Value) (base : Heap) (k : Nat) (C : Addr) (x : Str) (m : On) : Prop where
  ex : ∃ (f : Addr) (fd : FuncData) (ps : List Str), FnOk P w K mg base CX0 k f fd ps (spD K m) ∧ Mk K C f ∧ mg x = some (.ref C) ∧ Binds K fd ps []
theorem MakD.up {P : Program} {w : World} {K : PySem.W.Frag} {mg : Str → Option Value} {base : Heap} {k j : Nat} {C : Addr} {x : Str} {m : On} (c : MakD P w K mg base k C x m) (h : k ≤ j) : MakD P w K mg base j C x m := by
  obtain ⟨f, fd, ps, F, a, b, c⟩ := c.ex
  exact ⟨f, fd, ps, F.mono h, a, b, c⟩
def wMake (C : Addr) (m : On) (ta : WA) : WE := fun env S Q => ta env S fun ds S1 => ∀ a, S1 a = none → m (.ref a :: ds) (sput S1 a (.ins C [])) fun v S2 => v = .non ∧ Q (.ref a) S2
theorem make_sp {K : PySem.W.Frag} {B : Blk} {S : Store} {H : Hp} {C a dx : Addr} {m : On} {ds : List D} {vs : List V} {Qd : D → Store → Prop} {Q : VK} {E : XK} (l : Lift K B S H Qd Q) (rs : RepS K B S H) (rds : RepL K B S H ds vs) (n1 : H a = none) (n2 : H dx = none) (ne : dx ≠ a)
    (q : ∀ a, S a = none → m (.ref a :: ds) (sput S a (.ins C [])) fun v S2 => v = .non ∧ Qd (.ref a) S2) : spD K m (.ref a :: (vs ++ [])) (upd (upd H dx (.own a)) a (.ins C dx [])) (fun v H2 => v = .non ∧ Q (.ref a) H2) E := by
  obtain ⟨g1, rs1, s1, _⟩ := rs.new (o := .own a) n2
  have n3 : upd H dx (.own a) a = none := by rw [upd_ne (fun e => ne e.symm)]; exact n1
  obtain ⟨g2, rs2⟩ := rs1.newCell (o := .ins C dx []) (c := .ins C []) n3 fun S' H' g e => ⟨dx, [], e, .nil⟩
  have sa : S a = none := (rs.new (o := .own a) n1).2.2.1
  refine ⟨B, .ref a :: ds, _, _, repL_cons.mpr ⟨_, _, rfl, repD_ref.mpr rfl, by rw [List.append_nil]; exact RepL.grow (g1.trans g2) _ _ rds⟩, rs2, q a sa, fun S' H' d v g' rs' rd qd => ?_⟩
  obtain ⟨e, qd⟩ := qd
  subst e
  rw [repD_non] at rd
  exact ⟨rd, l _ _ _ _ ((g1.trans g2).trans g') rs' (repD_ref.mpr rfl) qd⟩
theorem de_make {k : Nat} {C : Addr} {x : Str} {m : On} {e : Expr} {es : List Expr} {ta : WA} {p pos : Pos} (c : MakD X.prog X.w X.K X.mg X.base k C x m) (hr : Room (k + 1) X.A) (hg : Gl X x) (ha : DA X (e :: es) ta)
    (hdb : (x == ("__debug__" : Str)) = false := by decide) (he : starEach (e :: es) X.env = (false, eval e X.env) :: starEach es X.env := by rfl) (hpl : (backTo pos (starEach es X.env)).any (·.1) = false := by rfl) :
    DE X (.Call (.Name x p) (e :: es) [] pos) (wMake C m ta) := by
  obtain ⟨f, fd, ps, F, hM, hm, hb⟩ := c.ex
  exact PE.mono (pe_make (E := E0) hM F hr hg hm hb .nil pass0 ha (hdb := hdb) (he := he) (hpl := hpl)) fun σ H Q ⟨B, env, S, Qd, re, rs, q, l⟩ => ⟨B, env, S, _, re, rs, q, fun S1 H1 ds vs g1 rs1 rds q1 a dx n1 n2 ne => make_sp (l.grow g1) rs1 rds n1 n2 ne q1⟩
theorem de_make0 {k : Nat} {C : Addr} {x : Str} {m : On} {p pos : Pos} (c : MakD X.prog X.w X.K X.mg X.base k C x m) (hr : Room (k + 1) X.A) (hg : Gl X x) (hdb : (x == ("__debug__" : Str)) = false := by decide) :
    DE X (.Call (.Name x p) [] [] pos) (wMake C m wNil) := by
  obtain ⟨f, fd, ps, F, hM, hm, hb⟩ := c.ex
  exact PE.mono (pe_make0 (E := E0) hM F hr hg hm hb .nil pass0 (hdb := hdb)) fun σ H Q ⟨B, env, S, Qd, re, rs, q, l⟩ a dx n1 n2 ne => make_sp l rs (repL_nil.mpr rfl) n1 n2 ne q
end
end ND
set_option Elab.async false
set_option linter.all false
set_option maxRecDepth 100000
/-! NDP: the law's entry where // may be asked of numbers of any length. -/
namespace ND
open PySem PySem.Spec PyProof.Rows L2
theorem seerD {P : Program} {base : Heap} {qual : Str} {sc : Scope} {n : Nat} {f : Addr} {cd : Value} {A : Around} {outer : List Env} {k : Nat} (hN : base.NoSeer) (hT : P.given.tree = none) (hr : Room k (A.deeper (envOfC qual sc n f cd))) (hk : 32 ≤ k) (h1 : sc.isGenerator = false) (h2 : sc.isCoroutine = false) :
    Seer base P (A.deeper (envOfC qual sc n f cd)) (envOfC qual sc n f cd :: outer) :=
  ⟨hN, hT, by have := hr.dp; show _ + 100 < _; omega, _, _, rfl, h1, h2, rfl, rfl⟩
/-- the law asked at a heap in which nothing but the script is followed -/
theorem law_go {P : Program} {w : World} {K : PySem.W.Frag} {mg mb : Str → Option Value} {k : Nat} {fa sa : Addr} {fd : FuncData} {x : Str} {sp : Sp} {st : Shared} {vs : List Value} {ns : List Int}
    (hK : K.In st.heap) (hm : st.heap.Ns mainGlobals mg) (hb1 : st.heap.Ns builtinsNs mb) (hb2 : ∀ y : Str, y ≠ "__name__" → mb y = bootBuiltins y) (hlim : st.heap.NoLimit) (hsr : st.heap.NoSeer) (hgen : st.gens = #[])
    (hobj : st.heap.get? sa = some { cls := .type "list", data := .seq vs.toArray }) (hi : IntsAre vs ns) (hl : ns.length ≤ sizeLine) (hr : Room k callerA)
    (F : ∀ base : Heap, K.In base → base.Ns mainGlobals mg → base.NoSeer → FnOk P w K mg base CX0 k fa fd [x] sp) (hbind : ∀ (s : Shared) (u : Value), BindsTo s fd ⟨[u], []⟩ [(x, u)])
    (hsp : ∀ H : Hp, SqL K H sa (ns.map V.int) → sp [.ref sa] H (fun v _ => v = .bl true) fun _ _ _ => False) :
    codeAny (model P w) callerA (.call (.ref fa) ⟨[.ref sa], []⟩) (fun r t => r = .ok (.ret (.bool true)) ∧ OldK st.heap t.heap ∧ t.os = st.os ∧ AllBare t.gens) st := by
  have hv := vals_ints hi
  have hlen := hi.length
  have main : ∀ H : Hp, (∀ c u, H c = some u → c = sa ∧ K.lookup sa = none ∧ ∃ o xs, u = .frz o (.lst xs)) → SqL K H sa (ns.map V.int) → HOk P w H st.heap →
      codeAny (model P w) callerA (.call (.ref fa) ⟨[.ref sa], []⟩) (fun r t => r = .ok (.ret (.bool true)) ∧ OldK st.heap t.heap ∧ t.os = st.os ∧ AllBare t.gens) st := by
    intro H only hS hok
    -- what is no list of the script's stays in the base
    have stay : ∀ c o, st.heap.get? c = some o → o ≠ { cls := .type "list", data := .seq vs.toArray } ∨ K.lookup c ≠ none → (hidT st.heap H).get? c = some o := fun c o e hne => by
      refine hidT_get e ?_
      cases q : H c with
      | none => rfl
      | some u =>
        obtain ⟨rfl, h2, _⟩ := only c u q
        rcases hne with hne | hne
        · exact absurd (Option.some.inj (e.symm.trans hobj)) hne
        · exact absurd h2 hne
    have nss : ∀ c m, st.heap.Ns c m → (hidT st.heap H).Ns c m := fun c m ⟨o, es, ep, e, d, r⟩ => ⟨o, es, ep, stay c o e (.inl fun z => by rw [z] at d; cases d), d, r⟩
    have inB : K.In (hidT st.heap H) := fun c o e => stay c o (hK c o e) (.inr (by rw [e]; simp))
    have lim : (hidT st.heap H).NoLimit := by
      obtain ⟨mc, a1, a2⟩ := hlim
      exact ⟨mc, nss _ _ a1, a2⟩
    have seer : (hidT st.heap H).NoSeer := by
      obtain ⟨⟨m1, a1, a2, a3⟩, ⟨m2, b1, b2⟩, ⟨m3, c1, c2⟩, ⟨m4, bm, ob, d1, d2, d3, d4, d5⟩⟩ := hsr
      exact ⟨⟨m1, nss _ _ a1, a2, a3⟩, ⟨m2, nss _ _ b1, b2⟩, ⟨m3, nss _ _ c1, c2⟩, ⟨m4, bm, ob, nss _ _ d1, d2, stay bm ob d3 (.inl fun z => by rw [z] at d4; exact absurd (show Value.type "list" = Value.type "module" from d4) (by decide +kernel)), d4, d5⟩⟩
    have env : Env0 P w K mg (hidT st.heap H) callerA [] st H :=
      ⟨rfl, ⟨inB, nss _ _ hm, ⟨mb, nss _ _ hb1, hb2⟩, lim⟩, fun _ _ e => of_hidT e, Nat.le_of_eq (hidT_size _ _), trivial, fun c hc => absurd (show c ∈ ([] : List Addr) from hc) (by simp), hok, .of_eq hgen⟩
    have ran := (F _ inB (nss _ _ hm) seer).run callerA [] st H ⟨[.ref sa], []⟩ [.ref sa] [.ref sa] _ _ hr env (hbind st (.ref sa)) (.cons rfl .nil) (hsp H hS)
    refine codeAny_mono ran fun r t h => ?_
    match r, h with
    | .error e, h => exact False.elim h
    | .ok .next, h => exact False.elim h
    | .ok .brk, h => exact False.elim h
    | .ok .cont, h => exact False.elim h
    | .ok (.ret u), h =>
      obtain ⟨v, H2, hos, hbare, un, hok2, hrel, hq⟩ := h
      have hq2 : v = .bl true := hq
      subst hq2
      have hu : u = Value.bool true := hrel
      subst hu
      refine ⟨rfl, OldK.of_keep fun c o e => ?_, hos, hbare⟩
      cases q : H c with
      | none => exact un.keep c o e q (fun z => absurd (show c ∈ ([] : List Addr) from z) (by simp)) (by simp)
      | some u =>
        obtain ⟨rfl, _, ob, xs, rfl⟩ := only c u q
        obtain ⟨e1, _⟩ := hok _ _ q
        obtain ⟨e2, _⟩ := hok2 _ _ (un.frzs _ ob _ q)
        rw [e] at e1
        cases e1
        exact e2
  by_cases hk : K.lookup sa = none
  · refine main (fun c => if c = sa then some (.frz { cls := .type "list", data := .seq vs.toArray } (.lst (ns.map V.int))) else none) (fun c u z => ?_) (.inl (.inr ⟨_, if_pos rfl⟩)) fun c u z => ?_
    · by_cases hc : c = sa
      · have z2 := (if_pos hc).symm.trans z
        cases z2
        exact ⟨hc, hk, _, _, rfl⟩
      · exact nomatch (if_neg hc).symm.trans z
    · by_cases hc : c = sa
      · have z2 := (if_pos hc).symm.trans z
        cases z2
        subst hc
        exact ⟨hobj, by rw [List.length_map]; exact hl, vs, _, hv, hobj⟩
      · exact nomatch (if_neg hc).symm.trans z
  · cases q : K.lookup sa with
    | none => exact absurd q hk
    | some o =>
      have e := (hK sa o q).symm.trans hobj
      cases e
      exact main (fun _ => none) (fun c u z => nomatch z) (.inr ⟨_, vs.toArray, _, q, rfl, rfl, rfl, by rw [List.size_toArray, hlen]; exact hl, by simpa using hv⟩) fun c u z => nomatch z
theorem walkP {l : PySem.W.OpenLaw} {n k : Nat} {q : Program} {loose : List Str} {XP : (Str → Option Value) → Heap → Prop} {YP : World → Heap → Prop} {d : DefRec} {K : Params → PySem.W.Frag} {sp : World → Sp} {x : Str}
    (hn : l.most = some n) (hn2 : n ≤ sizeLine) (hdf : d.params.defaults = []) (hr : Room k callerA) (hin : importsNone q = true) (hY : ∀ (w : World) (h : Heap), YP w h → (K w.params).In h)
    (F : ∀ (w : World) (mg : Str → Option Value) (fa : Addr) (h : Heap), (K w.params).In h → h.Ns mainGlobals mg → mg d.name = some (.ref fa) →
      ∃ fd : FuncData, (∀ (s : Shared) (u : Value), BindsTo s fd ⟨[u], []⟩ [(x, u)]) ∧ ∀ base : Heap, (K w.params).In base → base.Ns mainGlobals mg → base.NoSeer → FnOk l.prog w (K w.params) mg base CX0 k fa fd [x] (sp w))
    (hsp : ∀ (w : World) (H : Hp) (a : Addr) (ns : List Int), ns.length ≤ n → SqL (K w.params) H a (ns.map V.int) → sp w [.ref a] H (fun v _ => v = .bl true) fun _ _ _ => False) :
    PySem.W.WalkO q loose XP YP l.row.toRowW d [] (fun f vs => PySem.call f vs) := by
  refine Att.attach_call hn hdf fun w _ st mg mb fa _ _ _ _ sa _ ns G Y _ _ _ hmg hobj hints hlen hgen => ?_
  obtain ⟨fd, hb, hF⟩ := F w mg fa _ (hY w _ Y) G.T.g hmg
  exact law_go (hY w _ Y) G.T.g G.T.b G.T.builtins G.T.nolimit (G.T.seer hin) hgen hobj hints (Nat.le_trans hlen hn2) hr hF hb fun H hS => hsp w H sa ns hlen hS
/-! ### range(..) made a list or a tuple -/
theorem repL_rg {K : PySem.W.Frag} {B : Blk} {S : Store} {H : Hp} {a b : Int} : RepL K B S H (rngD a b) (rgV a b) := by
  have e1 : rngD a b = ((List.range (b - a).toNat).map fun k : Nat => a + (k : Int)).map D.int := by unfold rngD; rw [List.map_map]; rfl
  have e2 : rgV a b = ((List.range (b - a).toNat).map fun k : Nat => a + (k : Int)).map V.int := by unfold rgV; rw [List.map_map]; rfl
  rw [e1, e2]
  exact repL_ints
def wRgD (t : WE) (k : Int → Store → Prop) (env : Slots) (S : Store) : Prop := t env S fun d S1 => match d with | .int n => RgOk 0 n ∧ k n S1 | _ => False
def wTupRg (t : WE) : WE := fun env S Q => wRgD t (fun n S1 => Q (.tup (rngD 0 n)) S1) env S
def wLstRg (t : WE) : WE := fun env S Q => wRgD t (fun n S1 => Q (.lst (rngD 0 n)) S1) env S
def wLstRgM (t : WE) : WE := fun env S Q => wRgD t (fun n S1 => ∀ p, S1 p = none → Q (.ref p) (sput S1 p (.lst (rngD 0 n)))) env S
section
variable {X : Cx} {a : Expr} {t : WE} {p p1 pos pos1 : Pos}
theorem de_tupRg (hc : X.calm = true) (hg : Gl X "tuple") (hm : X.mg "tuple" = none) (hgr : Gl X "range") (hmr : X.mg "range" = none) (ha : DE X a t) (na : starEach [a] X.env = (false, eval a X.env) :: starEach [] X.env := by rfl)
    (nb : starEach [.Call (.Name "range" p1) [a] [] pos1] X.env = (false, eval (.Call (.Name "range" p1) [a] [] pos1) X.env) :: starEach [] X.env := by rfl) : DE X (.Call (.Name "tuple" p) [.Call (.Name "range" p1) [a] [] pos1] [] pos) (wTupRg t) :=
  PE.mono (pe_tupRg hc hg hm (prg_1 hgr hmr ha na) nb) fun σ H Q ⟨B, env, S, Qd, re, rs, q, l⟩ => ⟨B, env, S, _, re, rs, q, fun S1 H1 x vx g1 rs1 rx q1 => by
    cases x with
    | int n => rw [repD_int] at rx; exact ⟨n, rx, q1.1, fun z hz => (l.grow g1).tup rs1 repL_rg q1.2 hz⟩
    | _ => exact False.elim q1⟩
theorem de_lstRg (hc : X.calm = true) (hg : Gl X "list") (hm : X.mg "list" = none) (hgr : Gl X "range") (hmr : X.mg "range" = none) (ha : DE X a t) (na : starEach [a] X.env = (false, eval a X.env) :: starEach [] X.env := by rfl)
    (nb : starEach [.Call (.Name "range" p1) [a] [] pos1] X.env = (false, eval (.Call (.Name "range" p1) [a] [] pos1) X.env) :: starEach [] X.env := by rfl) : DE X (.Call (.Name "list" p) [.Call (.Name "range" p1) [a] [] pos1] [] pos) (wLstRg t) :=
  PE.mono (pe_listRg hc hg hm (prg_1 hgr hmr ha na) nb) fun σ H Q ⟨B, env, S, Qd, re, rs, q, l⟩ => ⟨B, env, S, _, re, rs, q, fun S1 H1 x vx g1 rs1 rx q1 => by
    cases x with
    | int n => rw [repD_int] at rx; exact ⟨n, rx, q1.1, fun z hz => (l.grow g1).lst rs1 repL_rg q1.2 hz⟩
    | _ => exact False.elim q1⟩
theorem de_lstRgM (hc : X.calm = true) (hg : Gl X "list") (hm : X.mg "list" = none) (hgr : Gl X "range") (hmr : X.mg "range" = none) (ha : DE X a t) (na : starEach [a] X.env = (false, eval a X.env) :: starEach [] X.env := by rfl)
    (nb : starEach [.Call (.Name "range" p1) [a] [] pos1] X.env = (false, eval (.Call (.Name "range" p1) [a] [] pos1) X.env) :: starEach [] X.env := by rfl) : DE X (.Call (.Name "list" p) [.Call (.Name "range" p1) [a] [] pos1] [] pos) (wLstRgM t) :=
  PE.mono (pe_listRg hc hg hm (prg_1 hgr hmr ha na) nb) fun σ H Q ⟨B, env, S, Qd, re, rs, q, l⟩ => ⟨B, env, S, _, re, rs, q, fun S1 H1 x vx g1 rs1 rx q1 => by
    cases x with
    | int n => rw [repD_int] at rx; exact ⟨n, rx, q1.1, fun z hz => (l.grow g1).cell rs1 repL_rg q1.2 hz⟩
    | _ => exact False.elim q1⟩
end
/-! ### is True, is False -/
def oIsB (neg : Bool) : O2 := fun x y S Q => match x, y with | .bl a, .bl b => Q (.bl (nb neg (decide (a = b)))) S | _, _ => False
theorem od_isB {X : Cx} : OD X (compareOp .Is) (oIsB false) := OD.of op_is_bl fun B S H x y vx vy Qd Q rs rx ry q l => by
  cases x with
  | bl a => cases y with
    | bl b =>
      have q' : Qd (.bl (nb false (decide (a = b)))) S := q
      exact ⟨a, b, repD_bl.mp rx, repD_bl.mp ry, l S H _ _ .refl rs (repD_bl.mpr rfl) q'⟩
    | _ => exact False.elim q
  | _ => exact False.elim q
theorem od_isnotB {X : Cx} : OD X (compareOp .IsNot) (oIsB true) := OD.of op_isnot_bl fun B S H x y vx vy Qd Q rs rx ry q l => by
  cases x with
  | bl a => cases y with
    | bl b =>
      have q' : Qd (.bl (nb true (decide (a = b)))) S := q
      exact ⟨a, b, repD_bl.mp rx, repD_bl.mp ry, l S H _ _ .refl rs (repD_bl.mpr rfl) q'⟩
    | _ => exact False.elim q
  | _ => exact False.elim q
end ND
set_option Elab.async false
set_option linter.all false
set_option maxRecDepth 100000
namespace ND
open PySem PySem.Spec PyProof.Rows L2
/-! ### M1: determinants by their expansion, Cramer's rule -/
abbrev Vec := Nat → Int
def ex (i : Nat) : List Vec → (List Vec → Int) → Int
  | [], _ => 0
  | v :: vs, G => v i * G vs - ex i vs (fun ws => G (v :: ws))
def dt : List Vec → List Nat → Int
  | [], [] => 1
  | _ :: _, [] => 0
  | cols, i :: P => ex i cols (fun ws => dt ws P)
theorem dt_cons (cols : List Vec) (i : Nat) (P : List Nat) : dt cols (i :: P) = ex i cols (fun ws => dt ws P) := by cases cols <;> rfl
theorem ex_cons (i : Nat) (v : Vec) (vs : List Vec) (G : List Vec → Int) : ex i (v :: vs) G = v i * G vs - ex i vs (fun ws => G (v :: ws)) := rfl
theorem ex_zero (i : Nat) : ∀ (vs : List Vec) (G : List Vec → Int), (∀ ws, G ws = 0) → ex i vs G = 0
  | [], _, _ => rfl
  | v :: vs, G, h => by rw [ex_cons, h, ex_zero i vs _ (fun ws => h _)]; simp
theorem ex_add (i : Nat) : ∀ (vs : List Vec) (G H : List Vec → Int), ex i vs (fun ws => G ws + H ws) = ex i vs G + ex i vs H
  | [], _, _ => rfl
  | v :: vs, G, H => by
    rw [ex_cons, ex_cons, ex_cons, ex_add i vs (fun ws => G (v :: ws)) (fun ws => H (v :: ws)), Int.mul_add]
    omega
theorem ex_smul (i : Nat) (c : Int) : ∀ (vs : List Vec) (G : List Vec → Int), ex i vs (fun ws => c * G ws) = c * ex i vs G
  | [], _ => by show 0 = c * 0; rw [Int.mul_zero]
  | v :: vs, G => by
    rw [ex_cons, ex_cons, ex_smul i c vs (fun ws => G (v :: ws)), Int.mul_sub]
    rw [show v i * (c * G vs) = c * (v i * G vs) by rw [← Int.mul_assoc, ← Int.mul_assoc, Int.mul_comm (v i) c]]
theorem ex_neg (i : Nat) (vs : List Vec) (G : List Vec → Int) : ex i vs (fun ws => - G ws) = - ex i vs G := by
  have := ex_smul i (-1) vs G
  simpa using this
theorem ex_sub (i : Nat) (vs : List Vec) (G H : List Vec → Int) : ex i vs (fun ws => G ws - H ws) = ex i vs G - ex i vs H := by
  have e : (fun ws => G ws - H ws) = fun ws => G ws + - H ws := by funext ws; omega
  rw [e, ex_add, ex_neg]
  omega
theorem ex_anti (i j : Nat) : ∀ (vs : List Vec) (G : List Vec → Int), ex i vs (fun ws => ex j ws G) + ex j vs (fun ws => ex i ws G) = 0
  | [], _ => rfl
  | v :: vs, G => by
    have ih := ex_anti i j vs (fun ws => G (v :: ws))
    rw [ex_cons, ex_cons]
    have e1 : ex i vs (fun ws => ex j (v :: ws) G) = v j * ex i vs G - ex i vs (fun ws => ex j ws fun us => G (v :: us)) := by
      rw [← ex_smul, ← ex_sub]; rfl
    have e2 : ex j vs (fun ws => ex i (v :: ws) G) = v i * ex j vs G - ex j vs (fun ws => ex i ws fun us => G (v :: us)) := by
      rw [← ex_smul, ← ex_sub]; rfl
    rw [e1, e2]
    omega
theorem dt_swap (cols : List Vec) (i j : Nat) (P : List Nat) : dt cols (i :: j :: P) = - dt cols (j :: i :: P) := by
  have := ex_anti i j cols (fun ws => dt ws P)
  rw [dt_cons, dt_cons]
  have e1 : (fun ws => dt ws (j :: P)) = fun ws => ex j ws (fun us => dt us P) := by funext ws; exact dt_cons ws j P
  have e2 : (fun ws => dt ws (i :: P)) = fun ws => ex i ws (fun us => dt us P) := by funext ws; exact dt_cons ws i P
  rw [e1, e2]
  omega
theorem dt_rep (i : Nat) : ∀ (P : List Nat) (cols : List Vec), i ∈ P → dt cols (i :: P) = 0
  | [], _, h => by cases h
  | j :: P, cols, h => by
    by_cases e : i = j
    · subst e
      have := dt_swap cols i i P
      omega
    · have hi : i ∈ P := by
        rcases List.mem_cons.mp h with h | h
        · exact absurd h e
        · exact h
      rw [dt_swap, dt_cons, ex_zero j cols _ (fun ws => dt_rep i P ws hi)]
      rfl
/-! ### columns -/
def Alt (G : List Vec → Int) : Prop := ∀ pre v post, G (pre ++ v :: v :: post) = 0
def Lin (G : List Vec → Int) : Prop := ∀ pre v w (a b : Int) post, G (pre ++ (fun i => a * v i + b * w i) :: post) = a * G (pre ++ v :: post) + b * G (pre ++ w :: post)
def Same (v w : Vec) (G : List Vec → Int) : Prop := ∀ pre post, G (pre ++ v :: post) = G (pre ++ w :: post)
theorem Alt.cons {G : List Vec → Int} (h : Alt G) (u : Vec) : Alt (fun ws => G (u :: ws)) := fun pre v post => h (u :: pre) v post
theorem Lin.cons {G : List Vec → Int} (h : Lin G) (u : Vec) : Lin (fun ws => G (u :: ws)) := fun pre v w a b post => h (u :: pre) v w a b post
theorem Same.cons {v w : Vec} {G : List Vec → Int} (h : Same v w G) (u : Vec) : Same v w (fun ws => G (u :: ws)) := fun pre post => h (u :: pre) post
theorem ex_alt (i : Nat) : ∀ (pre : List Vec) {G : List Vec → Int}, Alt G → ∀ v post, ex i (pre ++ v :: v :: post) G = 0
  | [], G, h, v, post => by
    show ex i (v :: v :: post) G = 0
    rw [ex_cons, ex_cons, ex_zero i post (fun ws => G (v :: v :: ws)) (fun ws => h [] v ws)]
    omega
  | u :: pre, G, h, v, post => by
    show ex i (u :: (pre ++ v :: v :: post)) G = 0
    rw [ex_cons, h pre v post, ex_alt i pre (h.cons u) v post]
    simp
theorem dt_alt : ∀ P, Alt (fun cols => dt cols P)
  | [] => fun pre v post => by cases pre <;> rfl
  | i :: P => fun pre v post => by
    show dt _ _ = 0
    rw [dt_cons]
    exact ex_alt i pre (dt_alt P) v post
theorem ex_lin (i : Nat) : ∀ (pre : List Vec) {G : List Vec → Int}, Lin G → ∀ v w (a b : Int) post, ex i (pre ++ (fun i => a * v i + b * w i) :: post) G = a * ex i (pre ++ v :: post) G + b * ex i (pre ++ w :: post) G
  | [], G, h, v, w, a, b, post => by
    show ex i ((fun i => a * v i + b * w i) :: post) G = a * ex i (v :: post) G + b * ex i (w :: post) G
    rw [ex_cons, ex_cons, ex_cons]
    have e : (fun ws => G ((fun i => a * v i + b * w i) :: ws)) = fun ws => a * G (v :: ws) + b * G (w :: ws) := by funext ws; exact h [] v w a b ws
    rw [e, ex_add i post (fun ws => a * G (v :: ws)) (fun ws => b * G (w :: ws)), ex_smul, ex_smul]
    grind
  | u :: pre, G, h, v, w, a, b, post => by
    show ex i (u :: (pre ++ (fun i => a * v i + b * w i) :: post)) G = a * ex i (u :: (pre ++ v :: post)) G + b * ex i (u :: (pre ++ w :: post)) G
    rw [ex_cons, ex_cons, ex_cons, h pre v w a b post, ex_lin i pre (h.cons u) v w a b post]
    grind
theorem dt_lin : ∀ P, Lin (fun cols => dt cols P)
  | [] => fun pre v w a b post => by
    have z : ∀ x : Vec, dt (pre ++ x :: post) [] = 0 := fun x => by cases pre <;> rfl
    show dt _ _ = a * dt _ _ + b * dt _ _
    rw [z, z, z]
    simp
  | i :: P => fun pre v w a b post => by
    show dt _ _ = a * dt _ _ + b * dt _ _
    rw [dt_cons, dt_cons, dt_cons]
    exact ex_lin i pre (dt_lin P) v w a b post
theorem ex_same (i : Nat) {v w : Vec} (hi : v i = w i) : ∀ (pre : List Vec) {G : List Vec → Int}, Same v w G → ∀ post, ex i (pre ++ v :: post) G = ex i (pre ++ w :: post) G
  | [], G, h, post => by
    show ex i (v :: post) G = ex i (w :: post) G
    rw [ex_cons, ex_cons, hi]
    have e : (fun ws => G (v :: ws)) = fun ws => G (w :: ws) := by funext ws; exact h [] ws
    rw [e]
  | u :: pre, G, h, post => by
    show ex i (u :: (pre ++ v :: post)) G = ex i (u :: (pre ++ w :: post)) G
    rw [ex_cons, ex_cons, h pre post, ex_same i hi pre (h.cons u) post]
theorem dt_same {v w : Vec} : ∀ P, (∀ i ∈ P, v i = w i) → Same v w (fun cols => dt cols P)
  | [], _ => fun pre post => by cases pre <;> rfl
  | i :: P, h => fun pre post => by
    show dt _ _ = dt _ _
    rw [dt_cons, dt_cons]
    exact ex_same i (h i (List.mem_cons_self ..)) pre (dt_same P fun j hj => h j (List.mem_cons_of_mem _ hj)) post
section
variable {G : List Vec → Int} (ha : Alt G) (hl : Lin G)
include ha hl
theorem col_swap (pre : List Vec) (v w : Vec) (post : List Vec) : G (pre ++ v :: w :: post) = - G (pre ++ w :: v :: post) := by
  have h := ha pre (fun i => 1 * v i + 1 * w i) post
  rw [hl pre v w 1 1] at h
  have e : ∀ u : Vec, G (pre ++ u :: (fun i => 1 * v i + 1 * w i) :: post) = G (pre ++ u :: v :: post) + G (pre ++ u :: w :: post) := fun u => by
    have := hl (pre ++ [u]) v w 1 1 post
    simp only [List.append_assoc, List.singleton_append, Int.one_mul] at this
    simpa using this
  rw [e, e] at h
  have z1 := ha pre v post
  have z2 := ha pre w post
  omega
theorem col_rep_r (v : Vec) : ∀ (mid : List Vec) (pre post : List Vec), G (pre ++ v :: (mid ++ v :: post)) = 0
  | [], pre, post => ha pre v post
  | u :: mid, pre, post => by
    show G (pre ++ v :: u :: (mid ++ v :: post)) = 0
    rw [col_swap ha hl pre v u]
    have := col_rep_r v mid (pre ++ [u]) post
    rw [List.append_assoc] at this
    show - G (pre ++ ([u] ++ v :: (mid ++ v :: post))) = 0
    rw [this]
    rfl
theorem col_rep {pre post : List Vec} {l : Vec} (h : l ∈ pre ∨ l ∈ post) : G (pre ++ l :: post) = 0 := by
  rcases h with h | h
  · obtain ⟨a, b, rfl⟩ := List.append_of_mem h
    have := col_rep_r ha hl l b a post
    rw [List.append_assoc]
    exact this
  · obtain ⟨a, b, rfl⟩ := List.append_of_mem h
    exact col_rep_r ha hl l a pre b
end
def comb : List Int → List Vec → Vec
  | x :: xs, l :: ls => fun i => x * l i + comb xs ls i
  | _, _ => fun _ => 0
theorem comb_cons (x : Int) (xs : List Int) (l : Vec) (ls : List Vec) (i : Nat) : comb (x :: xs) (l :: ls) i = x * l i + comb xs ls i := rfl
theorem comb_app : ∀ (xp : List Int) (pre : List Vec) (xs : List Int) (ls : List Vec) (i : Nat), xp.length = pre.length → comb (xp ++ xs) (pre ++ ls) i = comb xp pre i + comb xs ls i
  | [], [], xs, ls, i, _ => by show comb xs ls i = 0 + comb xs ls i; omega
  | [], _ :: _, _, _, _, h => by simp at h
  | _ :: _, [], _, _, _, h => by simp at h
  | x :: xp, l :: pre, xs, ls, i, h => by
    show x * l i + comb (xp ++ xs) (pre ++ ls) i = x * l i + comb xp pre i + comb xs ls i
    rw [comb_app xp pre xs ls i (by simpa using h)]
    omega
theorem col_zero {G : List Vec → Int} (hl : Lin G) (pre post : List Vec) : G (pre ++ (fun _ => 0) :: post) = 0 := by
  have := hl pre (fun _ => 0) (fun _ => 0) 0 0 post
  simpa using this
theorem col_comb {G : List Vec → Int} (hl : Lin G) (pre post : List Vec) : ∀ (xs : List Int) (ls : List Vec), (∀ l ∈ ls, G (pre ++ l :: post) = 0) → G (pre ++ comb xs ls :: post) = 0
  | [], ls, _ => by
    have : comb [] ls = fun _ => 0 := by cases ls <;> rfl
    rw [this]; exact col_zero hl pre post
  | x :: xs, [], _ => col_zero hl pre post
  | x :: xs, l :: ls, h => by
    have e : comb (x :: xs) (l :: ls) = fun i => x * l i + 1 * comb xs ls i := by funext i; rw [comb_cons, Int.one_mul]
    rw [e, hl, h l (List.mem_cons_self ..), col_comb hl pre post xs ls fun m hm => h m (List.mem_cons_of_mem _ hm)]
    simp
/-- Cramer's rule for one column -/
theorem cramer {P : List Nat} {pre post : List Vec} {l v : Vec} {xp xq : List Int} {x m : Int} (hp : xp.length = pre.length) (h : ∀ i ∈ P, comb (xp ++ x :: xq) (pre ++ l :: post) i = m * v i) :
    m * dt (pre ++ v :: post) P = x * dt (pre ++ l :: post) P := by
  have ha := dt_alt P
  have hl := dt_lin P
  have e1 : dt (pre ++ (fun i => m * v i + 0 * v i) :: post) P = m * dt (pre ++ v :: post) P + 0 * dt (pre ++ v :: post) P := hl pre v v m 0 post
  have e2 : dt (pre ++ (fun i => m * v i + 0 * v i) :: post) P = dt (pre ++ (fun i => 1 * comb xp pre i + 1 * (x * l i + 1 * comb xq post i)) :: post) P := by
    refine dt_same P (fun i hi => ?_) pre post
    have := h i hi
    rw [comb_app xp pre _ _ i hp, comb_cons] at this
    show m * v i + 0 * v i = 1 * comb xp pre i + 1 * (x * l i + 1 * comb xq post i)
    omega
  have e3 : dt (pre ++ (fun i => 1 * comb xp pre i + 1 * (x * l i + 1 * comb xq post i)) :: post) P = 1 * dt (pre ++ comb xp pre :: post) P + 1 * dt (pre ++ (fun i => x * l i + 1 * comb xq post i) :: post) P := hl pre (comb xp pre) (fun i => x * l i + 1 * comb xq post i) 1 1 post
  have e4 : dt (pre ++ (fun i => x * l i + 1 * comb xq post i) :: post) P = x * dt (pre ++ l :: post) P + 1 * dt (pre ++ comb xq post :: post) P := hl pre l (comb xq post) x 1 post
  have z1 : dt (pre ++ comb xp pre :: post) P = 0 := col_comb hl pre post xp pre fun u hu => col_rep ha hl (.inl hu)
  have z2 : dt (pre ++ comb xq post :: post) P = 0 := col_comb hl pre post xq post fun u hu => col_rep ha hl (.inr hu)
  rw [e3, e4, z1, z2] at e2
  omega
def reps (v : Vec) : List Vec → (List Vec → Int) → List Int
  | [], _ => []
  | u :: us, G => G (v :: us) :: reps v us (fun ws => G (u :: ws))
theorem reps_len (v : Vec) : ∀ (L : List Vec) (G : List Vec → Int), (reps v L G).length = L.length
  | [], _ => rfl
  | u :: us, G => by show _ + 1 = _ + 1; rw [reps_len v us]
theorem ex_reps (p : Nat) (v : Vec) : ∀ (L : List Vec) {G : List Vec → Int}, Alt G → Lin G → ex p L (fun ws => G (v :: ws)) = comb (reps v L G) L p
  | [], G, _, _ => rfl
  | u :: us, G, ha, hl => by
    have ih := ex_reps p v us (ha.cons u) (hl.cons u)
    show u p * G (v :: us) - ex p us (fun ws => G (v :: u :: ws)) = G (v :: us) * u p + comb (reps v us (fun ws => G (u :: ws))) us p
    have e : (fun ws => G (v :: u :: ws)) = fun ws => - G (u :: v :: ws) := by funext ws; exact col_swap ha hl [] v u ws
    rw [e, ex_neg, ← ih, Int.mul_comm (u p)]
    omega
/-- Cramer's rule for all columns -/
theorem cramers {P : List Nat} {v : Vec} {m : Int} : ∀ (L : List Vec) (xs : List Int) (pre : List Vec) (xp : List Int), xp.length = pre.length → xs.length = L.length → (∀ i ∈ P, comb (xp ++ xs) (pre ++ L) i = m * v i) →
    (reps v L (fun ws => dt (pre ++ ws) P)).map (m * ·) = xs.map (· * dt (pre ++ L) P)
  | [], [], _, _, _, _, _ => rfl
  | [], _ :: _, _, _, _, h, _ => by simp at h
  | _ :: _, [], _, _, _, h, _ => by simp at h
  | u :: us, x :: xs, pre, xp, h1, h2, h => by
    have hd := cramer (v := v) (m := m) h1 h
    have ih := cramers us xs (pre ++ [u]) (xp ++ [x]) (by simp [h1]) (by simpa using h2) (by simpa using h)
    have e : (fun ws => dt (pre ++ [u] ++ ws) P) = fun ws => dt (pre ++ u :: ws) P := by funext ws; rw [List.append_assoc]; rfl
    rw [e, List.append_assoc] at ih
    show m * dt (pre ++ v :: us) P :: (reps v us (fun ws => dt (pre ++ u :: ws) P)).map (m * ·) = x * dt (pre ++ u :: us) P :: xs.map (· * dt (pre ++ u :: us) P)
    rw [hd]
    exact congrArg _ ih

end ND
set_option Elab.async false
set_option linter.all false
set_option maxRecDepth 100000
namespace ND
open PySem PySem.Spec PyProof.Rows L2
/-! ### M2: elimination in whole numbers -/
section
variable (A : Nat → Nat → Int)
def colV (c : Nat) : Vec := fun i => A i c
def hd (P L : List Nat) : Int := dt (L.map (colV A)) P
def nx (P L : List Nat) (i c : Nat) : Int := dt (colV A c :: L.map (colV A)) (i :: P)
def lx (P L : List Nat) (c : Nat) : List Int := reps (colV A c) (L.map (colV A)) (fun ws => dt ws P)
end
section
variable {A : Nat → Nat → Int} {P L : List Nat}
theorem lx_len (c : Nat) : (lx A P L c).length = L.length := by unfold lx; rw [reps_len, List.length_map]
theorem nx_eq (i c : Nat) : nx A P L i c = hd A P L * A i c - comb (lx A P L c) (L.map (colV A)) i := by
  unfold nx
  rw [dt_cons, ex_cons, ex_reps i (colV A c) (L.map (colV A)) (dt_alt P) (dt_lin P)]
  show A i c * hd A P L - _ = _
  rw [Int.mul_comm (A i c)]
  rfl
theorem nx_zero {i : Nat} (c : Nat) (h : i ∈ P) : nx A P L i c = 0 := dt_rep i P _ h
theorem lx_eq {i : Nat} (c : Nat) (h : i ∈ P) : comb (lx A P L c) (L.map (colV A)) i = hd A P L * A i c := by
  have h1 := nx_eq (A := A) (P := P) (L := L) i c
  rw [nx_zero c h] at h1
  omega
theorem comb_mix (s t : Int) : ∀ (xs ys : List Int) (ls : List Vec) (i : Nat), xs.length = ls.length → ys.length = ls.length → comb (List.zipWith (fun a b => s * a - b * t) xs ys) ls i = s * comb xs ls i - t * comb ys ls i
  | [], [], [], i, _, _ => by show 0 = s * 0 - t * 0; simp
  | x :: xs, y :: ys, l :: ls, i, h1, h2 => by
    have ih := comb_mix s t xs ys ls i (by simpa using h1) (by simpa using h2)
    show (s * x - y * t) * l i + comb (List.zipWith (fun a b => s * a - b * t) xs ys) ls i = s * (x * l i + comb xs ls i) - t * (y * l i + comb ys ls i)
    rw [ih]
    grind
  | [], _ :: _, [], _, _, h => by simp at h
  | _ :: _, _, [], _, h, _ => by simp at h
  | [], _, _ :: _, _, h, _ => by simp at h
  | _, [], _ :: _, _, _, h => by simp at h
theorem comb_map (s : Int) : ∀ (xs : List Int) (ls : List Vec) (i : Nat), comb (xs.map (s * ·)) ls i = s * comb xs ls i
  | [], ls, i => by cases ls <;> (show 0 = s * 0; simp)
  | x :: xs, [], i => by show 0 = s * 0; simp
  | x :: xs, l :: ls, i => by
    show s * x * l i + comb (xs.map (s * ·)) ls i = s * (x * l i + comb xs ls i)
    rw [comb_map s xs ls i]
    grind
theorem map_cancel {s : Int} (h : s ≠ 0) : ∀ {xs ys : List Int}, xs.map (s * ·) = ys.map (· * s) → xs = ys
  | [], [], _ => rfl
  | [], _ :: _, e => by cases e
  | _ :: _, [], e => by cases e
  | x :: xs, y :: ys, e => by
    have h1 : s * x = y * s ∧ xs.map (s * ·) = ys.map (· * s) := List.cons.inj e
    rw [map_cancel h h1.2, Int.eq_of_mul_eq_mul_left h (h1.1.trans (Int.mul_comm ..))]
theorem map_cancel2 {m s : Int} (h : s ≠ 0) : ∀ {xs ys : List Int}, xs.map (m * s * ·) = ys.map (· * s) → xs.map (m * ·) = ys
  | [], [], _ => rfl
  | [], _ :: _, e => by cases e
  | _ :: _, [], e => by cases e
  | x :: xs, y :: ys, e => by
    have h1 : m * s * x = y * s ∧ xs.map (m * s * ·) = ys.map (· * s) := List.cons.inj e
    show m * x :: xs.map (m * ·) = _
    rw [map_cancel2 h h1.2]
    have : m * x = y := Int.eq_of_mul_eq_mul_left h (by have := h1.1; grind)
    rw [this]
variable {p q : Nat}
def lt' (A : Nat → Nat → Int) (P L : List Nat) (p q c : Nat) : List Int := reps (colV A c) (L.map (colV A)) (fun ws => dt (colV A q :: ws) (p :: P))
theorem lx_cons (c : Nat) : lx A (p :: P) (q :: L) c = nx A P L p c :: lt' A P L p q c := rfl
theorem hd_cons : hd A (p :: P) (q :: L) = nx A P L p q := rfl
theorem lt_len (c : Nat) : (lt' A P L p q c).length = L.length := by unfold lt'; rw [reps_len, List.length_map]
/-- the leading rows behind one step -/
theorem lead_step (h : nx A P L p q ≠ 0) (c : Nat) : (lt' A P L p q c).map (hd A P L * ·) = List.zipWith (fun a b => nx A P L p q * a - b * nx A P L p c) (lx A P L c) (lx A P L q) := by
  have hl : ∀ c, (lx A P L c).length = (L.map (colV A)).length := fun c => by rw [lx_len, List.length_map]
  have key := cramers (P := p :: P) (v := colV A c) (m := hd A P L * nx A P L p q) ((q :: L).map (colV A)) (hd A P L * nx A P L p c :: List.zipWith (fun a b => nx A P L p q * a - b * nx A P L p c) (lx A P L c) (lx A P L q)) [] [] rfl
    (by rw [List.length_cons, List.length_zipWith, lx_len, lx_len, List.length_map, List.length_cons, Nat.min_self]) (fun i hi => by
      show hd A P L * nx A P L p c * A i q + comb (List.zipWith _ _ _) (L.map (colV A)) i = _ * A i c
      rw [comb_mix _ _ _ _ _ _ (hl c) (hl q)]
      rcases List.mem_cons.mp hi with rfl | hi
      · have e1 := nx_eq (A := A) (P := P) (L := L) i c
        have e2 := nx_eq (A := A) (P := P) (L := L) i q
        grind
      · rw [lx_eq c hi, lx_eq q hi]
        grind)
  have k2 := map_cancel2 (m := hd A P L) (s := nx A P L p q) h key
  have k3 : hd A P L * nx A P L p c :: (lt' A P L p q c).map (hd A P L * ·) = hd A P L * nx A P L p c :: _ := k2
  exact (List.cons.inj k3).2
/-- the other rows behind one step -/
theorem rest_step (h : nx A P L p q ≠ 0) (i c : Nat) : hd A P L * nx A (p :: P) (q :: L) i c = nx A P L p q * nx A P L i c - nx A P L i q * nx A P L p c := by
  have hl : ∀ c, (lx A P L c).length = (L.map (colV A)).length := fun c => by rw [lx_len, List.length_map]
  rw [nx_eq (P := p :: P), hd_cons, lx_cons]
  show hd A P L * (nx A P L p q * A i c - (nx A P L p c * A i q + comb (lt' A P L p q c) (L.map (colV A)) i)) = _
  have e := comb_map (hd A P L) (lt' A P L p q c) (L.map (colV A)) i
  rw [lead_step h c, comb_mix _ _ _ _ _ _ (hl c) (hl q)] at e
  have e1 := nx_eq (A := A) (P := P) (L := L) i c
  have e2 := nx_eq (A := A) (P := P) (L := L) i q
  grind
/-- a leader's own column -/
theorem nx_lead {i c : Nat} (h : c ∈ L) : nx A P L i c = 0 :=
  col_rep (G := fun cols => dt cols (i :: P)) (dt_alt _) (dt_lin _) (pre := []) (.inr (List.mem_map.mpr ⟨c, h, rfl⟩))
end

end ND
set_option Elab.async false
set_option linter.all false
set_option maxRecDepth 100000
namespace ND
open PySem PySem.Spec PyProof.Rows L2
/-! ### M3: sizes of determinants; the course of an elimination -/
theorem ex_bound (i M B : Nat) : ∀ (vs : List Vec) (G : List Vec → Int), (∀ v ∈ vs, (v i).natAbs ≤ M) → (∀ ws : List Vec, ws.length + 1 = vs.length → (∀ w ∈ ws, w ∈ vs) → (G ws).natAbs ≤ B) → (ex i vs G).natAbs ≤ vs.length * (M * B)
  | [], _, _, _ => Nat.zero_le _
  | v :: vs, G, h, hG => by
    have h1 : (v i * G vs).natAbs ≤ M * B := by
      rw [Int.natAbs_mul]
      exact Nat.mul_le_mul (h v (List.mem_cons_self ..)) (hG vs rfl fun w hw => List.mem_cons_of_mem _ hw)
    have h2 := ex_bound i M B vs (fun ws => G (v :: ws)) (fun w hw => h w (List.mem_cons_of_mem _ hw)) fun ws hl hm => hG (v :: ws) (by simp [hl]) fun w hw => by
      rcases List.mem_cons.mp hw with rfl | hw
      · exact List.mem_cons_self ..
      · exact List.mem_cons_of_mem _ (hm w hw)
    rw [ex_cons, List.length_cons, Nat.succ_mul]
    omega
theorem dt_bound (M : Nat) : ∀ (P : List Nat) (cols : List Vec) (n : Nat), P.length ≤ n → cols.length = P.length → (∀ v ∈ cols, ∀ i ∈ P, (v i).natAbs ≤ M) → (dt cols P).natAbs ≤ (n * M) ^ P.length
  | [], [], _, _, _, _ => by show 1 ≤ _; rw [List.length_nil, Nat.pow_zero]; exact Nat.le_refl _
  | [], _ :: _, _, _, h, _ => by simp at h
  | i :: P, cols, n, hn, hl, h => by
    rw [dt_cons]
    have hP : P.length + 1 ≤ n := by simpa using hn
    have h1 := ex_bound i M ((n * M) ^ P.length) cols (fun ws => dt ws P) (fun v hv => h v hv i (List.mem_cons_self ..)) fun ws hw hm =>
      dt_bound M P ws n (by omega) (by rw [hl, List.length_cons] at hw; omega) fun v hv j hj => h v (hm v hv) j (List.mem_cons_of_mem _ hj)
    refine Nat.le_trans h1 ?_
    rw [hl, List.length_cons, Nat.pow_succ, ← Nat.mul_assoc, Nat.mul_comm ((n * M) ^ P.length)]
    exact Nat.mul_le_mul_right _ (Nat.mul_le_mul_right _ hP)
section
variable {A : Nat → Nat → Int} {M n : Nat}
theorem nx_bound {P L : List Nat} {i c : Nat} (hl : L.length = P.length) (hn : P.length < n) (h : ∀ j ∈ i :: P, ∀ k ∈ c :: L, (A j k).natAbs ≤ M) : (nx A P L i c).natAbs ≤ (n * M) ^ (P.length + 1) := by
  refine dt_bound M (i :: P) _ n (by rw [List.length_cons]; omega) (by simp [hl]) fun v hv j hj => ?_
  rcases List.mem_cons.mp hv with rfl | hv
  · exact h j hj c (List.mem_cons_self ..)
  · obtain ⟨k, hk, rfl⟩ := List.mem_map.mp hv
    exact h j hj k (List.mem_cons_of_mem _ hk)
theorem hd_bound {P L : List Nat} (hl : L.length = P.length) (hn : P.length ≤ n) (h : ∀ j ∈ P, ∀ k ∈ L, (A j k).natAbs ≤ M) : (hd A P L).natAbs ≤ (n * M) ^ P.length := by
  refine dt_bound M P _ n hn (by simp [hl]) fun v hv j hj => ?_
  obtain ⟨k, hk, rfl⟩ := List.mem_map.mp hv
  exact h j hj k hk
theorem reps_mem (v : Vec) : ∀ (L : List Vec) (G : List Vec → Int) (x : Int), x ∈ reps v L G → ∃ ws : List Vec, ws.length = L.length ∧ (∀ w ∈ ws, w = v ∨ w ∈ L) ∧ x = G ws
  | [], _, _, h => by cases h
  | u :: us, G, x, h => by
    have h' : x = G (v :: us) ∨ x ∈ reps v us (fun ws => G (u :: ws)) := List.mem_cons.mp h
    rcases h' with rfl | h'
    · exact ⟨v :: us, rfl, fun w hw => by
        rcases List.mem_cons.mp hw with rfl | hw
        · exact .inl rfl
        · exact .inr (List.mem_cons_of_mem _ hw), rfl⟩
    · obtain ⟨ws, h1, h2, h3⟩ := reps_mem v us _ x h'
      exact ⟨u :: ws, by simp [h1], fun w hw => by
        rcases List.mem_cons.mp hw with rfl | hw
        · exact .inr (List.mem_cons_self ..)
        · rcases h2 w hw with rfl | h
          · exact .inl rfl
          · exact .inr (List.mem_cons_of_mem _ h), h3⟩
theorem lx_bound {P L : List Nat} {c : Nat} (hl : L.length = P.length) (hn : P.length ≤ n) (h : ∀ j ∈ P, ∀ k ∈ c :: L, (A j k).natAbs ≤ M) : ∀ x ∈ lx A P L c, x.natAbs ≤ (n * M) ^ P.length := fun x hx => by
  obtain ⟨ws, h1, h2, rfl⟩ := reps_mem _ _ _ _ hx
  refine dt_bound M P ws n hn (by rw [h1, List.length_map, hl]) fun v hv j hj => ?_
  rcases h2 v hv with rfl | hv
  · exact h j hj c (List.mem_cons_self ..)
  · obtain ⟨k, hk, rfl⟩ := List.mem_map.mp hv
    exact h j hj k (List.mem_cons_of_mem _ hk)
end
/-- leading rows (newest first), their leaders, the other rows in order -/
structure Est where
  P : List Nat
  L : List Nat
  Z : List Nat
def pickE (A : Nat → Nat → Int) (s : Est) (q : Nat) : Option Nat := s.Z.find? fun i => decide (nx A s.P s.L i q ≠ 0)
def stepE (A : Nat → Nat → Int) (s : Est) (q : Nat) : Est := match pickE A s q with
  | none => s
  | some i => ⟨i :: s.P, q :: s.L, s.Z.erase i⟩
def goE (A : Nat → Nat → Int) (n k : Nat) : Est := (List.range k).foldl (stepE A) ⟨[], [], List.range n⟩
theorem goE_succ (A : Nat → Nat → Int) (n k : Nat) : goE A n (k + 1) = stepE A (goE A n k) k := by
  unfold goE
  rw [List.range_succ, List.foldl_append]
  rfl
/-- what holds of it behind k columns, n rows -/
structure EOk (A : Nat → Nat → Int) (n k : Nat) (s : Est) : Prop where
  len : s.L.length = s.P.length
  sum : s.P.length + s.Z.length = n
  hd0 : hd A s.P s.L ≠ 0
  pn : ∀ i ∈ s.P, i < n
  zn : ∀ i ∈ s.Z, i < n
  all : ∀ i, i < n → i ∈ s.P ∨ i ∈ s.Z
  znd : s.Z.Nodup
  lk : ∀ c ∈ s.L, c < k
  lnd : s.L.Nodup
  clean : ∀ i ∈ s.Z, ∀ c, c < k → nx A s.P s.L i c = 0
  few : s.P.length ≤ k
theorem eok_zero (A : Nat → Nat → Int) (n : Nat) : EOk A n 0 (goE A n 0) :=
  ⟨rfl, by show 0 + (List.range n).length = n; simp, by show (1 : Int) ≠ 0; decide, (fun _ h => by cases h), fun i h => List.mem_range.mp h, fun i h => .inr (List.mem_range.mpr h), List.nodup_range, fun _ h => (by cases h), List.nodup_nil, fun _ _ c h => absurd h (Nat.not_lt_zero _), Nat.le_refl _⟩
theorem pick_none {A : Nat → Nat → Int} {s : Est} {q : Nat} (h : pickE A s q = none) : ∀ i ∈ s.Z, nx A s.P s.L i q = 0 := fun i hi => by
  have := List.find?_eq_none.mp h i hi
  simpa using this
theorem pick_some {A : Nat → Nat → Int} {s : Est} {q i : Nat} (h : pickE A s q = some i) : i ∈ s.Z ∧ nx A s.P s.L i q ≠ 0 :=
  ⟨List.mem_of_find?_eq_some h, by simpa using List.find?_some h⟩
theorem eok_step {A : Nat → Nat → Int} {n k : Nat} {s : Est} (h : EOk A n k s) : EOk A n (k + 1) (stepE A s k) := by
  unfold stepE
  cases e : pickE A s k with
  | none =>
    refine ⟨h.len, h.sum, h.hd0, h.pn, h.zn, h.all, h.znd, fun c hc => Nat.lt_succ_of_lt (h.lk c hc), h.lnd, fun i hi c hc => ?_, Nat.le_succ_of_le h.few⟩
    by_cases hk : c = k
    · subst hk; exact pick_none e i hi
    · exact h.clean i hi c (by omega)
  | some p =>
    obtain ⟨hp, h0⟩ := pick_some e
    have hz : ∀ i, i ∈ s.Z.erase p → i ∈ s.Z := fun i hi => List.mem_of_mem_erase hi
    refine ⟨by simp [h.len], ?_, h0, fun i hi => ?_, fun i hi => h.zn i (hz i hi), fun i hi => ?_, h.znd.erase p, fun c hc => ?_, ?_, fun i hi c hc => ?_, ?_⟩
    · show s.P.length + 1 + (s.Z.erase p).length = n
      rw [List.length_erase_of_mem hp]
      have := List.length_pos_of_mem hp
      have := h.sum
      omega
    · rcases List.mem_cons.mp hi with rfl | hi
      · exact h.zn _ hp
      · exact h.pn i hi
    · rcases h.all i hi with hi | hi
      · exact .inl (List.mem_cons_of_mem _ hi)
      · by_cases hip : i = p
        · exact .inl (by rw [hip]; exact List.mem_cons_self ..)
        · exact .inr ((List.mem_erase_of_ne hip).mpr hi)
    · rcases List.mem_cons.mp hc with rfl | hc
      · exact Nat.lt_succ_self _
      · exact Nat.lt_succ_of_lt (h.lk c hc)
    · rw [List.nodup_cons]
      exact ⟨fun hc => Nat.lt_irrefl _ (h.lk k hc), h.lnd⟩
    · by_cases hk : c = k
      · subst hk
        exact nx_lead (List.mem_cons_self ..)
      · have hc' : c < k := by omega
        have st := rest_step (A := A) h0 i c
        rw [h.clean i (hz i hi) c hc', h.clean p hp c hc'] at st
        simp only [Int.mul_zero, Int.sub_zero] at st
        rcases Int.mul_eq_zero.mp st with z | z
        · exact absurd z h.hd0
        · exact z
    · show s.P.length + 1 ≤ k + 1
      have := h.few
      omega
theorem eok_go (A : Nat → Nat → Int) (n : Nat) : ∀ k, EOk A n k (goE A n k)
  | 0 => eok_zero A n
  | k + 1 => by rw [goE_succ]; exact eok_step (eok_go A n k)

end ND
set_option Elab.async false
set_option linter.all false
set_option maxRecDepth 100000
namespace ND
open PySem PySem.Spec PyProof.Rows L2
def dQ (q : Rat) : D := .tup [.int q.num, .int (q.den : Nat)]
/-! ### the greatest divisor -/
theorem gcd_step {x y : Int} (hx : 0 ≤ x) (hy : 0 ≤ y) : Int.gcd y (x % y) = Int.gcd x y := by
  obtain ⟨n, rfl⟩ := Int.eq_ofNat_of_zero_le hx
  obtain ⟨m, rfl⟩ := Int.eq_ofNat_of_zero_le hy
  rw [← Int.natCast_emod, Int.gcd_natCast_natCast, Int.gcd_natCast_natCast, Nat.gcd_comm n m, Nat.gcd_rec m n, Nat.gcd_comm]
def w_divisor : WS :=
  (wSeq (whileS (wTst (w2 oGt (wVar 1) (wC (.int 0)))) (wPar 0 1 (wCons (wVar 1) (wCons (w2 oMod (wVar 0) (wVar 1)) wNil))))
  (wRet (wVar 0)))
@[irreducible] def m_divisor : On := fun ds S Q => ∃ a b : Int, ds = [.int a, .int b] ∧ 0 ≤ a ∧ 0 ≤ b ∧ Q (.int (Int.gcd a b)) S
theorem in_divisor {ds : List D} {S : Store} {Q : D → Store → Prop} (h : (fun ds S Q => ∃ a b : Int, ds = [.int a, .int b] ∧ 0 ≤ a ∧ 0 ≤ b ∧ Q (.int (Int.gcd a b)) S : On) ds S Q) : m_divisor ds S Q := by unfold m_divisor; exact h
theorem v_divisor (ds : List D) (S : Store) (Q : D → Store → Prop) (h : m_divisor ds S Q) : w_divisor (fin Q) (dst 2 ds) S := by
  unfold m_divisor at h
  obtain ⟨a, b, rfl, ha, hb, q⟩ := h
  refine ⟨fun m env S' => ∃ x y : Int, env = [some (.int x), some (.int y)] ∧ 0 ≤ x ∧ 0 ≤ y ∧ Int.gcd x y = Int.gcd a b ∧ m = y.toNat ∧ S' = S, ⟨_, a, b, rfl, ha, hb, rfl, rfl, rfl⟩, ?_⟩
  rintro m env S' ⟨x, y, rfl, hx, hy, e, rfl, rfl⟩
  refine ⟨_, rfl, ite_nf (fun c => ?_) (fun c => ?_)⟩
  · have e1 : x.fmod y = x % y := Int.fmod_eq_emod_of_nonneg _ hy
    have h1 := Int.emod_nonneg x (show y ≠ 0 by omega)
    have h2 := Int.emod_lt_of_pos x c
    refine ⟨_, rfl, _, rfl, _, rfl, (by omega : y ≠ 0), _, ?_, y, x.fmod y, rfl, hy, by omega, by rw [e1, gcd_step hx hy, e], rfl, rfl⟩
    omega
  · have hy0 : y = 0 := by omega
    subst hy0
    refine ⟨_, rfl, ?_⟩
    rw [show (x : Int) = (Int.gcd a b : Nat) by rw [← e, Int.gcd_zero_right]; omega]
    exact q
theorem use_divisor {a b : Int} {S : Store} {Q : D → Store → Prop} (ha : 0 ≤ a) (hb : 0 ≤ b) (k : Q (.int (Int.gcd a b)) S) : m_divisor [.int a, .int b] S Q := by unfold m_divisor; exact ⟨a, b, rfl, ha, hb, k⟩
/-! ### a fraction in least numbers -/
theorem frac_num {t b g : Int} (hb : 0 < b) (hg : g = (Int.gcd t b : Nat)) : t.fdiv g = (Rat.divInt t b).num := by
  rw [Rat.num_divInt, Int.sign_eq_one_of_pos hb, Int.one_mul, Int.gcd_comm b t, ← hg]
  exact Int.fdiv_eq_ediv_of_nonneg _ (by omega)
theorem frac_den {t b g : Int} (hb : 0 < b) (hg : g = (Int.gcd t b : Nat)) : b.fdiv g = ((Rat.divInt t b).den : Nat) := by
  rw [Rat.den_divInt, if_neg (by omega), Int.gcd_comm b t, Int.natCast_ediv, ← hg, Int.fdiv_eq_ediv_of_nonneg _ (by omega)]
  congr 1
  omega
theorem gcd_pos' {t b : Int} (hb : b ≠ 0) : 0 < Int.gcd t b := Int.gcd_pos_of_ne_zero_right t hb
/-- the divisor is not too long for // -/
def GOk (_ _ : Int) : Prop := True
theorem GOk.cfd {t b : Int} (_ : GOk t b) (hb : b ≠ 0) (i : Int) : CFd i ((Int.gcd t b : Nat) : Int) := by have := gcd_pos' (t := t) hb; show _ ≠ _; omega
def w_fraction (f1 : On) : WS :=
  (wSeq (wIfS (wTst (w2 oLt (wVar 1) (wC (.int 0)))) (wPar 0 1 (wCons (w1 oNeg (wVar 0)) (wCons (w1 oNeg (wVar 1)) wNil))) wNext)
  (wSeq (wSet 2 (wCall f1 (wCons (wCall oAbs (wCons (wVar 0) wNil)) (wCons (wVar 1) wNil))))
  (wRet (wTup (wCons (w2 oFdiv (wVar 0) (wVar 2)) (wCons (w2 oFdiv (wVar 1) (wVar 2)) wNil))))))
@[irreducible] def m_fraction : On := fun ds S Q => ∃ t b : Int, ds = [.int t, .int b] ∧ b ≠ 0 ∧ GOk t b ∧ Q (dQ (Rat.divInt t b)) S
theorem in_fraction {ds : List D} {S : Store} {Q : D → Store → Prop} (h : (fun ds S Q => ∃ t b : Int, ds = [.int t, .int b] ∧ b ≠ 0 ∧ GOk t b ∧ Q (dQ (Rat.divInt t b)) S : On) ds S Q) : m_fraction ds S Q := by unfold m_fraction; exact h
theorem use_fraction {t b : Int} {S : Store} {Q : D → Store → Prop} (hb : b ≠ 0) (hg : GOk t b) (k : Q (dQ (Rat.divInt t b)) S) : m_fraction [.int t, .int b] S Q := by unfold m_fraction; exact ⟨t, b, rfl, hb, hg, k⟩
theorem abs_if (t : Int) : (if t < 0 then -t else t) = (t.natAbs : Int) := by split <;> omega
theorem v_fraction (ds : List D) (S : Store) (Q : D → Store → Prop) (h : m_fraction ds S Q) : w_fraction m_divisor (fin Q) (dst 3 ds) S := by
  unfold m_fraction at h
  obtain ⟨t, b, rfl, hb, hg, q⟩ := h
  have core : ∀ (t b : Int), 0 < b → GOk t b → Q (dQ (Rat.divInt t b)) S →
      wSeq (wSet 2 (wCall m_divisor (wCons (wCall oAbs (wCons (wVar 0) wNil)) (wCons (wVar 1) wNil)))) (wRet (wTup (wCons (w2 oFdiv (wVar 0) (wVar 2)) (wCons (w2 oFdiv (wVar 1) (wVar 2)) wNil)))) (fin Q) [some (.int t), some (.int b), none] S := by
    intro t b hb hg q
    have e0 : Int.gcd (t.natAbs : Int) b = Int.gcd t b := by simp [Int.gcd]
    refine ⟨_, rfl, _, rfl, use_divisor (by rw [abs_if]; omega) (by omega) ?_⟩
    rw [abs_if, e0]
    refine ⟨_, rfl, _, rfl, hg.cfd (by omega) t, _, rfl, _, rfl, hg.cfd (by omega) b, by show 2 ≤ sizeLine; decide, ?_⟩
    have e : dQ (Rat.divInt t b) = D.tup [.int (t.fdiv (Int.gcd t b : Nat)), .int (b.fdiv (Int.gcd t b : Nat))] := by rw [frac_num hb rfl, frac_den hb rfl]; rfl
    show Q _ _
    rw [e] at q
    exact q
  refine ⟨_, rfl, ite_nf (fun c => ?_) (fun c => ?_)⟩
  · refine ⟨_, rfl, _, rfl, core (-t) (-b) (by omega) trivial ?_⟩
    rw [Rat.neg_divInt_neg]
    exact q
  · exact core t b (by omega) hg q
theorem l_divisor (ds : List D) (S : Store) (Q : D → Store → Prop) (h : m_divisor ds S Q) : ds.length = 2 := by unfold m_divisor at h; obtain ⟨_, _, rfl, _⟩ := h; rfl
theorem l_fraction (ds : List D) (S : Store) (Q : D → Store → Prop) (h : m_fraction ds S Q) : ds.length = 2 := by unfold m_fraction at h; obtain ⟨_, _, rfl, _⟩ := h; rfl
/-! ### the law's own fractions -/
theorem fdiv_neg' (t g : Int) : t.fdiv (0 - g) = (-t).fdiv g := by
  rw [Int.zero_sub, ← Int.neg_fdiv_neg (-t) g, Int.neg_neg]
def w_law_f : WS :=
  (wSeq (wSet 2 (wCall oAbs (wCons (wVar 0) wNil)))
  (wSeq (wSet 3 (wCall oAbs (wCons (wVar 1) wNil)))
  (wSeq (whileS (wTst (w2 oGt (wVar 3) (wC (.int 0)))) (wPar 2 3 (wCons (wVar 3) (wCons (w2 oMod (wVar 2) (wVar 3)) wNil))))
  (wSeq (wIfS (wTst (w2 oLt (wVar 1) (wC (.int 0)))) (wSet 2 (w2 oSub (wC (.int 0)) (wVar 2))) wNext)
  (wRet (wTup (wCons (w2 oFdiv (wVar 0) (wVar 2)) (wCons (w2 oFdiv (wVar 1) (wVar 2)) wNil))))))))
abbrev m_law_f : On := m_fraction
theorem l_law_f (ds : List D) (S : Store) (Q : D → Store → Prop) (h : m_law_f ds S Q) : ds.length = 2 := l_fraction ds S Q h
theorem v_law_f (ds : List D) (S : Store) (Q : D → Store → Prop) (h : m_law_f ds S Q) : w_law_f (fin Q) (dst 4 ds) S := by
  unfold m_law_f m_fraction at h
  obtain ⟨t, b, rfl, hb, hg, q⟩ := h
  refine ⟨_, rfl, _, rfl, fun m env S' => ∃ x y : Int, env = [some (.int t), some (.int b), some (.int x), some (.int y)] ∧ 0 ≤ x ∧ 0 ≤ y ∧ Int.gcd x y = Int.gcd t b ∧ m = y.toNat ∧ S' = S, ⟨_, _, _, rfl, by rw [abs_if]; omega, by rw [abs_if]; omega, by rw [abs_if, abs_if]; simp [Int.gcd], rfl, rfl⟩, ?_⟩
  rintro m env S' ⟨x, y, rfl, hx, hy, e, rfl, rfl⟩
  refine ⟨_, rfl, ite_nf (fun c => ?_) (fun c => ?_)⟩
  · have e1 : x.fmod y = x % y := Int.fmod_eq_emod_of_nonneg _ hy
    have h1 := Int.emod_nonneg x (show y ≠ 0 by omega)
    have h2 := Int.emod_lt_of_pos x c
    exact ⟨_, rfl, _, rfl, _, rfl, (by omega : y ≠ 0), _, (by omega : (x.fmod y).toNat < y.toNat), y, x.fmod y, rfl, hy, by omega, by rw [e1, gcd_step hx hy, e], rfl, rfl⟩
  · have hy0 : y = 0 := by omega
    subst hy0
    have ex : x = (Int.gcd t b : Nat) := by rw [← e, Int.gcd_zero_right]; omega
    subst ex
    refine ⟨_, rfl, ite_nf (fun c => ?_) (fun c => ?_)⟩
    · have hne : ∀ i, CFd i (0 - ((Int.gcd t b : Nat) : Int)) := fun i => by have := gcd_pos' (t := t) hb; show _ ≠ _; omega
      refine ⟨_, rfl, _, rfl, _, rfl, hne t, _, rfl, _, rfl, hne b, by show 2 ≤ sizeLine; decide, ?_⟩
      have eg : ((Int.gcd t b : Nat) : Int) = (Int.gcd (-t) (-b) : Nat) := by rw [Int.gcd_neg, Int.neg_gcd]
      have e' : dQ (Rat.divInt t b) = D.tup [.int (t.fdiv (0 - (Int.gcd t b : Nat))), .int (b.fdiv (0 - (Int.gcd t b : Nat)))] := by
        rw [fdiv_neg', fdiv_neg', frac_num (t := -t) (b := -b) (by omega) eg, frac_den (t := -t) (b := -b) (by omega) eg, Rat.neg_divInt_neg]; rfl
      show Q _ _
      rw [e'] at q
      exact q
    · refine ⟨_, rfl, _, rfl, hg.cfd hb t, _, rfl, _, rfl, hg.cfd hb b, by show 2 ≤ sizeLine; decide, ?_⟩
      have e' : dQ (Rat.divInt t b) = D.tup [.int (t.fdiv (Int.gcd t b : Nat)), .int (b.fdiv (Int.gcd t b : Nat))] := by rw [frac_num (by omega) rfl, frac_den (by omega) rfl]; rfl
      show Q _ _
      rw [e'] at q
      exact q
theorem gok_of {t b : Int} {n : Nat} (_ : b ≠ 0) (_ : b.natAbs < 2 ^ n) (_ : 0 < n := by decide) (_ : n ≤ 900000 := by decide) : GOk t b := trivial
theorem gok_one {q : Rat} : GOk q.num q.den := trivial
theorem pure_dQ (q : Rat) : pureD (dQ q) = true := rfl
theorem deep_dQ (q : Rat) : deepD (dQ q) = 1 := rfl
theorem dQ_inj {a b : Rat} (h : dQ a = dQ b) : a = b := by
  unfold dQ at h
  injection h with h
  injection h with h1 h2
  injection h1 with h1
  injection h2 with h2 _
  injection h2 with h2
  exact Rat.ext h1 (by omega)
/-- two fractions told equal or not -/
theorem eq_dQ {neg : Bool} {a b : Rat} {S : Store} {Q : D → Store → Prop} (h : Q (.bl (nb neg (decide (a = b)))) S) : oEqB neg (dQ a) (dQ b) S Q :=
  eq_pure rfl rfl (by rw [deep_dQ]; decide) (by rw [deep_dQ]; decide) fun c hc => by
    have e : c = decide (a = b) := by
      by_cases hab : a = b
      · rw [decide_eq_true hab]; exact hc.mpr (by rw [hab])
      · rw [decide_eq_false hab]
        cases c with
        | true => exact absurd (dQ_inj (hc.mp rfl)) hab
        | false => rfl
    rw [e]
    exact h
theorem isi_tuple : kitB "tuple" "tuple" = some true := by decide +kernel
theorem isi_int_int : kitB "int" "int" = some true := by decide +kernel
theorem isi_int_bool : kitB "int" "bool" = some false := by decide +kernel
def w_law_is_fraction (f1 : On) : WS :=
  (wSeq (wIfS (wOr (wNot (wTst (wIsi "tuple" (wVar 0)))) (wTst (w2 oNe (wCall oLen (wCons (wVar 0) wNil)) (wC (.int 2))))) (wRet (wC (.bl false))) wNext)
  (wSeq (wIfS (wTst (w2 oNe (wLc (wSeqI (wVar 0)) (gN 1) (wOr (wNot (wTst (wIsi "int" (wVar 1)))) (wTst (wIsi "bool" (wVar 1)))) (wVar 1) [1]) (wLst wNil))) (wRet (wC (.bl false))) wNext)
  (wRet (wAndV (w2 oGt (w2 oIx (wVar 0) (wC (.int 1))) (wC (.int 0))) (w2 oEq (wCall f1 (wCons (w2 oIx (wVar 0) (wC (.int 0))) (wCons (w2 oIx (wVar 0) (wC (.int 1))) wNil))) (wVar 0))))))
@[irreducible] def m_law_is_fraction : On := fun ds S Q => ∃ q : Rat, ds = [dQ q] ∧ Q (.bl true) S
theorem in_law_is_fraction {ds : List D} {S : Store} {Q : D → Store → Prop} (h : (fun ds S Q => ∃ q : Rat, ds = [dQ q] ∧ Q (.bl true) S : On) ds S Q) : m_law_is_fraction ds S Q := by unfold m_law_is_fraction; exact h
theorem l_law_is_fraction (ds : List D) (S : Store) (Q : D → Store → Prop) (h : m_law_is_fraction ds S Q) : ds.length = 1 := by unfold m_law_is_fraction at h; obtain ⟨_, rfl, _⟩ := h; rfl
theorem v_law_is_fraction (ds : List D) (S : Store) (Q : D → Store → Prop) (h : m_law_is_fraction ds S Q) : w_law_is_fraction m_law_f (fin Q) (dst 2 ds) S := by
  unfold m_law_is_fraction at h
  obtain ⟨r, rfl, q⟩ := h
  refine ⟨_, rfl, _, _, rfl, isi_tuple, _, rfl, _, rfl, _, rfl, _, rfl, by show 2 ≤ sizeLine; decide, trivial, ?_⟩
  refine ⟨_, rfl, _, _, rfl, isi_int_int, _, rfl, _, _, rfl, isi_int_bool, trivial, _, rfl, _, _, rfl, isi_int_int, _, rfl, _, _, rfl, isi_int_bool, trivial, by decide, ?_⟩
  refine eq_pure (x := .lst []) (y := .lst []) rfl rfl (by decide) (by decide) fun b hb => ?_
  have eb : b = true := hb.mpr rfl
  subst eb
  refine ⟨_, rfl, _, _, rfl, rfl, ?_⟩
  have hd : (0 : Int) < (r.den : Nat) := by have := r.den_pos; omega
  refine ite_nf (fun _ => ?_) (fun h => absurd hd h)
  refine ⟨_, rfl, _, _, rfl, rfl, _, rfl, _, _, rfl, rfl, use_fraction (by omega) gok_one ⟨_, rfl, ?_⟩⟩
  refine eq_dQ (a := Rat.divInt r.num r.den) (b := r) ?_
  rw [Rat.num_divInt_den, decide_eq_true rfl]
  exact q
theorem use_law_is_fraction {r : Rat} {S : Store} {Q : D → Store → Prop} (k : Q (.bl true) S) : m_law_is_fraction [dQ r] S Q := by unfold m_law_is_fraction; exact ⟨r, rfl, k⟩

end ND
set_option Elab.async false
set_option linter.all false
set_option maxRecDepth 100000
namespace ND
open PySem PySem.Spec PyProof.Rows L2
def w_law_mix : WS :=
  (wSeq (wSet 2 (w2 oAdd (w2 oMod (wVar 0) (wC (.int 2147483629))) (w2 oMul (w2 oMul (wC (.int 1000003)) (wVar 1)) (wVar 1))))
  (wSeq (wSet 2 (w2 oMod (w2 oAdd (wVar 2) (w2 oMul (wC (.int 7919)) (wVar 1))) (wC (.int 2147483629))))
  (wSeq (wSet 2 (w2 oMod (w2 oMul (wVar 2) (wVar 2)) (wC (.int 2147483587))))
  (wRet (w2 oFdiv (w2 oMod (w2 oMul (wVar 2) (w2 oAdd (wVar 2) (wC (.int 40961)))) (wC (.int 2147483563))) (wC (.int 4)))))))
@[irreducible] def m_law_mix : On := fun ds S Q => ∃ c k : Int, ds = [.int c, .int k] ∧ 0 ≤ k ∧ k < 2 ^ 60 ∧ ∀ r : Int, 0 ≤ r → Q (.int r) S
theorem in_law_mix {ds : List D} {S : Store} {Q : D → Store → Prop} (h : (fun ds S Q => ∃ c k : Int, ds = [.int c, .int k] ∧ 0 ≤ k ∧ k < 2 ^ 60 ∧ ∀ r : Int, 0 ≤ r → Q (.int r) S : On) ds S Q) : m_law_mix ds S Q := by unfold m_law_mix; exact h
theorem v_law_mix (ds : List D) (S : Store) (Q : D → Store → Prop) (h : m_law_mix ds S Q) : w_law_mix (fin Q) (dst 3 ds) S := by
  unfold m_law_mix at h
  obtain ⟨c, k, rfl, hk, hk2, q⟩ := h
  have fm : ∀ (x n : Int), 0 < n → 0 ≤ x.fmod n ∧ x.fmod n < n := fun x n hn => fmod_bds hn
  refine ⟨_, rfl, (by decide : (2147483629 : Int) ≠ 0), _, rfl, mulOk (a := 21) (b := 60) (by decide) (by omega), _, rfl, mulOk (a := 81) (b := 60) ?_ (by omega), ?_⟩
  · omega
  refine ⟨_, rfl, _, rfl, mulOk (a := 13) (b := 60) (by decide) (by omega), (by decide : (2147483629 : Int) ≠ 0), ?_⟩
  obtain ⟨a1, a2⟩ := fm (c.fmod 2147483629 + 1000003 * k * k + 7919 * k) 2147483629 (by decide)
  refine ⟨_, rfl, _, rfl, mulOk (a := 31) (b := 31) (by omega) (by omega), (by decide : (2147483587 : Int) ≠ 0), ?_⟩
  obtain ⟨b1, b2⟩ := fm ((c.fmod 2147483629 + 1000003 * k * k + 7919 * k).fmod 2147483629 * (c.fmod 2147483629 + 1000003 * k * k + 7919 * k).fmod 2147483629) 2147483587 (by decide)
  refine ⟨_, rfl, _, rfl, mulOk (a := 31) (b := 32) (by omega) (by omega), (by decide : (2147483563 : Int) ≠ 0), (by decide : (4 : Int) ≠ 0), ?_⟩
  refine q _ ?_
  rw [Int.fdiv_eq_ediv_of_nonneg _ (by decide)]
  exact Int.ediv_nonneg (fm _ _ (by decide)).1 (by decide)
theorem use_mix {c k : Int} {S : Store} {Q : D → Store → Prop} (h0 : 0 ≤ k) (h1 : k < 2 ^ 60) (q : ∀ r : Int, 0 ≤ r → Q (.int r) S) : m_law_mix [.int c, .int k] S Q := by
  unfold m_law_mix; exact ⟨c, k, rfl, h0, h1, q⟩
/-- the deck: cells, how many are begun, what is left of one, how many were mixed (c at most), the sum -/
def DeckC (c : Nat) (cell : Cell) : Prop := ∃ (cs : List Int) (i left mixed total : Int), cell = .lst [.lst (cs.map D.int), .int i, .int left, .int mixed, .int total] ∧ cs.length ≤ 63 ∧ 0 ≤ i ∧ i ≤ cs.length ∧ 0 ≤ left ∧ 0 ≤ mixed ∧ mixed ≤ c
theorem DeckC.up {c c' : Nat} {cell : Cell} (h : DeckC c cell) (hc : c ≤ c') : DeckC c' cell := by
  obtain ⟨cs, i, left, mixed, total, e, a, b, d, f, g, k⟩ := h
  exact ⟨cs, i, left, mixed, total, e, a, b, d, f, g, by omega⟩
/-- from S to S' the deck at p alone has changed -/
def Dk (c : Nat) (p : Addr) (S S' : Store) : Prop := ∃ cell, DeckC c cell ∧ S' = sput S p cell
def DkAt (c : Nat) (p : Addr) (S : Store) : Prop := ∃ cell, DeckC c cell ∧ S p = some cell
theorem DkAt.up {c c' : Nat} {p : Addr} {S : Store} (h : DkAt c p S) (hc : c ≤ c') : DkAt c' p S := by
  obtain ⟨cell, a, e⟩ := h
  exact ⟨cell, a.up hc, e⟩
theorem Dk.at {c : Nat} {p : Addr} {S S' : Store} (h : Dk c p S S') : DkAt c p S' := by
  obtain ⟨cell, a, rfl⟩ := h
  exact ⟨cell, a, sput_same⟩
theorem Dk.trans {c c' : Nat} {p : Addr} {S S1 S2 : Store} (h : Dk c p S S1) (h' : Dk c' p S1 S2) : Dk c' p S S2 := by
  obtain ⟨cell, a, rfl⟩ := h
  obtain ⟨cell', a', rfl⟩ := h'
  exact ⟨cell', a', sput_sput⟩
theorem Dk.up {c c' : Nat} {p : Addr} {S S1 : Store} (h : Dk c p S S1) (hc : c ≤ c') : Dk c' p S S1 := by
  obtain ⟨cell, a, e⟩ := h
  exact ⟨cell, a.up hc, e⟩
def Few (c : Nat) : Prop := c < 2 ^ 50
def w_law_next (f1 : On) : WS :=
  (wSeq (wIfS (wAnd (wTst (w2 oEq (w2 oIx (wVar 0) (wC (.int 2))) (wC (.int 0)))) (wTst (w2 oLt (w2 oIx (wVar 0) (wC (.int 1))) (wCall oLen (wCons (w2 oIx (wVar 0) (wC (.int 0))) wNil))))) (wSeq (wSet 2 (w2 oIx (w2 oIx (wVar 0) (wC (.int 0))) (w2 oIx (wVar 0) (wC (.int 1)))))
  (wSeq (wAsg (w2 oAdd (w2 oIx (wVar 0) (wC (.int 1))) (wC (.int 1))) (gS (wVar 0) (wC (.int 1)) oSet))
  (wSeq (wIfS (wTst (w2 oLt (wVar 2) (w2 oPow (wC (.int 10)) (wC (.int 18))))) (wRet (w2 oMod (wCall f1 (wCons (wVar 2) (wCons (w2 oIx (wVar 0) (wC (.int 1))) wNil))) (wVar 1))) wNext)
  (wAsg (wVar 2) (gS (wVar 0) (wC (.int 2)) oSet))))) wNext)
  (wSeq (wIfS (wTst (w2 oGt (w2 oIx (wVar 0) (wC (.int 2))) (wC (.int 0)))) (wSeq (wSet 3 (w2 oMod (w2 oIx (wVar 0) (wC (.int 2))) (wVar 1)))
  (wSeq (wAsg (w2 oFdiv (w2 oIx (wVar 0) (wC (.int 2))) (wVar 1)) (gS (wVar 0) (wC (.int 2)) oSet))
  (wRet (wVar 3)))) wNext)
  (wSeq (wAsg (w2 oAdd (w2 oIx (wVar 0) (wC (.int 3))) (wC (.int 1))) (gS (wVar 0) (wC (.int 3)) oSet))
  (wRet (w2 oMod (wCall f1 (wCons (w2 oIx (wVar 0) (wC (.int 4))) (wCons (w2 oAdd (w2 oIx (wVar 0) (wC (.int 3))) (wC (.int 63))) wNil))) (wVar 1))))))
@[irreducible] def m_law_next : On := fun ds S Q => ∃ (p : Addr) (many : Int) (c : Nat), ds = [.ref p, .int many] ∧ 0 < many ∧ many < 2 ^ 60 ∧ Few c ∧ DkAt c p S ∧ ∀ r S', 0 ≤ r → r < many → Dk (c + 1) p S S' → Q (.int r) S'
theorem in_law_next {ds : List D} {S : Store} {Q : D → Store → Prop} (h : (fun ds S Q => ∃ (p : Addr) (many : Int) (c : Nat), ds = [.ref p, .int many] ∧ 0 < many ∧ many < 2 ^ 60 ∧ Few c ∧ DkAt c p S ∧ ∀ r S', 0 ≤ r → r < many → Dk (c + 1) p S S' → Q (.int r) S' : On) ds S Q) : m_law_next ds S Q := by unfold m_law_next; exact h
theorem pow18 : ((10 : Int) ^ (18 : Int).toNat) = 1000000000000000000 := by decide
theorem v_law_next (ds : List D) (S : Store) (Q : D → Store → Prop) (h : m_law_next ds S Q) : w_law_next m_law_mix (fin Q) (dst 4 ds) S := by
  unfold m_law_next at h
  obtain ⟨p, many, c, rfl, hm, hm2, hf, ⟨_, ⟨cs, i, left, mixed, total, rfl, hl, hi, hi2, hleft, hmix, hmix2⟩, hS⟩, q⟩ := h
  have fm : ∀ (x : Int), 0 ≤ x.fmod many ∧ x.fmod many < many := fun x => ⟨by rw [Int.fmod_eq_emod_of_nonneg _ (by omega)]; exact Int.emod_nonneg _ (by omega), by rw [Int.fmod_eq_emod_of_nonneg _ (by omega)]; exact Int.emod_lt_of_pos _ hm⟩
  have hcf : ∀ x, CFd x many := fun x => by show _ ≠ _; omega
  unfold Few at hf
  -- behind the first branch: what is left is drawn from, or mixed anew
  have rest : ∀ (S1 : Store) (i left : Int) (o2 o3 : Option D), 0 ≤ i → i ≤ cs.length → 0 ≤ left → (∀ r S', 0 ≤ r → r < many → Dk (c + 1) p S1 S' → Q (.int r) S') → S1 p = some (.lst [.lst (cs.map D.int), .int i, .int left, .int mixed, .int total]) →
      wSeq (wIfS (wTst (w2 oGt (w2 oIx (wVar 0) (wC (.int 2))) (wC (.int 0)))) (wSeq (wSet 3 (w2 oMod (w2 oIx (wVar 0) (wC (.int 2))) (wVar 1)))
        (wSeq (wAsg (w2 oFdiv (w2 oIx (wVar 0) (wC (.int 2))) (wVar 1)) (gS (wVar 0) (wC (.int 2)) oSet)) (wRet (wVar 3)))) wNext)
        (wSeq (wAsg (w2 oAdd (w2 oIx (wVar 0) (wC (.int 3))) (wC (.int 1))) (gS (wVar 0) (wC (.int 3)) oSet))
        (wRet (w2 oMod (wCall m_law_mix (wCons (w2 oIx (wVar 0) (wC (.int 4))) (wCons (w2 oAdd (w2 oIx (wVar 0) (wC (.int 3))) (wC (.int 63))) wNil))) (wVar 1)))) (fin Q) [some (.ref p), some (.int many), o2, o3] S1 := by
    intro S1 i left o2 o3 hi hi2 hleft q hS
    refine ⟨_, rfl, _, _, hS, rfl, ite_nf (fun h => ?_) (fun h => ?_)⟩
    · refine ⟨_, rfl, _, _, hS, rfl, _, rfl, (by omega : many ≠ 0), _, rfl, _, _, hS, rfl, _, rfl, hcf left, _, rfl, _, 2, hS, rfl, _, rfl, ?_⟩
      refine q _ _ (fm left).1 (fm left).2 ⟨_, ⟨cs, i, left.fdiv many, mixed, total, rfl, hl, hi, hi2, ?_, hmix, by omega⟩, rfl⟩
      rw [Int.fdiv_eq_ediv_of_nonneg _ (by omega)]
      exact Int.ediv_nonneg hleft (by omega)
    · refine ⟨_, rfl, _, _, hS, rfl, _, rfl, _, 3, hS, rfl, _, rfl, _, _, sput_same, rfl, _, rfl, _, _, sput_same, rfl, use_mix (by omega) (by omega) fun r hr => ⟨_, rfl, (by omega : many ≠ 0), ?_⟩⟩
      exact q _ _ (fm r).1 (fm r).2 ⟨_, ⟨cs, i, left, mixed + 1, total, rfl, hl, hi, hi2, hleft, by omega, by omega⟩, rfl⟩
  refine ⟨_, rfl, _, _, hS, rfl, ?_⟩
  show if decide (left = 0) = true then _ else _
  refine ite_nf (fun h0 => ⟨_, rfl, _, _, hS, rfl, _, rfl, _, _, hS, rfl, _, rfl, ?_⟩) (fun h0 => ?_)
  · refine ite_nf (fun h1 => ?_) (fun h1 => rest S i left none none hi hi2 hleft q hS)
    rw [List.length_map] at h1
    have hn : i.toNat < cs.length := by omega
    have hat : atI (cs.map D.int) i = some (.int cs[i.toNat]) := by
      have e := atI_nat (xs := cs.map D.int) (j := i.toNat) (v := .int cs[i.toNat]) (by simp [hn])
      rwa [show ((i.toNat : Nat) : Int) = i by omega] at e
    refine ⟨_, rfl, _, _, hS, rfl, _, rfl, _, _, hS, rfl, _, _, rfl, hat, _, rfl, _, _, hS, rfl, _, rfl, _, 1, hS, rfl, _, rfl, ⟨by decide, by decide, by decide⟩, ?_⟩
    refine ite_nf (fun h2 => ?_) (fun h2 => ?_)
    · refine ⟨_, rfl, _, rfl, _, _, sput_same, rfl, use_mix (by omega) (by omega) fun r hr => ⟨_, rfl, (by omega : many ≠ 0), ?_⟩⟩
      exact q _ _ (fm r).1 (fm r).2 ⟨_, ⟨cs, i + 1, left, mixed, total, rfl, hl, by omega, by omega, hleft, hmix, by omega⟩, rfl⟩
    · refine ⟨_, rfl, _, rfl, _, 2, sput_same, rfl, ?_⟩
      refine rest _ (i + 1) cs[i.toNat] _ _ (by omega) (by omega) ?_ (fun r S' h1 h2 h3 => q r S' h1 h2 ?_) sput_same
      · rw [pow18] at h2; omega
      · obtain ⟨cell, a, rfl⟩ := h3
        exact ⟨cell, a, by rw [sput_sput, sput_sput]⟩
  · exact rest S i left none none hi hi2 hleft q hS
theorem l_law_mix (ds : List D) (S : Store) (Q : D → Store → Prop) (h : m_law_mix ds S Q) : ds.length = 2 := by unfold m_law_mix at h; obtain ⟨_, _, rfl, _⟩ := h; rfl
theorem l_law_next (ds : List D) (S : Store) (Q : D → Store → Prop) (h : m_law_next ds S Q) : ds.length = 2 := by unfold m_law_next at h; obtain ⟨_, _, _, rfl, _⟩ := h; rfl
theorem use_next {p : Addr} {many : Int} {c : Nat} {S : Store} {Q : D → Store → Prop} (h : DkAt c p S) (hc : c < 2 ^ 49) (hm : 0 < many) (hm2 : many < 2 ^ 60) (k : ∀ r S', 0 ≤ r → r < many → Dk (c + 1) p S S' → Q (.int r) S') : m_law_next [.ref p, .int many] S Q := by
  unfold m_law_next; exact ⟨p, many, c, rfl, hm, hm2, by unfold Few; omega, h, k⟩
theorem len_sc {d : D} {l : List D} {S : Store} {Q : D → Store → Prop} (h : d = .lst l ∨ d = .kls l) (q : Q (.int l.length) S) : oLen [d] S Q := by
  rcases h with rfl | rfl
  · exact ⟨_, rfl, q⟩
  · exact ⟨_, rfl, q⟩
/-- the script, or a list made of it -/
def ScD (d : D) (ns : List Int) : Prop := d = .lst (ns.map D.int) ∨ d = .kls (ns.map D.int)
def w_law_deck : WS :=
  (wRet (wLstM (wCons (wSl (wVar 0) wNoP (wP (wC (.int 63)))) (wCons (wC (.int 0)) (wCons (wC (.int 0)) (wCons (wC (.int 0)) (wCons (wCall oSum (wCons (wSl (wVar 0) wNoP (wP (wC (.int 63)))) wNil)) wNil)))))))
@[irreducible] def m_law_deck : On := fun ds S Q => ∃ (d : D) (ns : List Int), ds = [d] ∧ ScD d ns ∧ ∀ p S', S p = none → Dk 0 p S S' → Q (.ref p) S'
theorem in_law_deck {ds : List D} {S : Store} {Q : D → Store → Prop} (h : (fun ds S Q => ∃ (d : D) (ns : List Int), ds = [d] ∧ ScD d ns ∧ ∀ p S', S p = none → Dk 0 p S S' → Q (.ref p) S' : On) ds S Q) : m_law_deck ds S Q := by unfold m_law_deck; exact h
theorem cutD_to {ns : List Int} {k : Nat} : cutD (ns.map D.int) none (some (k : Int)) = (ns.take k).map D.int := by
  unfold cutD
  rw [HT.sIx_none, HT.sIx_nat, List.length_map, List.drop_zero, Nat.sub_zero, ← List.map_take]
  congr 1
  by_cases h : k ≤ ns.length
  · rw [Nat.min_eq_left h]
  · rw [Nat.min_eq_right (by omega), List.take_of_length_le (Nat.le_refl _), List.take_of_length_le (by omega)]
theorem v_law_deck (ds : List D) (S : Store) (Q : D → Store → Prop) (h : m_law_deck ds S Q) : w_law_deck (fin Q) (dst 1 ds) S := by
  unfold m_law_deck at h
  obtain ⟨d, ns, rfl, hd, q⟩ := h
  have e : cutD (ns.map D.int) none (some (63 : Int)) = (ns.take 63).map D.int := cutD_to (k := 63)
  have fin2 : ∀ p, S p = none → Q (.ref p) (sput S p (.lst [.lst (cutD (ns.map D.int) none (some 63)), .int 0, .int 0, .int 0, .int (ns.take 63).sum])) := fun p hp => by
    rw [e]
    exact q p _ hp ⟨_, ⟨ns.take 63, 0, 0, 0, _, rfl, by rw [List.length_take]; omega, by omega, by omega, by omega, by omega, by omega⟩, rfl⟩
  rcases hd with rfl | rfl
  · exact ⟨_, rfl, _, rfl, _, rfl, _, rfl, ns.take 63, e, by show 5 ≤ sizeLine; decide, fun p hp => fin2 p hp⟩
  · exact ⟨_, rfl, _, rfl, ns.take 63, e, by show 5 ≤ sizeLine; decide, fun p hp => fin2 p hp⟩
theorem l_law_deck (ds : List D) (S : Store) (Q : D → Store → Prop) (h : m_law_deck ds S Q) : ds.length = 1 := by unfold m_law_deck at h; obtain ⟨_, _, rfl, _⟩ := h; rfl
theorem use_deck {d : D} {ns : List Int} {S : Store} {Q : D → Store → Prop} (h : ScD d ns) (q : ∀ p S', S p = none → Dk 0 p S S' → Q (.ref p) S') : m_law_deck [d] S Q := by
  unfold m_law_deck; exact ⟨d, ns, rfl, h, q⟩
def w_law_great (f1 : On) : WS :=
  (wSeq (wSet 1 (wCall f1 (wCons (wVar 0) (wCons (wC (.int 4)) wNil))))
  (wSeq (wIfS (wTst (w2 oEq (wVar 1) (wC (.int 0)))) (wRet (w2 oSub (w2 oSub (w2 oPow (wC (.int 10)) (wC (.int 12))) (wC (.int 1))) (wCall f1 (wCons (wVar 0) (wCons (wC (.int 3)) wNil))))) wNext)
  (wRet (w2 oFdiv (w2 oAdd (w2 oMul (wCall f1 (wCons (wVar 0) (wCons (w2 oPow (wC (.int 10)) (wC (.int 6))) wNil))) (w2 oPow (wC (.int 10)) (wC (.int 6)))) (wCall f1 (wCons (wVar 0) (wCons (w2 oPow (wC (.int 10)) (wC (.int 6))) wNil)))) (w2 oIx (wLst (wCons (wC (.int 1)) (wCons (w2 oPow (wC (.int 10)) (wC (.int 3))) (wCons (w2 oPow (wC (.int 10)) (wC (.int 8))) wNil)))) (w2 oSub (wVar 1) (wC (.int 1))))))))
@[irreducible] def m_law_great : On := fun ds S Q => ∃ (p : Addr) (c : Nat), ds = [.ref p] ∧ c < 2 ^ 40 ∧ DkAt c p S ∧ ∀ r S', 0 ≤ r → r < 10 ^ 12 → Dk (c + 3) p S S' → Q (.int r) S'
theorem in_law_great {ds : List D} {S : Store} {Q : D → Store → Prop} (h : (fun ds S Q => ∃ (p : Addr) (c : Nat), ds = [.ref p] ∧ c < 2 ^ 40 ∧ DkAt c p S ∧ ∀ r S', 0 ≤ r → r < 10 ^ 12 → Dk (c + 3) p S S' → Q (.int r) S' : On) ds S Q) : m_law_great ds S Q := by unfold m_law_great; exact h
theorem l_law_great (ds : List D) (S : Store) (Q : D → Store → Prop) (h : m_law_great ds S Q) : ds.length = 1 := by unfold m_law_great at h; obtain ⟨_, _, rfl, _⟩ := h; rfl
theorem v_law_great (ds : List D) (S : Store) (Q : D → Store → Prop) (h : m_law_great ds S Q) : w_law_great m_law_next (fin Q) (dst 2 ds) S := by
  unfold m_law_great at h
  obtain ⟨p, c, rfl, hc, hS, q⟩ := h
  refine ⟨_, rfl, use_next hS (by omega) (by decide) (by decide) fun r S1 h0 h1 d1 => ⟨_, rfl, ite_nf (fun h => ⟨⟨by decide, by decide, by decide⟩, _, rfl, use_next d1.at (by omega) (by decide) (by decide) fun r2 S2 g0 g1 d2 => ?_⟩) (fun h => ?_)⟩⟩
  · exact q _ _ (by rw [show (10 : Int) ^ (12 : Int).toNat = 1000000000000 by decide]; omega) (by rw [show (10 : Int) ^ (12 : Int).toNat = 1000000000000 by decide]; omega) ((d1.trans d2).up (by omega))
  · refine ⟨_, rfl, ⟨by decide, by decide, by decide⟩, use_next d1.at (by omega) (by decide) (by decide) fun r2 S2 g0 g1 d2 => ⟨⟨by decide, by decide, by decide⟩, ?_⟩⟩
    rw [show (10 : Int) ^ (6 : Int).toNat = 1000000 by decide] at g1
    refine ⟨mulOk (a := 20) (b := 20) (by omega) (by decide), _, rfl, ⟨by decide, by decide, by decide⟩, use_next d2.at (by omega) (by decide) (by decide) fun r3 S3 k0 k1 d3 => ?_⟩
    rw [show (10 : Int) ^ (6 : Int).toNat = 1000000 by decide] at k1
    obtain ⟨s, hs, hat⟩ := atI_int (ns := [1, (10 : Int) ^ (3 : Int).toNat, (10 : Int) ^ (8 : Int).toNat]) (r := r - 1) (by omega) (by simp; omega)
    have hs1 : 1 ≤ s ∧ s ≤ 100000000 := by
      simp only [List.mem_cons, List.not_mem_nil, or_false] at hs
      rcases hs with rfl | rfl | rfl <;> decide
    refine ⟨⟨by decide, by decide, by decide⟩, ⟨by decide, by decide, by decide⟩, by decide, _, rfl, _, _, rfl, hat, cfd_of (b := 30) (by omega) (by omega), ?_⟩
    have e6 : (10 : Int) ^ (6 : Int).toNat = 1000000 := by decide
    have e12 : (10 : Int) ^ 12 = 1000000000000 := by decide
    have ef : (r2 * (10 : Int) ^ (6 : Int).toNat + r3).fdiv s = (r2 * 1000000 + r3) / s := by rw [e6, Int.fdiv_eq_ediv_of_nonneg _ (by omega)]
    have h2 : (r2 * 1000000 + r3) / s ≤ r2 * 1000000 + r3 := Int.ediv_le_self _ (by omega)
    refine q _ _ ?_ ?_ (((d1.trans d2).trans d3).up (by omega))
    · rw [ef]; exact Int.ediv_nonneg (by omega) (by omega)
    · rw [ef, e12]; omega
theorem use_great {p : Addr} {c : Nat} {S : Store} {Q : D → Store → Prop} (h : DkAt c p S) (hc : c < 2 ^ 40) (k : ∀ r S', 0 ≤ r → r < 10 ^ 12 → Dk (c + 3) p S S' → Q (.int r) S') : m_law_great [.ref p] S Q := by
  unfold m_law_great; exact ⟨p, c, rfl, hc, h, k⟩

end ND
set_option Elab.async false
set_option linter.all false
set_option maxRecDepth 100000
namespace ND
open PySem PySem.Spec PyProof.Rows L2
/-! ### fractions by their sizes -/
def bq (n : Nat) (q : Rat) : Prop := q.num.natAbs < 2 ^ n ∧ q.den < 2 ^ n
theorem bq.mono {n m : Nat} {q : Rat} (h : bq n q) (hm : n ≤ m) : bq m q :=
  ⟨Nat.lt_of_lt_of_le h.1 (Nat.pow_le_pow_right (by decide) hm), Nat.lt_of_lt_of_le h.2 (Nat.pow_le_pow_right (by decide) hm)⟩
theorem bq_zero : bq 1 0 := ⟨by decide, by decide⟩
theorem bq_one : bq 1 1 := ⟨by decide, by decide⟩
theorem num_le {t u : Int} (hu : u ≠ 0) : (Rat.divInt t u).num.natAbs ≤ t.natAbs := by
  rw [Rat.num_divInt]
  have hg : 0 < Int.gcd u t := Int.gcd_pos_of_ne_zero_left t hu
  rw [Int.natAbs_ediv_of_dvd (Int.dvd_mul_of_dvd_right (Int.gcd_dvd_right ..) )]
  rw [Int.natAbs_mul, Int.natAbs_sign_of_ne_zero hu, Nat.one_mul]
  exact Nat.div_le_self _ _
theorem den_le {t u : Int} (hu : u ≠ 0) : (Rat.divInt t u).den ≤ u.natAbs := by
  rw [Rat.den_divInt, if_neg hu]
  exact Nat.div_le_self _ _
theorem bq_divInt {t u : Int} {n : Nat} (hu : u ≠ 0) (ht : t.natAbs < 2 ^ n) (hu2 : u.natAbs < 2 ^ n) : bq n (Rat.divInt t u) :=
  ⟨Nat.lt_of_le_of_lt (num_le hu) ht, Nat.lt_of_le_of_lt (den_le hu) hu2⟩
theorem add_lt_pow {x y : Int} {a b : Nat} (hx : x.natAbs < 2 ^ a) (hy : y.natAbs < 2 ^ b) (h : b ≤ a) : (x + y).natAbs < 2 ^ (a + 1) := by
  have h1 : 2 ^ b ≤ 2 ^ a := Nat.pow_le_pow_right (by decide) h
  rw [Nat.pow_succ]
  omega
theorem sub_lt_pow {x y : Int} {a b : Nat} (hx : x.natAbs < 2 ^ a) (hy : y.natAbs < 2 ^ b) (h : b ≤ a) : (x - y).natAbs < 2 ^ (a + 1) := by
  have h1 : 2 ^ b ≤ 2 ^ a := Nat.pow_le_pow_right (by decide) h
  rw [Nat.pow_succ]
  omega
theorem den_abs {q : Rat} {n : Nat} (h : bq n q) : ((q.den : Nat) : Int).natAbs < 2 ^ n := by have := h.2; simpa using this
theorem den_ne {q : Rat} : ((q.den : Nat) : Int) ≠ 0 := by have := q.den_nz; omega
theorem den_mul_ne {a b : Rat} : ((a.den : Nat) : Int) * ((b.den : Nat) : Int) ≠ 0 := Int.mul_ne_zero den_ne den_ne
theorem bq_pos {n : Nat} {q : Rat} (h : bq n q) : 0 < n := by
  rcases Nat.eq_zero_or_pos n with e | e
  · subst e
    have := h.2
    have := q.den_nz
    omega
  · exact e
theorem bq_add {n m : Nat} {a b : Rat} (ha : bq n a) (hb : bq m b) : bq (n + m + 1) (a + b) := by
  rw [Rat.add_def', ← Rat.divInt_ofNat]
  have h1 : ((a.den * b.den : Nat) : Int).natAbs < 2 ^ (n + m) := by rw [Int.natCast_mul]; exact wide_lt (den_abs ha) (den_abs hb)
  refine bq_divInt (by have := a.den_nz; have := b.den_nz; rw [Int.natCast_mul]; exact den_mul_ne) (add_lt_pow (wide_lt ha.1 (den_abs hb)) (wide_lt (a := m) (b := n) hb.1 (den_abs ha)) (by omega)) (Nat.lt_of_lt_of_le h1 (Nat.pow_le_pow_right (by decide) (by omega)))
theorem bq_neg {n : Nat} {a : Rat} (ha : bq n a) : bq n (-a) := ⟨by rw [Rat.neg_num, Int.natAbs_neg]; exact ha.1, ha.2⟩
theorem bq_sub {n m : Nat} {a b : Rat} (ha : bq n a) (hb : bq m b) : bq (n + m + 1) (a - b) := by
  rw [Rat.sub_eq_add_neg]; exact bq_add ha (bq_neg hb)
theorem bq_mul {n m : Nat} {a b : Rat} (ha : bq n a) (hb : bq m b) : bq (n + m) (a * b) := by
  rw [Rat.mul_def', ← Rat.divInt_ofNat, Int.natCast_mul]
  exact bq_divInt den_mul_ne (wide_lt ha.1 hb.1) (wide_lt (den_abs ha) (den_abs hb))
/-! ### the four deeds -/
theorem gok_mul {x y t : Int} {n m : Nat} (hx : x.natAbs < 2 ^ n) (hy : y.natAbs < 2 ^ m) (h : x * y ≠ 0) (hnm : n + m ≤ 900000) (h0 : 0 < n + m) : GOk t (x * y) := gok_of h (wide_lt hx hy) h0 hnm
def w_plus (f1 : On) : WS :=
  (wRet (wCall f1 (wCons (w2 oAdd (w2 oMul (w2 oIx (wVar 0) (wC (.int 0))) (w2 oIx (wVar 1) (wC (.int 1)))) (w2 oMul (w2 oIx (wVar 1) (wC (.int 0))) (w2 oIx (wVar 0) (wC (.int 1))))) (wCons (w2 oMul (w2 oIx (wVar 0) (wC (.int 1))) (w2 oIx (wVar 1) (wC (.int 1)))) wNil))))
@[irreducible] def m_plus : On := fun ds S Q => ∃ (a b : Rat) (n m : Nat), ds = [dQ a, dQ b] ∧ bq n a ∧ bq m b ∧ n + m ≤ 900000 ∧ Q (dQ (a + b)) S
theorem in_plus {ds : List D} {S : Store} {Q : D → Store → Prop} (h : (fun ds S Q => ∃ (a b : Rat) (n m : Nat), ds = [dQ a, dQ b] ∧ bq n a ∧ bq m b ∧ n + m ≤ 900000 ∧ Q (dQ (a + b)) S : On) ds S Q) : m_plus ds S Q := by unfold m_plus; exact h
theorem use_plus {a b : Rat} {n m : Nat} {S : Store} {Q : D → Store → Prop} (ha : bq n a) (hb : bq m b) (h : n + m ≤ 900000) (q : Q (dQ (a + b)) S) : m_plus [dQ a, dQ b] S Q := by unfold m_plus; exact ⟨a, b, n, m, rfl, ha, hb, h, q⟩
theorem l_plus (ds : List D) (S : Store) (Q : D → Store → Prop) (h : m_plus ds S Q) : ds.length = 2 := by unfold m_plus at h; obtain ⟨_, _, _, _, rfl, _⟩ := h; rfl
theorem v_plus (ds : List D) (S : Store) (Q : D → Store → Prop) (h : m_plus ds S Q) : w_plus m_fraction (fin Q) (dst 2 ds) S := by
  unfold m_plus at h
  obtain ⟨a, b, n, m, rfl, ha, hb, hnm, q⟩ := h
  have n0 := bq_pos ha
  have m0 := bq_pos hb
  refine ⟨_, rfl, _, _, rfl, rfl, _, rfl, _, _, rfl, rfl, mulOk ha.1 (den_abs hb) n0 m0 (by omega), _, rfl, _, _, rfl, rfl, _, rfl, _, _, rfl, rfl, mulOk hb.1 (den_abs ha) m0 n0 (by omega), _, rfl, _, _, rfl, rfl, _, rfl, _, _, rfl, rfl, mulOk (den_abs ha) (den_abs hb) n0 m0 (by omega), use_fraction den_mul_ne (gok_mul (den_abs ha) (den_abs hb) den_mul_ne hnm (by omega)) ?_⟩
  rw [← Int.natCast_mul, Rat.divInt_ofNat, ← Rat.add_def']
  exact q
def w_less (f1 : On) : WS :=
  (wRet (wCall f1 (wCons (w2 oSub (w2 oMul (w2 oIx (wVar 0) (wC (.int 0))) (w2 oIx (wVar 1) (wC (.int 1)))) (w2 oMul (w2 oIx (wVar 1) (wC (.int 0))) (w2 oIx (wVar 0) (wC (.int 1))))) (wCons (w2 oMul (w2 oIx (wVar 0) (wC (.int 1))) (w2 oIx (wVar 1) (wC (.int 1)))) wNil))))
@[irreducible] def m_less : On := fun ds S Q => ∃ (a b : Rat) (n m : Nat), ds = [dQ a, dQ b] ∧ bq n a ∧ bq m b ∧ n + m ≤ 900000 ∧ Q (dQ (a - b)) S
theorem in_less {ds : List D} {S : Store} {Q : D → Store → Prop} (h : (fun ds S Q => ∃ (a b : Rat) (n m : Nat), ds = [dQ a, dQ b] ∧ bq n a ∧ bq m b ∧ n + m ≤ 900000 ∧ Q (dQ (a - b)) S : On) ds S Q) : m_less ds S Q := by unfold m_less; exact h
theorem use_less {a b : Rat} {n m : Nat} {S : Store} {Q : D → Store → Prop} (ha : bq n a) (hb : bq m b) (h : n + m ≤ 900000) (q : Q (dQ (a - b)) S) : m_less [dQ a, dQ b] S Q := by unfold m_less; exact ⟨a, b, n, m, rfl, ha, hb, h, q⟩
theorem l_less (ds : List D) (S : Store) (Q : D → Store → Prop) (h : m_less ds S Q) : ds.length = 2 := by unfold m_less at h; obtain ⟨_, _, _, _, rfl, _⟩ := h; rfl
theorem v_less (ds : List D) (S : Store) (Q : D → Store → Prop) (h : m_less ds S Q) : w_less m_fraction (fin Q) (dst 2 ds) S := by
  unfold m_less at h
  obtain ⟨a, b, n, m, rfl, ha, hb, hnm, q⟩ := h
  have n0 := bq_pos ha
  have m0 := bq_pos hb
  refine ⟨_, rfl, _, _, rfl, rfl, _, rfl, _, _, rfl, rfl, mulOk ha.1 (den_abs hb) n0 m0 (by omega), _, rfl, _, _, rfl, rfl, _, rfl, _, _, rfl, rfl, mulOk hb.1 (den_abs ha) m0 n0 (by omega), _, rfl, _, _, rfl, rfl, _, rfl, _, _, rfl, rfl, mulOk (den_abs ha) (den_abs hb) n0 m0 (by omega), use_fraction den_mul_ne (gok_mul (den_abs ha) (den_abs hb) den_mul_ne hnm (by omega)) ?_⟩
  rw [← Int.natCast_mul, Rat.divInt_ofNat, ← Rat.sub_def']
  exact q
def w_times (f1 : On) : WS :=
  (wRet (wCall f1 (wCons (w2 oMul (w2 oIx (wVar 0) (wC (.int 0))) (w2 oIx (wVar 1) (wC (.int 0)))) (wCons (w2 oMul (w2 oIx (wVar 0) (wC (.int 1))) (w2 oIx (wVar 1) (wC (.int 1)))) wNil))))
@[irreducible] def m_times : On := fun ds S Q => ∃ (a b : Rat) (n m : Nat), ds = [dQ a, dQ b] ∧ bq n a ∧ bq m b ∧ n + m ≤ 900000 ∧ Q (dQ (a * b)) S
theorem in_times {ds : List D} {S : Store} {Q : D → Store → Prop} (h : (fun ds S Q => ∃ (a b : Rat) (n m : Nat), ds = [dQ a, dQ b] ∧ bq n a ∧ bq m b ∧ n + m ≤ 900000 ∧ Q (dQ (a * b)) S : On) ds S Q) : m_times ds S Q := by unfold m_times; exact h
theorem use_times {a b : Rat} {n m : Nat} {S : Store} {Q : D → Store → Prop} (ha : bq n a) (hb : bq m b) (h : n + m ≤ 900000) (q : Q (dQ (a * b)) S) : m_times [dQ a, dQ b] S Q := by unfold m_times; exact ⟨a, b, n, m, rfl, ha, hb, h, q⟩
theorem l_times (ds : List D) (S : Store) (Q : D → Store → Prop) (h : m_times ds S Q) : ds.length = 2 := by unfold m_times at h; obtain ⟨_, _, _, _, rfl, _⟩ := h; rfl
theorem v_times (ds : List D) (S : Store) (Q : D → Store → Prop) (h : m_times ds S Q) : w_times m_fraction (fin Q) (dst 2 ds) S := by
  unfold m_times at h
  obtain ⟨a, b, n, m, rfl, ha, hb, hnm, q⟩ := h
  have n0 := bq_pos ha
  have m0 := bq_pos hb
  refine ⟨_, rfl, _, _, rfl, rfl, _, rfl, _, _, rfl, rfl, mulOk ha.1 hb.1 n0 m0 (by omega), _, rfl, _, _, rfl, rfl, _, rfl, _, _, rfl, rfl, mulOk (den_abs ha) (den_abs hb) n0 m0 (by omega), use_fraction den_mul_ne (gok_mul (den_abs ha) (den_abs hb) den_mul_ne hnm (by omega)) ?_⟩
  rw [← Int.natCast_mul, Rat.divInt_ofNat, ← Rat.mul_def']
  exact q
/-! ### compared -/
def cmpQ (a b : Rat) : Int := if a < b then -1 else if b < a then 1 else 0
theorem cross_lt {a b : Rat} : (a.num * (b.den : Nat) - b.num * (a.den : Nat) : Int) < 0 ↔ a < b := by
  rw [Rat.lt_iff]; omega
theorem cross_gt {a b : Rat} : 0 < (a.num * (b.den : Nat) - b.num * (a.den : Nat) : Int) ↔ b < a := by
  rw [Rat.lt_iff]; omega
def w_compared : WS :=
  (wSeq (wSet 2 (w2 oSub (w2 oMul (w2 oIx (wVar 0) (wC (.int 0))) (w2 oIx (wVar 1) (wC (.int 1)))) (w2 oMul (w2 oIx (wVar 1) (wC (.int 0))) (w2 oIx (wVar 0) (wC (.int 1))))))
  (wRet (w2 oSub (wCall oInt (wCons (w2 oGt (wVar 2) (wC (.int 0))) wNil)) (wCall oInt (wCons (w2 oLt (wVar 2) (wC (.int 0))) wNil)))))
@[irreducible] def m_compared : On := fun ds S Q => ∃ (a b : Rat) (n m : Nat), ds = [dQ a, dQ b] ∧ bq n a ∧ bq m b ∧ n + m ≤ 1000000 ∧ Q (.int (cmpQ a b)) S
theorem in_compared {ds : List D} {S : Store} {Q : D → Store → Prop} (h : (fun ds S Q => ∃ (a b : Rat) (n m : Nat), ds = [dQ a, dQ b] ∧ bq n a ∧ bq m b ∧ n + m ≤ 1000000 ∧ Q (.int (cmpQ a b)) S : On) ds S Q) : m_compared ds S Q := by unfold m_compared; exact h
theorem use_compared {a b : Rat} {n m : Nat} {S : Store} {Q : D → Store → Prop} (ha : bq n a) (hb : bq m b) (h : n + m ≤ 1000000) (q : Q (.int (cmpQ a b)) S) : m_compared [dQ a, dQ b] S Q := by unfold m_compared; exact ⟨a, b, n, m, rfl, ha, hb, h, q⟩
theorem l_compared (ds : List D) (S : Store) (Q : D → Store → Prop) (h : m_compared ds S Q) : ds.length = 2 := by unfold m_compared at h; obtain ⟨_, _, _, _, rfl, _⟩ := h; rfl
theorem v_compared (ds : List D) (S : Store) (Q : D → Store → Prop) (h : m_compared ds S Q) : w_compared (fin Q) (dst 3 ds) S := by
  unfold m_compared at h
  obtain ⟨a, b, n, m, rfl, ha, hb, hnm, q⟩ := h
  have n0 := bq_pos ha
  have m0 := bq_pos hb
  refine ⟨_, rfl, _, _, rfl, rfl, _, rfl, _, _, rfl, rfl, mulOk ha.1 (den_abs hb) n0 m0 hnm, _, rfl, _, _, rfl, rfl, _, rfl, _, _, rfl, rfl, mulOk hb.1 (den_abs ha) m0 n0 (by omega), _, rfl, _, rfl, ?_⟩
  show Q (.int _) S
  have e : ((if decide (0 < (a.num * (b.den : Nat) - b.num * (a.den : Nat) : Int)) = true then (1 : Int) else 0) - (if decide ((a.num * (b.den : Nat) - b.num * (a.den : Nat) : Int) < 0) = true then (1 : Int) else 0)) = cmpQ a b := by
    unfold cmpQ
    simp only [decide_eq_true_eq, cross_lt, cross_gt]
    by_cases h1 : a < b
    · have h2 : ¬ b < a := fun h => by grind
      simp [h1, h2]
    · by_cases h2 : b < a <;> simp [h1, h2]
  rw [← e] at q
  exact q
/-! ### products of rows -/
def dot : List Rat → List Rat → Rat
  | a :: as, b :: bs => a * b + dot as bs
  | _, _ => 0
theorem dot_nil_left (bs : List Rat) : dot [] bs = 0 := by cases bs <;> rfl
theorem dot_nil_right (as : List Rat) : dot as [] = 0 := by cases as <;> rfl
theorem dot_cons (a b : Rat) (as bs : List Rat) : dot (a :: as) (b :: bs) = a * b + dot as bs := rfl
theorem dot_snoc : ∀ (as bs : List Rat) (a b : Rat), as.length = bs.length → dot (as ++ [a]) (bs ++ [b]) = dot as bs + a * b
  | [], [], a, b, _ => by show a * b + 0 = 0 + a * b; rw [Rat.add_zero, Rat.zero_add]
  | [], _ :: _, _, _, h => by simp at h
  | _ :: _, [], _, _, h => by simp at h
  | x :: as, y :: bs, a, b, h => by
    have := dot_snoc as bs a b (by simpa using h)
    simp only [List.cons_append, dot_cons, this]
    grind
theorem dot_comm : ∀ (as bs : List Rat), dot as bs = dot bs as
  | [], bs => by rw [dot_nil_left, dot_nil_right]
  | _ :: _, [] => by rw [dot_nil_left, dot_nil_right]
  | a :: as, b :: bs => by rw [dot_cons, dot_cons, dot_comm as bs, Rat.mul_comm]
def rowD (as : List Rat) : List D := as.map dQ
theorem zip_at {as bs : List Rat} {i : Nat} {x : D} (h : (zipD (rowD as) (rowD bs))[i]? = some x) : ∃ a b, as[i]? = some a ∧ bs[i]? = some b ∧ x = .tup [dQ a, dQ b] := by
  unfold zipD rowD at h
  rw [List.getElem?_zipWith, List.getElem?_map, List.getElem?_map] at h
  cases h1 : as[i]? with
  | none => rw [h1] at h; simp at h
  | some a =>
    cases h2 : bs[i]? with
    | none => rw [h1, h2] at h; simp at h
    | some b =>
      rw [h1, h2] at h
      simp at h
      exact ⟨a, b, rfl, rfl, h.symm⟩
theorem divInt_add_same {x y d : Int} (hd : d ≠ 0) : Rat.divInt (x + y) d = Rat.divInt x d + Rat.divInt y d := by
  rw [Rat.divInt_add_divInt _ _ hd hd, ← Int.add_mul, Rat.divInt_mul_right hd]
theorem mul_divInt (a b : Rat) : a * b = Rat.divInt (a.num * b.num) ((a.den : Nat) * (b.den : Nat)) := by rw [Rat.mul_def', ← Rat.divInt_ofNat, Int.natCast_mul]
theorem watch_same {x : D} {l : List D} {S : Store} (h : SC S x l) : watchS x l S := by
  cases x with
  | ref a => exact h
  | _ => exact trivial
def w_product (f1 : On) : WS :=
  (wSeq (wSet 2 (wC (.int 0)))
  (wSeq (wSet 3 (wC (.int 1)))
  (wSeq (forS (wZipI (wCons (wVar 0) (wCons (wVar 1) wNil))) (gT 2 (gConss (gN 4) (gConss (gN 5) gNils))) (wSeq (wSet 6 (w2 oMul (w2 oIx (wVar 4) (wC (.int 1))) (w2 oIx (wVar 5) (wC (.int 1)))))
  (wIfS (wTst (w2 oEq (wVar 6) (wVar 3))) (wAug 2 (oI0 fun i j => .int (i + j)) (w2 oMul (w2 oIx (wVar 4) (wC (.int 0))) (w2 oIx (wVar 5) (wC (.int 0))))) (wIfS (wAnd (wTst (w2 oNe (w2 oIx (wVar 4) (wC (.int 0))) (wC (.int 0)))) (wTst (w2 oNe (w2 oIx (wVar 5) (wC (.int 0))) (wC (.int 0))))) (wSeq (wSet 2 (w2 oAdd (w2 oMul (wVar 2) (wVar 6)) (w2 oMul (w2 oMul (w2 oIx (wVar 4) (wC (.int 0))) (w2 oIx (wVar 5) (wC (.int 0)))) (wVar 3))))
  (wAug 3 (oI CMulW fun i j => .int (i * j)) (wVar 6))) wNext))))
  (wRet (wCall f1 (wCons (wVar 2) (wCons (wVar 3) wNil)))))))
@[irreducible] def m_product : On := fun ds S Q => ∃ (x y : D) (as bs : List Rat) (n m : Nat), ds = [x, y] ∧ SC S x (rowD as) ∧ SC S y (rowD bs) ∧ as.length = bs.length ∧ (∀ a ∈ as, bq n a) ∧ (∀ b ∈ bs, bq m b) ∧ 0 < n ∧ 0 < m ∧ (n + m + 1) * as.length ≤ 1000000 ∧ Q (dQ (dot as bs)) S
theorem in_product {ds : List D} {S : Store} {Q : D → Store → Prop} (h : (fun ds S Q => ∃ (x y : D) (as bs : List Rat) (n m : Nat), ds = [x, y] ∧ SC S x (rowD as) ∧ SC S y (rowD bs) ∧ as.length = bs.length ∧ (∀ a ∈ as, bq n a) ∧ (∀ b ∈ bs, bq m b) ∧ 0 < n ∧ 0 < m ∧ (n + m + 1) * as.length ≤ 1000000 ∧ Q (dQ (dot as bs)) S : On) ds S Q) : m_product ds S Q := by unfold m_product; exact h
theorem use_product {x y : D} {as bs : List Rat} {n m : Nat} {S : Store} {Q : D → Store → Prop} (hx : SC S x (rowD as)) (hy : SC S y (rowD bs)) (hl : as.length = bs.length) (ha : ∀ a ∈ as, bq n a) (hb : ∀ b ∈ bs, bq m b) (n0 : 0 < n) (m0 : 0 < m)
    (h : (n + m + 1) * (as.length + 1) ≤ 900000) (q : Q (dQ (dot as bs)) S) : m_product [x, y] S Q := by unfold m_product; exact ⟨x, y, as, bs, n, m, rfl, hx, hy, hl, ha, hb, n0, m0, by rw [Nat.mul_succ] at h; omega, q⟩
theorem use_product2 {x y : D} {as bs : List Rat} {n m : Nat} {S : Store} {Q : D → Store → Prop} (hx : SC S x (rowD as)) (hy : SC S y (rowD bs)) (hl : as.length = bs.length) (ha : ∀ a ∈ as, bq n a) (hb : ∀ b ∈ bs, bq m b) (n0 : 0 < n) (m0 : 0 < m)
    (h : (n + m + 1) * as.length ≤ 1000000) (q : Q (dQ (dot as bs)) S) : m_product [x, y] S Q := by unfold m_product; exact ⟨x, y, as, bs, n, m, rfl, hx, hy, hl, ha, hb, n0, m0, h, q⟩
theorem l_product (ds : List D) (S : Store) (Q : D → Store → Prop) (h : m_product ds S Q) : ds.length = 2 := by unfold m_product at h; obtain ⟨_, _, _, _, _, _, rfl, _⟩ := h; rfl
theorem v_product (ds : List D) (S : Store) (Q : D → Store → Prop) (h : m_product ds S Q) : w_product m_fraction (fin Q) (dst 7 ds) S := by
  unfold m_product at h
  obtain ⟨x, y, as, bs, n, m, rfl, hx, hy, hl, ha, hb, n0, m0, hsz, q⟩ := h
  have key : ∀ i, i < as.length → (n + m + 1) * i + (n + m + 1) ≤ 1000000 := fun i hi => by
    have h1 : (n + m + 1) * (i + 1) ≤ (n + m + 1) * as.length := Nat.mul_le_mul_left _ (by omega)
    rw [Nat.mul_succ] at h1
    omega
  refine ⟨_, rfl, _, rfl, _, _, hx, hy, ?_⟩
  refine for_inv (fun i env S' => S' = S ∧ i ≤ as.length ∧ ∃ (t b : Int) (o4 o5 o6 : Option D), env = [some x, some y, some (.int t), some (.int b), o4, o5, o6] ∧ 0 < b ∧ b.natAbs < 2 ^ ((n + m + 1) * i + 1) ∧ t.natAbs < 2 ^ ((n + m + 1) * i + 1) ∧ Rat.divInt t b = dot (as.take i) (bs.take i))
    ⟨rfl, Nat.zero_le _, 0, 1, none, none, none, rfl, by decide, by simp, by simp, by simp [dot]⟩ ?_ ?_
  · rintro i z env S' K hz ⟨rfl, hi, t, b, o4, o5, o6, rfl, hb0, hb1, ht, he⟩ hK
    obtain ⟨u, v, hu, hv, rfl⟩ := zip_at hz
    have iu : i < as.length := (List.getElem?_eq_some_iff.mp hu).1
    have bu := ha u (List.mem_of_getElem? hu)
    have bv := hb v (List.mem_of_getElem? hv)
    have hk := key i iu
    have hnew : dot (as.take (i + 1)) (bs.take (i + 1)) = dot (as.take i) (bs.take i) + u * v := by
      rw [List.take_add_one, List.take_add_one, hu, hv]
      exact dot_snoc _ _ _ _ (by simp [hl])
    have hp : ((u.den : Nat) : Int) * ((v.den : Nat) : Int) ≠ 0 := den_mul_ne
    have hp0 : 0 < ((u.den : Nat) : Int) * ((v.den : Nat) : Int) := Int.mul_pos (by have := u.den_pos; omega) (by have := v.den_pos; omega)
    have hpl : (((u.den : Nat) : Int) * ((v.den : Nat) : Int)).natAbs < 2 ^ (n + m) := wide_lt (den_abs bu) (den_abs bv)
    have hxl : (u.num * v.num).natAbs < 2 ^ (n + m) := wide_lt bu.1 bv.1
    have e3 : (n + m + 1) * (i + 1) + 1 = ((n + m + 1) * i + 1 + (n + m)) + 1 := by rw [Nat.mul_succ]; omega
    refine ⟨⟨watch_same hx, watch_same hy⟩, _, rfl, rfl, _, rfl, _, _, rfl, rfl, _, rfl, _, _, rfl, rfl, mulOk (den_abs bu) (den_abs bv) n0 m0 (by omega), _, rfl, _, rfl, ?_⟩
    refine ite_nf (fun hpb => ?_) (fun hpb => ?_)
    · subst hpb
      refine ⟨_, rfl, _, rfl, _, _, rfl, rfl, _, rfl, _, _, rfl, rfl, mulOk bu.1 bv.1 n0 m0 (by omega), hK _ _ ⟨rfl, iu, _, _, _, _, _, rfl, hb0, ?_, ?_, ?_⟩⟩
      · exact Nat.lt_of_lt_of_le hpl (Nat.pow_le_pow_right (by decide) (by omega))
      · rw [e3]; exact add_lt_pow (a := (n + m + 1) * i + 1 + (n + m)) (b := n + m) (Nat.lt_of_lt_of_le ht (Nat.pow_le_pow_right (by decide) (by omega))) hxl (by omega)
      · rw [divInt_add_same hp, he, ← mul_divInt, hnew]
    · refine ⟨_, rfl, _, _, rfl, rfl, ?_⟩
      have zero : u.num = 0 ∨ v.num = 0 → K [some x, some y, some (.int t), some (.int b), some (dQ u), some (dQ v), some (.int (((u.den : Nat) : Int) * ((v.den : Nat) : Int)))] S' := fun hz => by
        refine hK _ _ ⟨rfl, iu, t, b, _, _, _, rfl, hb0, Nat.lt_of_lt_of_le hb1 (Nat.pow_le_pow_right (by decide) (by omega)), Nat.lt_of_lt_of_le ht (Nat.pow_le_pow_right (by decide) (by omega)), ?_⟩
        have : u * v = 0 := by
          rcases hz with hz | hz
          · rw [Rat.num_eq_zero.mp hz, Rat.zero_mul]
          · rw [Rat.num_eq_zero.mp hz, Rat.mul_zero]
        rw [he, hnew, this, Rat.add_zero]
      have more : K [some x, some y, some (.int (t * (((u.den : Nat) : Int) * ((v.den : Nat) : Int)) + u.num * v.num * b)), some (.int (b * (((u.den : Nat) : Int) * ((v.den : Nat) : Int)))), some (dQ u), some (dQ v), some (.int (((u.den : Nat) : Int) * ((v.den : Nat) : Int)))] S' := by
        refine hK _ _ ⟨rfl, iu, _, _, _, _, _, rfl, Int.mul_pos hb0 hp0, ?_, ?_, ?_⟩
        · exact Nat.lt_of_lt_of_le (wide_lt hb1 hpl) (Nat.pow_le_pow_right (by decide) (by omega))
        · rw [e3]; exact add_lt_pow (wide_lt ht hpl) (wide_lt hxl hb1) (by omega)
        · rw [hnew, ← he, mul_divInt u v, Rat.divInt_add_divInt _ _ (by omega) hp]
      refine ite_nn (fun hu0 => ⟨_, rfl, _, _, rfl, rfl, ite_nn (fun hv0 => ?_) (fun hv0 => zero (.inr hv0))⟩) (fun hu0 => zero (.inl hu0))
      refine ⟨_, rfl, _, rfl, mulOk ht hpl (by omega) (by omega) (by omega), _, rfl, _, _, rfl, rfl, _, rfl, _, _, rfl, rfl, mulOk bu.1 bv.1 n0 m0 (by omega), _, rfl, mulOk hxl hb1 (by omega) (by omega) (by omega), ?_⟩
      exact ⟨_, rfl, _, rfl, mulOk hb1 hpl (by omega) (by omega) (by omega), more⟩
  · rintro env S' ⟨rfl, hi, t, b, o4, o5, o6, rfl, hb0, hb1, ht, he⟩
    have len : (zipD (rowD as) (rowD bs)).length = as.length := by unfold zipD rowD; simp [hl]
    refine ⟨⟨watch_same hx, watch_same hy⟩, _, rfl, _, rfl, ?_⟩
    rw [len] at hb1 he hi
    refine use_fraction (by omega) trivial ?_
    rw [he, List.take_length, hl, List.take_length]
    exact q

end ND
set_option Elab.async false
set_option linter.all false
set_option maxRecDepth 100000
namespace ND
open PySem PySem.Spec PyProof.Rows L2
theorem Dk.refl {c : Nat} {p : Addr} {S : Store} (h : DkAt c p S) : Dk c p S S := by
  obtain ⟨cell, a, e⟩ := h
  refine ⟨cell, a, ?_⟩
  funext b
  unfold sput
  split
  · next hb => rw [hb, e]
  · rfl
theorem Dk.get {c : Nat} {p a : Addr} {S S' : Store} (h : Dk c p S S') (ha : a ≠ p) : S' a = S a := by
  obtain ⟨cell, _, rfl⟩ := h
  exact sput_ne ha
theorem Dk.then {c c' : Nat} {p : Addr} {S S1 S2 : Store} (h : Dk c p S S1) (h' : Dk c' p S1 S2) (hc : c ≤ c') : Dk c' p S S2 := h.trans h'
theorem bq_int {i : Int} {n : Nat} (h : i.natAbs < 2 ^ n) (hn : 0 < n) : bq n (i : Rat) := ⟨h, by
  show 1 < 2 ^ n
  calc 1 < 2 ^ 1 := by decide
    _ ≤ 2 ^ n := Nat.pow_le_pow_right (by decide) hn⟩
theorem dQ_int (i : Int) : dQ (i : Rat) = .tup [.int i, .int 1] := rfl
/-! ### a drawn fraction -/
def w_law_fraction (f1 : On) (f2 : On) (f3 : On) : WS :=
  (wSeq (wSet 2 (wCall f1 (wCons (wVar 0) (wCons (wVar 1) wNil))))
  (wSeq (wIfS (wTst (w2 oLt (wVar 2) (wC (.int 3)))) (wRet (wTup (wCons (w2 oSub (wCall f1 (wCons (wVar 0) (wCons (wC (.int 7)) wNil))) (wC (.int 3))) (wCons (wC (.int 1)) wNil)))) wNext)
  (wSeq (wIfS (wTst (w2 oLt (wVar 2) (wC (.int 5)))) (wRet (wCall f2 (wCons (w2 oSub (wCall f1 (wCons (wVar 0) (wCons (wC (.int 25)) wNil))) (wC (.int 12))) (wCons (w2 oAdd (wC (.int 1)) (wCall f1 (wCons (wVar 0) (wCons (wC (.int 8)) wNil)))) wNil)))) wNext)
  (wSeq (wIfS (wTst (w2 oEq (wVar 2) (wC (.int 5)))) (wRet (wTup (wCons (wC (.int 0)) (wCons (wC (.int 1)) wNil)))) wNext)
  (wRet (wCall f2 (wCons (w2 oMul (wCall f3 (wCons (wVar 0) wNil)) (w2 oIx (wLst (wCons (wC (.int 1)) (wCons (w1 oNeg (wC (.int 1))) wNil))) (wCall f1 (wCons (wVar 0) (wCons (wC (.int 2)) wNil))))) (wCons (wCall (oTwo max2) (wCons (wC (.int 1)) (wCons (wCall f3 (wCons (wVar 0) wNil)) wNil))) wNil))))))))
@[irreducible] def m_law_fraction : On := fun ds S Q => ∃ (p : Addr) (most : Int) (c : Nat), ds = [.ref p, .int most] ∧ 0 < most ∧ most < 2 ^ 50 ∧ c < 2 ^ 39 ∧ DkAt c p S ∧ ∀ q S', bq 40 q → (most ≤ 6 → bq 4 q) → Dk (c + 9) p S S' → Q (dQ q) S'
theorem in_law_fraction {ds : List D} {S : Store} {Q : D → Store → Prop} (h : (fun ds S Q => ∃ (p : Addr) (most : Int) (c : Nat), ds = [.ref p, .int most] ∧ 0 < most ∧ most < 2 ^ 50 ∧ c < 2 ^ 39 ∧ DkAt c p S ∧ ∀ q S', bq 40 q → (most ≤ 6 → bq 4 q) → Dk (c + 9) p S S' → Q (dQ q) S' : On) ds S Q) : m_law_fraction ds S Q := by unfold m_law_fraction; exact h
theorem use_draw {p : Addr} {most : Int} {c : Nat} {S : Store} {Q : D → Store → Prop} (h : DkAt c p S) (hc : c < 2 ^ 39) (h0 : 0 < most) (h1 : most < 2 ^ 50) (k : ∀ q S', bq 40 q → (most ≤ 6 → bq 4 q) → Dk (c + 9) p S S' → Q (dQ q) S') : m_law_fraction [.ref p, .int most] S Q := by
  unfold m_law_fraction; exact ⟨p, most, c, rfl, h0, h1, hc, h, k⟩
theorem l_law_fraction (ds : List D) (S : Store) (Q : D → Store → Prop) (h : m_law_fraction ds S Q) : ds.length = 2 := by unfold m_law_fraction at h; obtain ⟨_, _, _, rfl, _⟩ := h; rfl
theorem v_law_fraction (ds : List D) (S : Store) (Q : D → Store → Prop) (h : m_law_fraction ds S Q) : w_law_fraction m_law_next m_law_f m_law_great (fin Q) (dst 3 ds) S := by
  unfold m_law_fraction at h
  obtain ⟨p, most, c, rfl, hm0, hm1, hc, hS, q⟩ := h
  refine ⟨_, rfl, _, rfl, use_next hS (by omega) hm0 (by omega) fun kind S1 a1 b1 d1 => ⟨_, rfl, ite_nf (fun h3 => ?_) (fun h3 => ?_)⟩⟩
  · refine ⟨_, rfl, use_next d1.at (by omega) (by decide) (by decide) fun r S2 a2 b2 d2 => ⟨by show 2 ≤ sizeLine; decide, ?_⟩⟩
    have hb : bq 4 ((r - 3 : Int) : Rat) := bq_int (by omega) (by decide)
    have := q ((r - 3 : Int) : Rat) S2 (hb.mono (by decide)) (fun _ => hb) ((d1.trans d2).up (by omega))
    exact this
  · refine ⟨_, rfl, ite_nf (fun h5 => ?_) (fun h5 => ?_)⟩
    · refine ⟨_, rfl, use_next d1.at (by omega) (by decide) (by decide) fun r S2 a2 b2 d2 => ⟨_, rfl, use_next d2.at (by omega) (by decide) (by decide) fun u S3 a3 b3 d3 => ?_⟩⟩
      refine use_fraction (by omega) (gok_of (n := 40) (by omega) (by omega)) ?_
      have hb : bq 4 (Rat.divInt (r - 12) (1 + u)) := bq_divInt (by omega) (by omega) (by omega)
      exact q _ S3 (hb.mono (by decide)) (fun _ => hb) (((d1.trans d2).trans d3).up (by omega))
    · refine ⟨_, rfl, ite_nf (fun h6 => ?_) (fun h6 => ?_)⟩
      · refine ⟨by show 2 ≤ sizeLine; decide, ?_⟩
        have := q 0 S1 (bq_zero.mono (by decide)) (fun _ => bq_zero.mono (by decide)) (d1.up (by omega))
        exact this
      · refine ⟨_, rfl, use_great d1.at (by omega) fun g S2 a2 b2 d2 => ⟨by show 2 ≤ sizeLine; decide, _, rfl, use_next d2.at (by omega) (by decide) (by decide) fun s S3 a3 b3 d3 => ?_⟩⟩
        obtain ⟨z, hz, hat⟩ := atI_int (ns := [1, -1]) (r := s) a3 (by simp; omega)
        have hz2 : z = 1 ∨ z = -1 := by simpa using hz
        have e12 : (10 : Int) ^ 12 = 1000000000000 := by decide
        refine ⟨_, _, rfl, hat, mulOk (a := 40) (b := 2) (by omega) (by omega), _, rfl, use_great d3.at (by omega) fun u S4 a4 b4 d4 => ?_⟩
        have hu : max2 1 u ≠ 0 ∧ (max2 1 u).natAbs < 2 ^ 40 := by unfold max2; split <;> omega
        have hg : (g * z).natAbs < 2 ^ 40 := by rcases hz2 with rfl | rfl <;> omega
        refine use_fraction hu.1 (gok_of (n := 40) hu.1 hu.2) ?_
        exact q _ S4 (bq_divInt hu.1 hg hu.2) (fun h => by omega) ((((d1.trans d2).trans d3).trans d4).up (by omega))
/-! ### rows of drawn fractions -/
theorem lc_row {wt : Store → Prop} {g : WG} {te : WE} {env : Slots} {items : List D} {p : Addr} {c k n : Nat} {S : Store} {Q : List D → Store → Prop} (hS : DkAt c p S) (hw : ∀ c' S', Dk c' p S S' → wt S')
    (step : ∀ i x S' (K : D → Store → Prop), items[i]? = some x → Dk (c + k * i) p S S' → (∀ q S'', bq n q → Dk (c + k * (i + 1)) p S' S'' → K (dQ q) S'') → g x env S' fun env1 S1 => te env1 S1 K)
    (done : ∀ qs S', qs.length = items.length → (∀ q ∈ qs, bq n q) → Dk (c + k * items.length) p S S' → Q (rowD qs) S') : lcW wt g wYes te env items [] S Q := by
  refine lc_inv (fun i acc S' => ∃ qs : List Rat, acc = rowD qs ∧ qs.length = i ∧ (∀ q ∈ qs, bq n q) ∧ Dk (c + k * i) p S S') ⟨[], rfl, rfl, by simp, Dk.refl hS⟩ ?_ ?_
  · rintro i x acc S' K1 K2 hx ⟨qs, rfl, hl, hq, d⟩ k1 k2
    refine ⟨hw _ _ d, step i x S' K1 hx d fun q S'' hb d' => k1 _ _ ⟨qs ++ [q], by unfold rowD; rw [List.map_append]; rfl, by rw [List.length_append, hl]; rfl, fun r hr => ?_, d.trans d'⟩⟩
    rcases List.mem_append.mp hr with h | h
    · exact hq r h
    · rw [List.mem_singleton.mp h]; exact hb
  · rintro acc S' ⟨qs, rfl, hl, hq, d⟩
    exact ⟨hw _ _ d, done qs S' hl hq d⟩
/-! ### sums from the last on -/
theorem dot_drop {as bs : List Rat} {i : Nat} (ha : i < as.length) (hb : i < bs.length) : dot (as.drop i) (bs.drop i) = as[i] * bs[i] + dot (as.drop (i + 1)) (bs.drop (i + 1)) := by
  rw [List.drop_eq_getElem_cons ha, List.drop_eq_getElem_cons hb, dot_cons]
theorem rowD_at {as : List Rat} {i : Nat} (h : i < as.length) : atI (rowD as) ((i : Nat) : Int) = some (dQ as[i]) := atI_nat (by unfold rowD; simp [h])
theorem rowD_len {as : List Rat} : (rowD as).length = as.length := by unfold rowD; simp
theorem bq_dot : ∀ {as bs : List Rat} {n m : Nat}, (∀ a ∈ as, bq n a) → (∀ b ∈ bs, bq m b) → bq ((n + m + 1) * as.length + 1) (dot as bs)
  | [], bs, n, m, _, _ => by rw [dot_nil_left]; exact bq_zero.mono (by simp)
  | a :: as, [], n, m, _, _ => by rw [dot_nil_right]; exact bq_zero.mono (by simp)
  | a :: as, b :: bs, n, m, ha, hb => by
    have h1 := bq_dot (as := as) (bs := bs) (fun x h => ha x (List.mem_cons_of_mem _ h)) (fun x h => hb x (List.mem_cons_of_mem _ h))
    have h2 := bq_mul (ha a (List.mem_cons_self ..)) (hb b (List.mem_cons_self ..))
    rw [dot_cons]
    refine (bq_add h2 h1).mono ?_
    rw [List.length_cons, Nat.mul_succ]
    omega
theorem rngD_get {a b : Int} {i : Nat} {x : D} (h : (rngD a b)[i]? = some x) : x = .int (a + (i : Nat)) ∧ i < (b - a).toNat := by
  unfold rngD at h
  rw [List.getElem?_map] at h
  cases e : (List.range (b - a).toNat)[i]? with
  | none => rw [e] at h; cases h
  | some j =>
    rw [e] at h
    cases h
    obtain ⟨h1, h2⟩ := List.getElem?_eq_some_iff.mp e
    rw [List.getElem_range] at h2
    subst h2
    exact ⟨rfl, by simpa using h1⟩
theorem rngD_len {a b : Int} : (rngD a b).length = (b - a).toNat := by unfold rngD; simp
theorem lc_const {g : WG} {te : WE} {env : Slots} {items : List D} {S : Store} {Q : List D → Store → Prop} (d : D) (step : ∀ x (K : D → Store → Prop), K d S → g x env S fun env1 S1 => te env1 S1 K) (done : Q (List.replicate items.length d) S) :
    lcW (fun _ => True) g wYes te env items [] S Q := by
  refine lc_inv (fun i acc S' => S' = S ∧ acc = List.replicate i d) ⟨rfl, rfl⟩ ?_ ?_
  · rintro i x acc S' K1 K2 hx ⟨rfl, rfl⟩ k1 k2
    exact ⟨trivial, step x K1 (k1 _ _ ⟨rfl, by rw [List.replicate_succ']⟩)⟩
  · rintro acc S' ⟨rfl, rfl⟩
    exact ⟨trivial, done⟩
theorem rowD_replicate {n : Nat} {q : Rat} : List.replicate n (dQ q) = rowD (List.replicate n q) := by unfold rowD; rw [List.map_replicate]
theorem dot_zeros : ∀ (as : List Rat) (n : Nat), dot as (List.replicate n 0) = 0
  | [], n => dot_nil_left _
  | a :: as, 0 => dot_nil_right _
  | a :: as, n + 1 => by rw [List.replicate_succ, dot_cons, dot_zeros as n, Rat.mul_zero, Rat.add_zero]

end ND
set_option Elab.async false
set_option linter.all false
set_option maxRecDepth 100000
namespace ND
open PySem PySem.Spec PyProof.Rows L2
/-! ### a local cell over the deck's store -/
theorem sput_comm {S : Store} {a b : Addr} {c c' : Cell} (h : a ≠ b) : sput (sput S a c) b c' = sput (sput S b c') a c := by
  funext x
  unfold sput
  by_cases h1 : x = b
  · subst h1
    rw [if_pos rfl, if_neg (fun e => h e.symm), if_pos rfl]
  · rw [if_neg h1]
    by_cases h2 : x = a
    · rw [if_pos h2, if_pos h2]
    · rw [if_neg h2, if_neg h2, if_neg h1]
theorem Dk.put {c : Nat} {p f : Addr} {S S' : Store} {l l' : Cell} (h : Dk c p (sput S f l) S') (hf : f ≠ p) : Dk c p (sput S f l') (sput S' f l') := by
  obtain ⟨cell, a, rfl⟩ := h
  exact ⟨cell, a, by rw [sput_comm (fun e => hf e.symm), sput_sput]⟩
theorem Dk.drop {c : Nat} {p f : Addr} {S S' : Store} {l : Cell} (h : Dk c p (sput S f l) S') (hf : f ≠ p) (n : S f = none) : ∃ S'', Sub S'' S' ∧ Dk c p S S'' := by
  obtain ⟨cell, a, rfl⟩ := h
  refine ⟨sput S p cell, fun x u e => ?_, cell, a, rfl⟩
  unfold sput at e ⊢
  by_cases hx : x = p
  · rw [if_pos hx] at e ⊢; exact e
  · rw [if_neg hx] at e ⊢
    rw [if_neg (fun z => by rw [z, n] at e; cases e)]
    exact e
theorem Dk.cell {c : Nat} {p f : Addr} {S S' : Store} {l : Cell} (h : Dk c p (sput S f l) S') (hf : f ≠ p) : S' f = some l := by rw [h.get hf, sput_same]
theorem DkAt.ne {c : Nat} {p f : Addr} {S : Store} (h : DkAt c p S) (n : S f = none) : f ≠ p := fun e => by
  obtain ⟨cell, _, e2⟩ := h
  rw [e, e2] at n
  cases n
theorem DkAt.put {c : Nat} {p f : Addr} {S : Store} {l : Cell} (h : DkAt c p S) (hf : f ≠ p) : DkAt c p (sput S f l) := by
  obtain ⟨cell, a, e⟩ := h
  exact ⟨cell, a, by rw [sput_ne (fun z => hf z.symm), e]⟩
/-! ### words -/
def Word (w : List Nat) : Prop := 1 ≤ w.length ∧ w.length ≤ 8 ∧ ∀ c ∈ w, 97 ≤ c ∧ c ≤ 122
def wordD (w : List Nat) : D := .str (SX.S w)
theorem nodup_le {α : Type} [DecidableEq α] : ∀ {l m : List α}, l.Nodup → (∀ x ∈ l, x ∈ m) → l.length ≤ m.length
  | [], m, _, _ => Nat.zero_le _
  | a :: l, m, hn, hs => by
    rw [List.nodup_cons] at hn
    have ha := hs a (List.mem_cons_self ..)
    have := nodup_le (l := l) (m := m.erase a) hn.2 fun x hx => (List.mem_erase_of_ne (fun e => hn.1 (by rw [← e]; exact hx))).mpr (hs x (List.mem_cons_of_mem _ hx))
    rw [List.length_erase_of_mem ha] at this
    have := List.length_pos_of_mem ha
    rw [List.length_cons]
    omega
theorem atI_mem {xs : List D} {r : Int} (h0 : 0 ≤ r) (h1 : r < xs.length) : ∃ x, x ∈ xs ∧ atI xs r = some x := by
  have hn : r.toNat < xs.length := by omega
  refine ⟨xs[r.toNat], List.getElem_mem hn, ?_⟩
  have e := atI_nat (xs := xs) (j := r.toNat) (v := xs[r.toNat]) (by simp [hn])
  rwa [show ((r.toNat : Nat) : Int) = r by omega] at e
theorem atI_sign {xs : List Nat} {r : Int} (h0 : 0 ≤ r) (h1 : r < xs.length) : ∃ x, x ∈ xs ∧ atI xs r = some x := by
  have hn : r.toNat < xs.length := by omega
  refine ⟨xs[r.toNat], List.getElem_mem hn, ?_⟩
  have e := atI_nat (xs := xs) (j := r.toNat) (v := xs[r.toNat]) (by simp [hn])
  rwa [show ((r.toNat : Nat) : Int) = r by omega] at e
theorem join_signs : ∀ cs : List Nat, TL.joinL [] (cs.map fun c => [c]) = cs
  | [] => rfl
  | [c] => rfl
  | c :: d :: r => by
    have := join_signs (d :: r)
    show [c] ++ ([] ++ TL.joinL [] ((d :: r).map fun c => [c])) = _
    rw [this]
    rfl
abbrev letters26 : List Nat := [101, 116, 97, 111, 105, 110, 115, 104, 114, 100, 108, 117, 99, 109, 102, 119, 121, 112, 118, 98, 103, 107, 106, 113, 120, 122]
abbrev words7 : List (List Nat) := [[97], [98], [97, 98], [97, 98, 99], [120], [120, 121, 122], [122, 122]]
theorem S_ne {a b : List Nat} (h : a ≠ b) : SX.S a ≠ SX.S b := fun e => h (SX.S_inj e)
theorem mem_S {x : List Nat} {ws : List (List Nat)} : SX.S x ∈ ws.map SX.S ↔ x ∈ ws := by
  rw [List.mem_map]
  exact ⟨fun ⟨y, h, e⟩ => by rw [← SX.S_inj e]; exact h, fun h => ⟨x, h, rfl⟩⟩
def w_law_names (f1 : On) : WS :=
  (wSeq (wSet 2 (wC (.str "etaoinshrdlucmfwypvbgkjqxz")))
  (wSeq (wSet 3 (wLstM wNil))
  (wSeq (forS (wRng1 (wVar 1)) (gN 4) (wSeq (wSet 5 (wJoin (wC (.str "")) (wLc (wRng1 (w2 oAdd (wC (.int 1)) (wCall f1 (wCons (wVar 0) (wCons (wC (.int 8)) wNil))))) (gN 6) wYes (w2 oIx (wVar 2) (wCall f1 (wCons (wVar 0) (wCons (wC (.int 26)) wNil)))) [6])))
  (wSeq (wIfS (wAnd (wTst (w2 oGt (wVar 4) (wC (.int 0)))) (wTst (w2 oEq (wCall f1 (wCons (wVar 0) (wCons (wC (.int 3)) wNil))) (wC (.int 1))))) (wSet 5 (wSl (w2 oAdd (w2 oIx (wVar 3) (w2 oSub (wVar 4) (wC (.int 1)))) (wC (.str "a"))) wNoP (wP (wC (.int 8))))) wNext)
  (wSeq (wIfS (wTst (w2 (oIn false) (wVar 5) (wVar 3))) (wSet 5 (w2 oIx (wLc (wSeqI (wLst (wCons (wC (.str "a")) (wCons (wC (.str "b")) (wCons (wC (.str "ab")) (wCons (wC (.str "abc")) (wCons (wC (.str "x")) (wCons (wC (.str "xyz")) (wCons (wC (.str "zz")) wNil))))))))) (gN 7) (wTst (w2 (oIn true) (wVar 7) (wVar 3))) (wVar 7) [7]) (wC (.int 0)))) wNext)
  (wDrop (wM oAppend (wVar 3) (wCons (wVar 5) wNil)))))))
  (wRet (wFz (wCall oTuple (wCons (wVar 3) wNil)))))))
@[irreducible] def m_law_names : On := fun ds S0 Q => ∃ (p : Addr) (many : Int) (c : Nat), ds = [.ref p, .int many] ∧ 0 ≤ many ∧ many ≤ 6 ∧ c < 2 ^ 39 ∧ DkAt c p S0 ∧
  ∀ (ws : List (List Nat)) S', (ws.length : Int) = many → (∀ w ∈ ws, Word w) → ws.Nodup → Dk (c + 60) p S0 S' → Q (.tup (ws.map wordD)) S'
theorem in_law_names {ds : List D} {S : Store} {Q : D → Store → Prop} (h : (fun ds S0 Q => ∃ (p : Addr) (many : Int) (c : Nat), ds = [.ref p, .int many] ∧ 0 ≤ many ∧ many ≤ 6 ∧ c < 2 ^ 39 ∧ DkAt c p S0 ∧
  ∀ (ws : List (List Nat)) S', (ws.length : Int) = many → (∀ w ∈ ws, Word w) → ws.Nodup → Dk (c + 60) p S0 S' → Q (.tup (ws.map wordD)) S' : On) ds S Q) : m_law_names ds S Q := by unfold m_law_names; exact h
theorem use_names {p : Addr} {many : Int} {c : Nat} {S0 : Store} {Q : D → Store → Prop} (h : DkAt c p S0) (hc : c < 2 ^ 39) (h0 : 0 ≤ many) (h1 : many ≤ 6)
    (k : ∀ (ws : List (List Nat)) S', (ws.length : Int) = many → (∀ w ∈ ws, Word w) → ws.Nodup → Dk (c + 60) p S0 S' → Q (.tup (ws.map wordD)) S') : m_law_names [.ref p, .int many] S0 Q := by
  unfold m_law_names; exact ⟨p, many, c, rfl, h0, h1, hc, h, k⟩
theorem l_law_names (ds : List D) (S0 : Store) (Q : D → Store → Prop) (h : m_law_names ds S0 Q) : ds.length = 2 := by unfold m_law_names at h; obtain ⟨_, _, _, rfl, _⟩ := h; rfl
theorem v_law_names (ds : List D) (S0 : Store) (Q : D → Store → Prop) (h : m_law_names ds S0 Q) : w_law_names m_law_next (fin Q) (dst 8 ds) S0 := by
  unfold m_law_names at h
  obtain ⟨p, many, c, rfl, h0, h6, hc, hS, q⟩ := h
  refine ⟨by show 0 ≤ sizeLine; decide, fun f hf => ⟨_, rfl, ⟨by omega, by omega⟩, ?_⟩⟩
  have hfp : f ≠ p := hS.ne hf
  have hlen : (rngD 0 many).length = many.toNat := by rw [rngD_len, Int.sub_zero]
  refine for_inv (fun k env S' => ∃ (ws : List (List Nat)) (o4 o5 o6 o7 : Option D), env = [some (.ref p), some (.int many), some (.str "etaoinshrdlucmfwypvbgkjqxz"), some (.ref f), o4, o5, o6, o7] ∧ ws.length = k ∧ (∀ w ∈ ws, Word w) ∧ ws.Nodup ∧ Dk (c + 10 * k) p (sput S0 f (.lst (ws.map wordD))) S')
    ⟨[], _, _, _, _, rfl, rfl, by simp, List.nodup_nil, Dk.refl (hS.put hfp)⟩ ?_ ?_
  · rintro k x env S1 K hx ⟨ws, o4, o5, o6, o7, rfl, hk, hw, hnd, d1⟩ hK
    obtain ⟨rfl, hk2⟩ := rngD_get hx
    have hk6 : k < 6 := by omega
    refine ⟨trivial, ⟨_, rfl⟩, _, rfl, use_next d1.at (by omega) (by decide) (by decide) fun r S2 r0 r1 d2 => ⟨⟨by omega, by omega⟩, ?_, ?_⟩⟩
    · rw [rngD_len]; exact Nat.le_trans (show (1 + r - 0).toNat ≤ 8 by omega) (by decide)
    have len2 : (rngD 0 (1 + r)).length = (1 + r).toNat := by rw [rngD_len, Int.sub_zero]
    refine lc_inv (fun i acc S' => ∃ cs : List Nat, acc = cs.map (fun c => D.str ⟨#[c]⟩) ∧ cs.length = i ∧ (∀ c ∈ cs, 97 ≤ c ∧ c ≤ 122) ∧ Dk (c + 10 * k + 1 + i) p S2 S') ⟨[], rfl, rfl, by simp, Dk.refl d2.at⟩ ?_ ?_
    · rintro i x acc S' K1 K2 hx ⟨cs, rfl, hcs, hlow, d3⟩ k1 k2
      have hi : i < (1 + r).toNat := by rw [← len2]; exact (List.getElem?_eq_some_iff.mp hx).1
      refine ⟨trivial, _, rfl, _, rfl, use_next d3.at (by omega) (by decide) (by decide) fun s S4 s0 s1 d4 => ?_⟩
      obtain ⟨g, hg, hat⟩ := atI_sign (xs := letters26) (r := s) s0 (by simpa using s1)
      refine ⟨g, hat, by decide, k1 _ _ ⟨cs ++ [g], by simp, by simp [hcs], fun c hc => ?_, d3.trans (d4.up (by omega))⟩⟩
      rcases List.mem_append.mp hc with h | h
      · exact hlow c h
      · rw [List.mem_singleton.mp h]
        have : ∀ c ∈ letters26, 97 ≤ c ∧ c ≤ 122 := by decide
        exact this g hg
    rintro acc S3 ⟨cs, rfl, hcs, hlow, d3⟩
    rw [len2] at hcs d3
    have hd3 : Dk (c + 10 * k + 9) p (sput S0 f (.lst (ws.map wordD))) S3 := (d1.trans d2).trans (d3.up (by omega))
    have hcell : S3 f = some (.lst (ws.map wordD)) := hd3.cell hfp
    refine ⟨trivial, "", cs.map (fun c => SX.S [c]), rfl, ?_, ?_, ?_⟩
    · show cs.map _ = (cs.map _).map _
      rw [List.map_map]
      rfl
    · have e1 : ((cs.map (fun c => SX.S [c])).map (·.length)).sum = cs.length := by
        rw [List.map_map]
        have : ∀ l : List Nat, (l.map ((fun x : Str => x.length) ∘ fun c => SX.S [c])).sum = l.length := fun l => by
          induction l with
          | nil => rfl
          | cons a l ih => rw [List.map_cons, List.sum_cons, ih, List.length_cons]; show 1 + l.length = _; omega
        exact this cs
      have e2 : ("" : Str).length = 0 := by decide
      rw [e1, e2, hcs]
      omega
    have ej : Txt.join "" (cs.map (fun c => SX.S [c])) = SX.S cs := by
      have e0 : ("" : Str) = SX.S [] := by decide
      have e1 : cs.map (fun c => SX.S [c]) = (cs.map fun c => [c]).map SX.S := by rw [List.map_map]; rfl
      rw [e0, e1, SX.join_S, join_signs]
    rw [ej]
    have w0 : Word cs := ⟨by omega, by omega, hlow⟩
    -- the end: a word not in the list is put behind
    have last : ∀ (w : List Nat) (o6 o7 : Option D) S4, Word w → w ∉ ws → Dk (c + 10 * k + 10) p (sput S0 f (.lst (ws.map wordD))) S4 →
        wDrop (wM oAppend (wVar 3) (wCons (wVar 5) wNil)) ⟨K, Q⟩ [some (.ref p), some (.int many), some (.str "etaoinshrdlucmfwypvbgkjqxz"), some (.ref f), some (.int (0 + (k : Nat))), some (wordD w), o6, o7] S4 := by
      intro w o6 o7 S4 hw4 hnew d4
      have hc4 : S4 f = some (.lst (ws.map wordD)) := d4.cell hfp
      refine ⟨_, rfl, ⟨_, hc4⟩, _, rfl, _, _, hc4, rfl, ?_, ?_⟩
      · rw [List.length_map]; exact Nat.lt_of_lt_of_le (show ws.length < 7 by omega) (by decide)
      · intro a ha
        cases ha
        refine hK _ _ ⟨ws ++ [w], _, _, _, _, rfl, by simp [hk], fun v hv => ?_, ?_, ?_⟩
        · rcases List.mem_append.mp hv with h | h
          · exact hw v h
          · rw [List.mem_singleton.mp h]; exact hw4
        · rw [List.nodup_append]
          refine ⟨hnd, by simp, fun a ha b hb => ?_⟩
          rw [List.mem_singleton.mp hb]
          exact fun e => hnew (by rw [← e]; exact ha)
        · have := d4.put (l' := .lst ((ws ++ [w]).map wordD)) hfp
          rw [List.map_append] at this ⊢
          exact this.up (by omega)
    have inn : ∀ (w : List Nat) (o6 o7 : Option D) S4, Word w → Dk (c + 10 * k + 10) p (sput S0 f (.lst (ws.map wordD))) S4 →
        wSeq (wIfS (wTst (w2 (oIn false) (wVar 5) (wVar 3))) (wSet 5 (w2 oIx (wLc (wSeqI (wLst (wCons (wC (.str "a")) (wCons (wC (.str "b")) (wCons (wC (.str "ab")) (wCons (wC (.str "abc")) (wCons (wC (.str "x")) (wCons (wC (.str "xyz")) (wCons (wC (.str "zz")) wNil))))))))) (gN 7) (wTst (w2 (oIn true) (wVar 7) (wVar 3))) (wVar 7) [7]) (wC (.int 0)))) wNext)
          (wDrop (wM oAppend (wVar 3) (wCons (wVar 5) wNil))) ⟨K, Q⟩ [some (.ref p), some (.int many), some (.str "etaoinshrdlucmfwypvbgkjqxz"), some (.ref f), some (.int (0 + (k : Nat))), some (wordD w), o6, o7] S4 := by
      intro w o6 o7 S4 hw4 d4
      have hc4 : S4 f = some (.lst (ws.map wordD)) := d4.cell hfp
      have hsc : SC S4 (.ref f) ((ws.map SX.S).map D.str) := by
        show S4 f = _
        rw [hc4, List.map_map]
        rfl
      refine ⟨_, rfl, _, rfl, str_in hsc (ite_nf (fun hin => ?_) (fun hin => ?_))⟩
      · refine ⟨by show 7 ≤ sizeLine; decide, _, rfl, by show 7 ≤ sizeLine; decide, ?_⟩
        refine lc_inv (fun i acc S' => S' = S4 ∧ acc = ((words7.take i).filter (fun v => decide (v ∉ ws))).map wordD) ⟨rfl, rfl⟩ ?_ ?_
        · rintro i x acc S' K1 K2 hx ⟨rfl, rfl⟩ k1 k2
          have hx' : (words7.map wordD)[i]? = some x := hx
          rw [List.getElem?_map] at hx'
          cases hv : words7[i]? with
          | none => rw [hv] at hx'; cases hx'
          | some v =>
            rw [hv] at hx'
            cases hx'
            refine ⟨trivial, _, rfl, _, rfl, str_in hsc ?_⟩
            show if (!decide (SX.S v ∈ ws.map SX.S)) = true then _ else _
            rw [show decide (SX.S v ∈ ws.map SX.S) = decide (v ∈ ws) from by rw [Bool.eq_iff_iff, decide_eq_true_iff, decide_eq_true_iff]; exact mem_S]
            refine ite_nn (fun hn => ?_) (fun hn => ?_)
            · refine ⟨_, rfl, k1 _ _ ⟨rfl, ?_⟩⟩
              rw [List.take_add_one, hv, List.filter_append, List.map_append]
              congr 1
              show _ = (List.filter _ [v]).map wordD
              rw [List.filter_cons_of_pos (by simpa using hn)]
              rfl
            · refine k2 _ ⟨rfl, ?_⟩
              rw [List.take_add_one, hv, List.filter_append, List.map_append]
              show _ = _ ++ (List.filter _ [v]).map wordD
              rw [List.filter_cons_of_neg (by simpa using hn)]
              simp
        · rintro acc S' ⟨rfl, rfl⟩
          refine ⟨trivial, ?_⟩
          have ht : words7.take 7 = words7 := rfl
          show oIx (.lst (((words7.take 7).filter (fun v => decide (v ∉ ws))).map wordD)) (.int 0) _ _
          rw [ht]
          cases hF : words7.filter (fun v => decide (v ∉ ws)) with
          | nil =>
            exfalso
            have hsub : ∀ x ∈ words7, x ∈ ws := fun x hx => by
              have := List.filter_eq_nil_iff.mp hF x hx
              simpa using this
            have := nodup_le (l := words7) (m := ws) (by decide) hsub
            have : words7.length = 7 := rfl
            omega
          | cons v rest =>
            have hv : v ∈ words7.filter (fun v => decide (v ∉ ws)) := by rw [hF]; exact List.mem_cons_self ..
            rw [List.mem_filter] at hv
            have hvw : Word v := by
              have : ∀ v ∈ words7, Word v := by unfold Word; decide
              exact this v hv.1
            refine ⟨_, _, rfl, (atI_nat (xs := (v :: rest).map wordD) (j := 0) (v := wordD v) rfl), ?_⟩
            exact last v _ _ _ hvw (by simpa using hv.2) d4
      · exact last w _ _ _ hw4 (fun h => hin (mem_S.mpr h)) d4
    -- now and then an old word with an a behind
    refine ⟨_, rfl, ite_nf (fun hk0 => ?_) (fun hk0 => ?_)⟩
    · refine ⟨_, rfl, use_next hd3.at (by omega) (by decide) (by decide) fun s S5 s0 s1 d5 => ?_⟩
      have d6 := hd3.trans (d5.up (show _ ≤ c + 10 * k + 10 by omega))
      refine ite_nf (fun h1 => ?_) (fun h1 => inn cs _ _ S5 w0 d6)
      have hkk : k - 1 < ws.length := by omega
      have hat : atI (ws.map wordD) ((0 + (k : Nat) : Int) - 1) = some (wordD ws[k - 1]) := by
        have e := atI_nat (xs := ws.map wordD) (j := k - 1) (v := wordD ws[k - 1]) (by simp [hkk])
        rwa [show (((k - 1 : Nat)) : Int) = (0 + (k : Nat) : Int) - 1 by omega] at e
      have ew : SX.S ws[k - 1] ++ ("a" : Str) = SX.S (ws[k - 1] ++ [97]) := by rw [show ("a" : Str) = SX.S [97] by decide, SX.S_cat]
      have hwk := hw _ (List.getElem_mem hkk)
      refine ⟨_, rfl, _, rfl, _, _, d6.cell hfp, hat, ?_, ?_⟩
      · show (SX.S ws[k - 1]).length + ("a" : Str).length ≤ sizeLine
        rw [SX.S_len]
        exact Nat.le_trans (show ws[k - 1].length + 1 ≤ 9 by have := hwk.2.1; omega) (by decide)
      show _ ∧ _
      rw [ew]
      refine ⟨?_, ?_⟩
      · rw [SX.S_len, List.length_append]
        exact Nat.le_trans (show ws[k - 1].length + 1 ≤ 9 by have := hwk.2.1; omega) (by decide)
      · show wSeq _ _ _ _ _
        rw [C8.cutS_slice, SX.slice_to (by decide)]
        refine inn _ _ _ S5 ⟨?_, ?_, fun c hc => ?_⟩ d6
        · rw [List.length_take, List.length_append]; have := hwk.1; simp; omega
        · rw [List.length_take]; exact Nat.min_le_left _ _
        · rcases List.mem_append.mp (List.mem_of_mem_take hc) with h | h
          · exact hwk.2.2 c h
          · rw [List.mem_singleton.mp h]; decide
    · exact inn cs _ _ S3 w0 (hd3.up (by omega))
  · rintro env S' ⟨ws, o4, o5, o6, o7, rfl, hk, hw, hnd, d⟩
    rw [hlen] at hk d
    obtain ⟨S'', hs, d2⟩ := d.drop hfp hf
    refine ⟨trivial, _, rfl, _, d.cell hfp, ?_⟩
    exact ⟨_, S'', hs, .same _, q ws S'' (by omega) hw hnd (d2.up (by omega))⟩

end ND
set_option Elab.async false
set_option linter.all false
set_option maxRecDepth 100000
namespace ND
open PySem PySem.Spec PyProof.Rows L2
/-! ### tables -/
def rowsD (rows : List (List Rat)) : List D := rows.map fun r => D.tup (rowD r)
theorem rowsD_len {rows : List (List Rat)} : (rowsD rows).length = rows.length := by unfold rowsD; simp
theorem neg_dQ (q : Rat) : D.tup [.int (0 - q.num), .int ((q.den : Nat) : Int)] = dQ (-q) := by
  unfold dQ
  rw [Rat.neg_num, Rat.neg_den, Int.zero_sub]
def leftQ (rows : List (List Rat)) (wish weights : List Rat) : List Rat := List.zipWith (fun r w => w - dot r weights) rows wish
theorem zip_rows {rows : List (List Rat)} {wish : List Rat} {i : Nat} {x : D} (h : (zipD (rowsD rows) (rowD wish))[i]? = some x) : ∃ r w, rows[i]? = some r ∧ wish[i]? = some w ∧ x = .tup [.tup (rowD r), dQ w] := by
  unfold zipD rowsD rowD at h
  rw [List.getElem?_zipWith, List.getElem?_map, List.getElem?_map] at h
  cases h1 : rows[i]? with
  | none => rw [h1] at h; simp at h
  | some a =>
    cases h2 : wish[i]? with
    | none => rw [h1, h2] at h; simp at h
    | some b =>
      rw [h1, h2] at h
      simp at h
      exact ⟨a, b, rfl, rfl, h.symm⟩
theorem zip_rows_len {rows : List (List Rat)} {wish : List Rat} : (zipD (rowsD rows) (rowD wish)).length = min rows.length wish.length := by unfold zipD rowsD rowD; simp
/-- .. sizes of a table: entries, wish, weights -/
structure Fit (rows : List (List Rat)) (wish weights : List Rat) (n k m : Nat) : Prop where
  len : rows.length = wish.length
  wid : ∀ r ∈ rows, r.length = weights.length
  ent : ∀ r ∈ rows, ∀ q ∈ r, bq n q
  wsh : ∀ q ∈ wish, bq k q
  wts : ∀ q ∈ weights, bq m q
  n0 : 0 < n
  m0 : 0 < m
  sz : (n + m + 1) * (weights.length + 1) + k ≤ 900000
  line : rows.length ≤ 1000
theorem leftQ_snoc {rows : List (List Rat)} {wish weights : List Rat} {i : Nat} {r : List Rat} {w : Rat} (hr : rows[i]? = some r) (hw : wish[i]? = some w) :
    (leftQ rows wish weights).take (i + 1) = (leftQ rows wish weights).take i ++ [w - dot r weights] := by
  have : (leftQ rows wish weights)[i]? = some (w - dot r weights) := by
    unfold leftQ
    rw [List.getElem?_zipWith, hr, hw]
  rw [List.take_add_one, this]
  rfl
theorem leftQ_len {rows : List (List Rat)} {wish weights : List Rat} : (leftQ rows wish weights).length = min rows.length wish.length := by unfold leftQ; simp
theorem bq_left {rows : List (List Rat)} {wish weights : List Rat} {n k m : Nat} (h : Fit rows wish weights n k m) : ∀ q ∈ leftQ rows wish weights, bq (k + (n + m + 1) * weights.length + 2) q := by
  intro q hq
  obtain ⟨i, hi⟩ := List.mem_iff_getElem?.mp hq
  unfold leftQ at hi
  rw [List.getElem?_zipWith] at hi
  cases h1 : rows[i]? with
  | none => rw [h1] at hi; cases hi
  | some r =>
    cases h2 : wish[i]? with
    | none => rw [h1, h2] at hi; cases hi
    | some w =>
      rw [h1, h2] at hi
      cases hi
      have hr := List.mem_of_getElem? h1
      have := bq_dot (h.ent _ hr) h.wts
      rw [h.wid _ hr] at this
      exact (bq_sub (h.wsh _ (List.mem_of_getElem? h2)) this).mono (by omega)
def w_left_of (f1 : On) (f2 : On) : WS :=
  (wSeq (wAsg (wVar 0) (gT 3 (gConss (gN 2) (gConss (gN 3) (gConss (gN 4) gNils)))))
  (wRet (wCall oTuple (wCons (wLc (wZipI (wCons (wVar 3) (wCons (wVar 4) wNil))) (gT 2 (gConss (gN 5) (gConss (gN 6) gNils))) wYes (wCall f2 (wCons (wVar 6) (wCons (wCall f1 (wCons (wVar 5) (wCons (wVar 1) wNil))) wNil))) [5, 6]) wNil))))
@[irreducible] def m_left_of : On := fun ds S Q => ∃ (nm wd : D) (rows : List (List Rat)) (wish weights : List Rat) (n k m : Nat), ds = [.tup [nm, .tup (rowsD rows), .tup (rowD wish)], wd] ∧ SC S wd (rowD weights) ∧ Fit rows wish weights n k m ∧ Q (.tup (rowD (leftQ rows wish weights))) S
theorem in_left_of {ds : List D} {S : Store} {Q : D → Store → Prop} (h : (fun ds S Q => ∃ (nm wd : D) (rows : List (List Rat)) (wish weights : List Rat) (n k m : Nat), ds = [.tup [nm, .tup (rowsD rows), .tup (rowD wish)], wd] ∧ SC S wd (rowD weights) ∧ Fit rows wish weights n k m ∧ Q (.tup (rowD (leftQ rows wish weights))) S : On) ds S Q) : m_left_of ds S Q := by unfold m_left_of; exact h
theorem use_left {nm wd : D} {rows : List (List Rat)} {wish weights : List Rat} {n k m : Nat} {S : Store} {Q : D → Store → Prop} (hs : SC S wd (rowD weights)) (f : Fit rows wish weights n k m) (q : Q (.tup (rowD (leftQ rows wish weights))) S) :
    m_left_of [.tup [nm, .tup (rowsD rows), .tup (rowD wish)], wd] S Q := by unfold m_left_of; exact ⟨nm, wd, rows, wish, weights, n, k, m, rfl, hs, f, q⟩
theorem l_left_of (ds : List D) (S : Store) (Q : D → Store → Prop) (h : m_left_of ds S Q) : ds.length = 2 := by unfold m_left_of at h; obtain ⟨_, _, _, _, _, _, _, _, rfl, _⟩ := h; rfl
theorem v_left_of (ds : List D) (S : Store) (Q : D → Store → Prop) (h : m_left_of ds S Q) : w_left_of m_product m_less (fin Q) (dst 7 ds) S := by
  unfold m_left_of at h
  obtain ⟨nm, wd, rows, wish, weights, n, k, m, rfl, hs, f, q⟩ := h
  refine ⟨_, rfl, _, rfl, rfl, _, rfl, _, rfl, _, _, rfl, rfl, ?_, ?_⟩
  · rw [zip_rows_len]; exact Nat.le_trans (Nat.min_le_left _ _) (Nat.le_trans f.line (by decide))
  refine lc_inv (fun i acc S' => S' = S ∧ acc = rowD ((leftQ rows wish weights).take i)) ⟨rfl, rfl⟩ ?_ ?_
  · rintro i x acc S' K1 K2 hx ⟨rfl, rfl⟩ k1 k2
    obtain ⟨r, w, hr, hw, rfl⟩ := zip_rows hx
    have rm := List.mem_of_getElem? hr
    have wm := List.mem_of_getElem? hw
    have hl := f.wid r rm
    have hsz := f.sz
    have hsz2 : (n + m + 1) * (weights.length + 1) = (n + m + 1) * weights.length + (n + m + 1) := Nat.mul_succ ..
    have hd := bq_dot (f.ent r rm) f.wts
    rw [hl] at hd
    refine ⟨⟨trivial, trivial⟩, _, rfl, rfl, _, rfl, _, rfl, _, rfl, use_product (as := r) (bs := weights) rfl hs hl (f.ent r rm) f.wts f.n0 f.m0 (by rw [hl]; omega) (use_less (f.wsh w wm) hd (by omega) (k1 _ _ ⟨rfl, ?_⟩))⟩
    rw [leftQ_snoc hr hw]
    unfold rowD
    rw [List.map_append]
    rfl
  · rintro acc S' ⟨rfl, rfl⟩
    refine ⟨⟨trivial, trivial⟩, _, rfl, ?_⟩
    rw [zip_rows_len, ← leftQ_len (weights := weights), List.take_length]
    exact q
def w_far_of (f1 : On) (f2 : On) : WS :=
  (wSeq (wSet 2 (wCall f1 (wCons (wVar 0) (wCons (wVar 1) wNil))))
  (wRet (wCall f2 (wCons (wVar 2) (wCons (wVar 2) wNil)))))
@[irreducible] def m_far_of : On := fun ds S Q => ∃ (nm wd : D) (rows : List (List Rat)) (wish weights : List Rat) (n k m : Nat), ds = [.tup [nm, .tup (rowsD rows), .tup (rowD wish)], wd] ∧ SC S wd (rowD weights) ∧ Fit rows wish weights n k m ∧
  (2 * (k + (n + m + 1) * weights.length + 2) + 1) * (rows.length + 1) ≤ 900000 ∧ Q (dQ (dot (leftQ rows wish weights) (leftQ rows wish weights))) S
theorem in_far_of {ds : List D} {S : Store} {Q : D → Store → Prop} (h : (fun ds S Q => ∃ (nm wd : D) (rows : List (List Rat)) (wish weights : List Rat) (n k m : Nat), ds = [.tup [nm, .tup (rowsD rows), .tup (rowD wish)], wd] ∧ SC S wd (rowD weights) ∧ Fit rows wish weights n k m ∧
  (2 * (k + (n + m + 1) * weights.length + 2) + 1) * (rows.length + 1) ≤ 900000 ∧ Q (dQ (dot (leftQ rows wish weights) (leftQ rows wish weights))) S : On) ds S Q) : m_far_of ds S Q := by unfold m_far_of; exact h
theorem use_far {nm wd : D} {rows : List (List Rat)} {wish weights : List Rat} {n k m : Nat} {S : Store} {Q : D → Store → Prop} (hs : SC S wd (rowD weights)) (f : Fit rows wish weights n k m) (sz : (2 * (k + (n + m + 1) * weights.length + 2) + 1) * (rows.length + 1) ≤ 900000)
    (q : Q (dQ (dot (leftQ rows wish weights) (leftQ rows wish weights))) S) : m_far_of [.tup [nm, .tup (rowsD rows), .tup (rowD wish)], wd] S Q := by unfold m_far_of; exact ⟨nm, wd, rows, wish, weights, n, k, m, rfl, hs, f, sz, q⟩
theorem l_far_of (ds : List D) (S : Store) (Q : D → Store → Prop) (h : m_far_of ds S Q) : ds.length = 2 := by unfold m_far_of at h; obtain ⟨_, _, _, _, _, _, _, _, rfl, _⟩ := h; rfl
theorem v_far_of (ds : List D) (S : Store) (Q : D → Store → Prop) (h : m_far_of ds S Q) : w_far_of m_left_of m_product (fin Q) (dst 3 ds) S := by
  unfold m_far_of at h
  obtain ⟨nm, wd, rows, wish, weights, n, k, m, rfl, hs, f, sz, q⟩ := h
  have hb := bq_left f
  have e : (leftQ rows wish weights).length = rows.length := by rw [leftQ_len, f.len, Nat.min_self]
  refine ⟨_, rfl, _, rfl, use_left hs f ⟨_, rfl, _, rfl, use_product rfl rfl rfl hb hb (by omega) (by omega) ?_ q⟩⟩
  rw [e]
  have e2 : k + (n + m + 1) * weights.length + 2 + (k + (n + m + 1) * weights.length + 2) + 1 = 2 * (k + (n + m + 1) * weights.length + 2) + 1 := by omega
  rw [e2]
  exact sz
/-! ### a drawn table -/
structure Tab (ws : List (List Nat)) (rows : List (List Rat)) (wish : List Rat) (n : Nat) : Prop where
  wrd : ∀ w ∈ ws, Word w
  nd : ws.Nodup
  few : ws.length ≤ 6
  low : rows.length ≤ 10
  len : rows.length = wish.length
  wid : ∀ r ∈ rows, r.length = ws.length
  ent : ∀ r ∈ rows, ∀ q ∈ r, bq n q
  wsh : ∀ q ∈ wish, bq n q
def tabD (ws : List (List Nat)) (rows : List (List Rat)) (wish : List Rat) : D := .tup [.tup (ws.map wordD), .tup (rowsD rows), .tup (rowD wish)]
def w_law_table (f1 : On) (f2 : On) (f3 : On) : WS :=
  (wSeq (wSet 1 (wCall f2 (wCons (wVar 0) (wCons (wCall f1 (wCons (wVar 0) (wCons (wC (.int 7)) wNil))) wNil))))
  (wSeq (wSet 2 (w2 oIx (wLst (wCons (wC (.int 8)) (wCons (wC (.int 6)) wNil))) (wCall f1 (wCons (wVar 0) (wCons (wC (.int 2)) wNil)))))
  (wSeq (wSet 3 (wLstM wNil))
  (wSeq (forS (wRng1 (w2 oIx (wLst (wCons (wCall f1 (wCons (wVar 0) (wCons (wC (.int 11)) wNil))) (wCons (wCall f1 (wCons (wVar 0) (wCons (wC (.int 3)) wNil))) wNil))) (wCall f1 (wCons (wVar 0) (wCons (wC (.int 2)) wNil))))) (gN 4) (wDrop (wM oAppend (wVar 3) (wCons (wCall oTuple (wCons (wLc (wSeqI (wVar 1)) (gN 6) wYes (wCall f3 (wCons (wVar 0) (wCons (wVar 2) wNil))) [6]) wNil)) wNil))))
  (wRet (wFz (wTup (wCons (wVar 1) (wCons (wCall oTuple (wCons (wVar 3) wNil)) (wCons (wCall oTuple (wCons (wLc (wSeqI (wVar 3)) (gN 5) wYes (wCall f3 (wCons (wVar 0) (wCons (wVar 2) wNil))) [5]) wNil)) wNil))))))))))
@[irreducible] def m_law_table : On := fun ds S0 Q => ∃ (p : Addr) (c : Nat), ds = [.ref p] ∧ c < 2 ^ 38 ∧ DkAt c p S0 ∧ ∀ (ws : List (List Nat)) (rows : List (List Rat)) (wish : List Rat) S', Tab ws rows wish 40 → Dk (c + 1000) p S0 S' → Q (tabD ws rows wish) S'
theorem in_law_table {ds : List D} {S : Store} {Q : D → Store → Prop} (h : (fun ds S0 Q => ∃ (p : Addr) (c : Nat), ds = [.ref p] ∧ c < 2 ^ 38 ∧ DkAt c p S0 ∧ ∀ (ws : List (List Nat)) (rows : List (List Rat)) (wish : List Rat) S', Tab ws rows wish 40 → Dk (c + 1000) p S0 S' → Q (tabD ws rows wish) S' : On) ds S Q) : m_law_table ds S Q := by unfold m_law_table; exact h
theorem use_table {p : Addr} {c : Nat} {S0 : Store} {Q : D → Store → Prop} (h : DkAt c p S0) (hc : c < 2 ^ 38) (k : ∀ (ws : List (List Nat)) (rows : List (List Rat)) (wish : List Rat) S', Tab ws rows wish 40 → Dk (c + 1000) p S0 S' → Q (tabD ws rows wish) S') : m_law_table [.ref p] S0 Q := by
  unfold m_law_table; exact ⟨p, c, rfl, hc, h, k⟩
theorem l_law_table (ds : List D) (S0 : Store) (Q : D → Store → Prop) (h : m_law_table ds S0 Q) : ds.length = 1 := by unfold m_law_table at h; obtain ⟨_, _, rfl, _⟩ := h; rfl
theorem v_law_table (ds : List D) (S0 : Store) (Q : D → Store → Prop) (h : m_law_table ds S0 Q) : w_law_table m_law_next m_law_names m_law_fraction (fin Q) (dst 7 ds) S0 := by
  unfold m_law_table at h
  obtain ⟨p, c, rfl, hc, hS, q⟩ := h
  refine ⟨_, rfl, _, rfl, use_next hS (by omega) (by decide) (by decide) fun many S1 a0 a1 d1 => use_names d1.at (by omega) a0 (by omega) fun ws S2 hws hword hnd d2 => ?_⟩
  refine ⟨by show 2 ≤ sizeLine; decide, _, rfl, use_next d2.at (by omega) (by decide) (by decide) fun r S3 b0 b1 d3 => ?_⟩
  obtain ⟨kinds, hkm, hkat⟩ := atI_int (ns := [8, 6]) (r := r) b0 (by simp; omega)
  have hk : 0 < kinds ∧ kinds ≤ 8 := by
    have : kinds = 8 ∨ kinds = 6 := by simpa using hkm
    omega
  have d03 : Dk (c + 62) p S0 S3 := ((d1.trans d2).trans (d3.up (by omega)))
  refine ⟨_, _, rfl, hkat, by show 0 ≤ sizeLine; decide, fun f hf => ?_⟩
  have hfp : f ≠ p := d03.at.ne hf
  have d03f := d03.at.put (l := .lst []) hfp
  refine ⟨_, rfl, use_next d03f (by omega) (by decide) (by decide) fun x1 S4 c0 c1 d4 => ⟨_, rfl, use_next d4.at (by omega) (by decide) (by decide) fun x2 S5 e0 e1 d5 => ⟨by show 2 ≤ sizeLine; decide, _, rfl, use_next d5.at (by omega) (by decide) (by decide) fun x3 S6 g0 g1 d6 => ?_⟩⟩⟩
  obtain ⟨size, hsm, hsat⟩ := atI_int (ns := [x1, x2]) (r := x3) g0 (by simp; omega)
  have hsz : 0 ≤ size ∧ size ≤ 10 := by
    have : size = x1 ∨ size = x2 := by simpa using hsm
    omega
  have d6' : Dk (c + 65) p (sput S3 f (.lst [])) S6 := ((d4.trans d5).trans d6).up (by omega)
  refine ⟨_, _, rfl, hsat, ⟨by omega, by omega⟩, ?_⟩
  have hlen : (rngD 0 size).length = size.toNat := by rw [rngD_len, Int.sub_zero]
  have hwl : (ws.map wordD).length = ws.length := List.length_map ..
  have hfew : ws.length ≤ 6 := by omega
  -- a row of fractions, one for each item
  have drawn : ∀ (i : Nat) (items : List D) (wt : Store → Prop) (env : Slots) (vs : Nat) (g : WG) (S : Store) (K : List D → Store → Prop) (c' : Nat), items.length ≤ 10 → DkAt c' p S → c' < 2 ^ 38 + 10000 → (∀ c' S', Dk c' p S S' → wt S') →
      (∀ x S' (K : Slots → Store → Prop), g x env S' K = K (env.set vs (some x)) S') → (env.set vs none)[0]? = some (some (.ref p)) → (env.set vs none)[2]? = some (some (.int kinds)) → vs ≠ 0 → vs ≠ 2 →
      (∀ qs S', qs.length = items.length → (∀ q ∈ qs, bq 40 q) → Dk (c' + 9 * items.length) p S S' → K (rowD qs) S') →
      lcW wt g wYes (wCall m_law_fraction (wCons (wVar 0) (wCons (wVar 2) wNil))) env items [] S K := by
    intro i items wt env vs g S K c' hi hS hc hw hg h0 h2 n0 n2 k
    refine lc_row (c := c') (k := 9) (n := 40) hS hw (fun j x S' K' hj dj k' => ?_) k
    have hj2 : j < items.length := (List.getElem?_eq_some_iff.mp hj).1
    rw [hg]
    refine ⟨_, by rw [List.getElem?_set_ne n0] at h0 ⊢; exact h0, _, by rw [List.getElem?_set_ne n2] at h2 ⊢; exact h2, use_draw dj.at (by omega) hk.1 (by omega) fun q S'' h1 _ h3 => k' q S'' h1 (h3.up (by omega))⟩
  refine for_inv (fun k env S' => ∃ (rows : List (List Rat)) (o4 o5 o6 : Option D), env = [some (.ref p), some (.tup (ws.map wordD)), some (.int kinds), some (.ref f), o4, o5, o6] ∧ rows.length = k ∧ (∀ r ∈ rows, r.length = ws.length ∧ ∀ q ∈ r, bq 40 q) ∧ Dk (c + 65 + 54 * k) p (sput S3 f (.lst (rowsD rows))) S')
    ⟨[], _, _, _, rfl, rfl, by simp, d6'⟩ ?_ ?_
  · rintro k x env S K hx ⟨rows, o4, o5, o6, rfl, hkl, hrows, d⟩ hK
    obtain ⟨rfl, hk2⟩ := rngD_get hx
    have hk10 : k < 10 := by omega
    refine ⟨trivial, _, rfl, ⟨_, d.cell hfp⟩, _, rfl, _, rfl, ?_, ?_⟩
    · rw [hwl]; exact Nat.le_trans hfew (by decide)
    refine drawn k _ _ _ 6 _ S _ (c + 65 + 54 * k) (by rw [hwl]; omega) d.at (by omega) (fun _ _ _ => trivial) (fun _ _ _ => rfl) rfl rfl (by decide) (by decide) fun qs S7 hq hb d7 => ?_
    rw [hwl] at hq d7
    have d8 := d.trans (d7.up (show c + 65 + 54 * k + 9 * ws.length ≤ c + 65 + 54 * (k + 1) by omega))
    refine ⟨_, rfl, _, _, d8.cell hfp, rfl, ?_, fun a ha => ?_⟩
    · rw [rowsD_len, hkl]; exact Nat.lt_of_lt_of_le hk10 (by decide)
    cases ha
    refine hK _ _ ⟨rows ++ [qs], _, _, _, rfl, by simp [hkl], fun r hr => ?_, ?_⟩
    · rcases List.mem_append.mp hr with h | h
      · exact hrows r h
      · rw [List.mem_singleton.mp h]; exact ⟨hq, hb⟩
    · have := d8.put (l' := .lst (rowsD (rows ++ [qs]))) hfp
      have e : rowsD (rows ++ [qs]) = rowsD rows ++ [.tup (rowD qs)] := by unfold rowsD; rw [List.map_append]; rfl
      rw [e] at this ⊢
      exact this
  · rintro env S ⟨rows, o4, o5, o6, rfl, hkl, hrows, d⟩
    rw [hlen] at hkl d
    have hcell := d.cell hfp
    refine ⟨trivial, _, rfl, _, rfl, _, hcell, _, rfl, _, hcell, ?_, ?_⟩
    · rw [rowsD_len]; exact Nat.le_trans (show rows.length ≤ 10 by omega) (by decide)
    refine drawn 0 _ _ _ 5 _ S _ (c + 65 + 54 * size.toNat) (by rw [rowsD_len]; omega) d.at (by omega) (fun c' S' h => by show S' f = _; rw [h.get hfp]; exact hcell) (fun _ _ _ => rfl) rfl rfl (by decide) (by decide) fun qs S7 hq hb d7 => ?_
    rw [rowsD_len] at hq d7
    have d8 := d.trans d7
    obtain ⟨S'', hs, d9⟩ := d8.drop hfp hf
    refine ⟨_, rfl, by show 3 ≤ sizeLine; decide, _, S'', hs, .same _, ?_⟩
    exact q ws rows qs S'' ⟨hword, hnd, hfew, by omega, hq.symm, fun r hr => (hrows r hr).1, fun r hr => (hrows r hr).2, hb⟩ ((d03.trans d9).up (by omega))
/-! ### rows told equal -/
theorem pure_rowD : ∀ {qs : List Rat}, pureDs (rowD qs) = true
  | [] => rfl
  | q :: r => by
    show (pureD (dQ q) && pureDs (rowD r)) = true
    rw [pure_rowD (qs := r)]
    rfl
theorem deep_rowD : ∀ {qs : List Rat}, deepDs (rowD qs) ≤ 1
  | [] => by decide
  | q :: r => by
    show max (deepD (dQ q)) (deepDs (rowD r)) ≤ 1
    have := deep_rowD (qs := r)
    rw [deep_dQ]
    omega
theorem rowD_inj : ∀ {a b : List Rat}, rowD a = rowD b → a = b
  | [], [], _ => rfl
  | [], _ :: _, h => by cases h
  | _ :: _, [], h => by cases h
  | x :: a, y :: b, h => by
    have h1 : dQ x = dQ y ∧ rowD a = rowD b := List.cons.inj h
    rw [dQ_inj h1.1, rowD_inj h1.2]
theorem eq_dec {neg : Bool} {P : Prop} [Decidable P] {S : Store} {Q : D → Store → Prop} {c : Bool} (hc : c = true ↔ P) (h : Q (.bl (nb neg (decide P))) S) : Q (.bl (nb neg c)) S := by
  have e : c = decide P := by
    by_cases hp : P
    · rw [decide_eq_true hp]; exact hc.mpr hp
    · rw [decide_eq_false hp]
      cases c with
      | true => exact absurd (hc.mp rfl) hp
      | false => rfl
  rw [e]
  exact h
theorem eq_row {neg : Bool} {a b : List Rat} {S : Store} {Q : D → Store → Prop} (h : Q (.bl (nb neg (decide (a = b)))) S) : oEqB neg (.tup (rowD a)) (.tup (rowD b)) S Q := by
  have hd : ∀ qs, deepD (.tup (rowD qs)) ≤ 64 := fun qs => by
    have := deep_rowD (qs := qs)
    show deepDs (rowD qs) + 1 ≤ 64
    omega
  exact eq_pure (x := .tup (rowD a)) (y := .tup (rowD b)) pure_rowD pure_rowD (hd a) (hd b) fun c hc => eq_dec (P := a = b) (hc.trans ⟨fun e => by injection e with e; exact rowD_inj e, fun e => by rw [e]⟩) h
/-- an empty list told empty -/
theorem eq_nilL {neg : Bool} {S : Store} {Q : D → Store → Prop} (h : Q (.bl (nb neg true)) S) : oEqB neg (.lst []) (.lst []) S Q :=
  eq_pure (x := .lst []) (y := .lst []) rfl rfl (by decide) (by decide) fun b hb => by
    have eb : b = true := hb.mpr rfl
    subst eb
    exact h
/-- a filter that lets none by -/
theorem lc_none {wt : Store → Prop} {g : WG} {tt : WT} {te : WE} {env : Slots} {items : List D} {S : Store} {Q : List D → Store → Prop} (hw : wt S) (step : ∀ x (K : Slots → Bool → Store → Prop), x ∈ items → (∀ env1, K env1 false S) → g x env S fun env1 S1 => tt env1 S1 (K env1)) (done : Q [] S) : lcW wt g tt te env items [] S Q := by
  refine lc_inv (fun i acc S' => S' = S ∧ acc = []) ⟨rfl, rfl⟩ ?_ ?_
  · rintro i x acc S' K1 K2 hx ⟨rfl, rfl⟩ k1 k2
    exact ⟨hw, step x (fun env1 b S2 => if b = true then te env1 S2 K1 else K2 S2) (List.mem_of_getElem? hx) fun env1 => k2 _ ⟨rfl, rfl⟩⟩
  · rintro acc S' ⟨rfl, rfl⟩
    exact ⟨hw, done⟩
theorem mem_rowD {qs : List Rat} {x : D} (h : x ∈ rowD qs) : ∃ q, q ∈ qs ∧ x = dQ q := by
  obtain ⟨q, h1, h2⟩ := List.mem_map.mp h
  exact ⟨q, h1, h2.symm⟩
theorem rowD_get {qs : List Rat} {i : Nat} {x : D} (h : (rowD qs)[i]? = some x) : ∃ q, qs[i]? = some q ∧ x = dQ q := by
  unfold rowD at h
  rw [List.getElem?_map] at h
  cases e : qs[i]? with
  | none => rw [e] at h; cases h
  | some q => rw [e] at h; cases h; exact ⟨q, rfl, rfl⟩

end ND
set_option Elab.async false
set_option linter.all false
set_option maxRecDepth 100000
namespace ND
open PySem PySem.Spec PyProof.Rows L2
/-! ### rows turned into rows -/
theorem lc_rowQ {wt : Store → Prop} {g : WG} {te : WE} {env : Slots} {a : List Rat} {S : Store} {Q : List D → Store → Prop} (f : Rat → Rat) (hw : wt S) (step : ∀ q (K : D → Store → Prop), q ∈ a → K (dQ (f q)) S → g (dQ q) env S fun env1 S1 => te env1 S1 K)
    (done : Q (rowD (a.map f)) S) : lcW wt g wYes te env (rowD a) [] S Q := by
  refine lc_inv (fun i acc S' => S' = S ∧ acc = rowD ((a.map f).take i)) ⟨rfl, rfl⟩ ?_ ?_
  · rintro i x acc S' K1 K2 hx ⟨rfl, rfl⟩ k1 k2
    obtain ⟨q, hq, rfl⟩ := rowD_get hx
    refine ⟨hw, step q K1 (List.mem_of_getElem? hq) (k1 _ _ ⟨rfl, ?_⟩)⟩
    rw [List.take_add_one, List.getElem?_map, hq]
    unfold rowD
    rw [List.map_append]
    rfl
  · rintro acc S' ⟨rfl, rfl⟩
    rw [rowD_len, ← List.length_map f, List.take_length]
    exact ⟨hw, done⟩
theorem lc_zipQ {wt : Store → Prop} {g : WG} {te : WE} {env : Slots} {a b : List Rat} {S : Store} {Q : List D → Store → Prop} (f : Rat → Rat → Rat) (hw : wt S) (step : ∀ x y (K : D → Store → Prop), x ∈ a → y ∈ b → K (dQ (f x y)) S → g (.tup [dQ x, dQ y]) env S fun env1 S1 => te env1 S1 K)
    (done : Q (rowD (List.zipWith f a b)) S) : lcW wt g wYes te env (zipD (rowD a) (rowD b)) [] S Q := by
  have hl : (zipD (rowD a) (rowD b)).length = (List.zipWith f a b).length := by unfold zipD rowD; simp
  refine lc_inv (fun i acc S' => S' = S ∧ acc = rowD ((List.zipWith f a b).take i)) ⟨rfl, rfl⟩ ?_ ?_
  · rintro i x acc S' K1 K2 hx ⟨rfl, rfl⟩ k1 k2
    obtain ⟨u, v, hu, hv, rfl⟩ := zip_at hx
    refine ⟨hw, step u v K1 (List.mem_of_getElem? hu) (List.mem_of_getElem? hv) (k1 _ _ ⟨rfl, ?_⟩)⟩
    rw [List.take_add_one, List.getElem?_zipWith, hu, hv]
    unfold rowD
    rw [List.map_append]
    rfl
  · rintro acc S' ⟨rfl, rfl⟩
    rw [hl, List.take_length]
    exact ⟨hw, done⟩
theorem rowsD_get {rows : List (List Rat)} {i : Nat} {x : D} (h : (rowsD rows)[i]? = some x) : ∃ r, rows[i]? = some r ∧ x = .tup (rowD r) := by
  unfold rowsD at h
  rw [List.getElem?_map] at h
  cases e : rows[i]? with
  | none => rw [e] at h; cases h
  | some q => rw [e] at h; cases h; exact ⟨q, rfl, rfl⟩
/-- any rows turned into numbers -/
theorem lc_rowsQ {wt : Store → Prop} {g : WG} {te : WE} {env : Slots} {rows : List (List Rat)} {S : Store} {Q : List D → Store → Prop} (f : List Rat → Rat) (hw : wt S) (step : ∀ r (K : D → Store → Prop), r ∈ rows → K (dQ (f r)) S → g (.tup (rowD r)) env S fun env1 S1 => te env1 S1 K)
    (done : Q (rowD (rows.map f)) S) : lcW wt g wYes te env (rowsD rows) [] S Q := by
  refine lc_inv (fun i acc S' => S' = S ∧ acc = rowD ((rows.map f).take i)) ⟨rfl, rfl⟩ ?_ ?_
  · rintro i x acc S' K1 K2 hx ⟨rfl, rfl⟩ k1 k2
    obtain ⟨q, hq, rfl⟩ := rowsD_get hx
    refine ⟨hw, step q K1 (List.mem_of_getElem? hq) (k1 _ _ ⟨rfl, ?_⟩)⟩
    rw [List.take_add_one, List.getElem?_map, hq]
    unfold rowD
    rw [List.map_append]
    rfl
  · rintro acc S' ⟨rfl, rfl⟩
    rw [rowsD_len, ← List.length_map f, List.take_length]
    exact ⟨hw, done⟩
/-- rows into rows -/
theorem lc_rowsR {wt : Store → Prop} {g : WG} {te : WE} {env : Slots} {rows : List (List Rat)} {S : Store} {Q : List D → Store → Prop} (f : List Rat → List Rat) (hw : wt S) (step : ∀ r (K : D → Store → Prop), r ∈ rows → K (.tup (rowD (f r))) S → g (.tup (rowD r)) env S fun env1 S1 => te env1 S1 K)
    (done : Q (rowsD (rows.map f)) S) : lcW wt g wYes te env (rowsD rows) [] S Q := by
  refine lc_inv (fun i acc S' => S' = S ∧ acc = rowsD ((rows.map f).take i)) ⟨rfl, rfl⟩ ?_ ?_
  · rintro i x acc S' K1 K2 hx ⟨rfl, rfl⟩ k1 k2
    obtain ⟨q, hq, rfl⟩ := rowsD_get hx
    refine ⟨hw, step q K1 (List.mem_of_getElem? hq) (k1 _ _ ⟨rfl, ?_⟩)⟩
    rw [List.take_add_one, List.getElem?_map, hq]
    unfold rowsD
    rw [List.map_append]
    rfl
  · rintro acc S' ⟨rfl, rfl⟩
    rw [rowsD_len, ← List.length_map f, List.take_length]
    exact ⟨hw, done⟩
/-! ### sums and products of rows -/
def addQ (a b : List Rat) : List Rat := List.zipWith (· + ·) a b
def subQ (a b : List Rat) : List Rat := List.zipWith (· - ·) a b
def mulQ (a : List Rat) (c : Rat) : List Rat := a.map (· * c)
def colQ (rows : List (List Rat)) (w : List Rat) : List Rat := rows.map fun r => dot r w
theorem addQ_len {a b : List Rat} (h : a.length = b.length) : (addQ a b).length = a.length := by unfold addQ; rw [List.length_zipWith]; omega
theorem subQ_len {a b : List Rat} (h : a.length = b.length) : (subQ a b).length = a.length := by unfold subQ; rw [List.length_zipWith]; omega
theorem mulQ_len {a : List Rat} {c : Rat} : (mulQ a c).length = a.length := List.length_map ..
theorem colQ_len {rows : List (List Rat)} {w : List Rat} : (colQ rows w).length = rows.length := List.length_map ..
theorem mem_zip {f : Rat → Rat → Rat} : ∀ {a b : List Rat} {q : Rat}, q ∈ List.zipWith f a b → ∃ x y, x ∈ a ∧ y ∈ b ∧ q = f x y
  | [], b, q, h => by cases b <;> cases h
  | x :: a, [], q, h => by cases h
  | x :: a, y :: b, q, h => by
    rw [List.zipWith_cons_cons] at h
    rcases List.mem_cons.mp h with rfl | h
    · exact ⟨x, y, List.mem_cons_self .., List.mem_cons_self .., rfl⟩
    · obtain ⟨u, v, h1, h2, h3⟩ := mem_zip h
      exact ⟨u, v, List.mem_cons_of_mem _ h1, List.mem_cons_of_mem _ h2, h3⟩
theorem bq_addQ {a b : List Rat} {n m : Nat} (ha : ∀ q ∈ a, bq n q) (hb : ∀ q ∈ b, bq m q) : ∀ q ∈ addQ a b, bq (n + m + 1) q := fun q h => by
  obtain ⟨x, y, h1, h2, rfl⟩ := mem_zip h
  exact bq_add (ha x h1) (hb y h2)
theorem bq_subQ {a b : List Rat} {n m : Nat} (ha : ∀ q ∈ a, bq n q) (hb : ∀ q ∈ b, bq m q) : ∀ q ∈ subQ a b, bq (n + m + 1) q := fun q h => by
  obtain ⟨x, y, h1, h2, rfl⟩ := mem_zip h
  exact bq_sub (ha x h1) (hb y h2)
theorem bq_mulQ {a : List Rat} {c : Rat} {n m : Nat} (ha : ∀ q ∈ a, bq n q) (hc : bq m c) : ∀ q ∈ mulQ a c, bq (n + m) q := fun q h => by
  obtain ⟨x, h1, rfl⟩ := List.mem_map.mp h
  exact bq_mul (ha x h1) hc
theorem bq_colQ {rows : List (List Rat)} {w : List Rat} {n m : Nat} (hr : ∀ r ∈ rows, r.length = w.length ∧ ∀ q ∈ r, bq n q) (hw : ∀ q ∈ w, bq m q) : ∀ q ∈ colQ rows w, bq ((n + m + 1) * w.length + 1) q := fun q h => by
  obtain ⟨r, h1, rfl⟩ := List.mem_map.mp h
  have := bq_dot (hr r h1).2 hw
  rw [(hr r h1).1] at this
  exact this
theorem dot_addQ : ∀ (r a b : List Rat), a.length = b.length → dot r (addQ a b) = dot r a + dot r b
  | [], a, b, _ => by rw [dot_nil_left, dot_nil_left, dot_nil_left, Rat.add_zero]
  | x :: r, [], b, h => by
    have : b = [] := List.eq_nil_of_length_eq_zero h.symm
    subst this
    rw [show addQ [] [] = [] from rfl, dot_nil_right, Rat.add_zero]
  | x :: r, y :: a, [], h => by simp at h
  | x :: r, y :: a, z :: b, h => by
    have := dot_addQ r a b (by simpa using h)
    show x * (y + z) + dot r (addQ a b) = _
    rw [this, dot_cons, dot_cons]
    grind
theorem dot_subQ : ∀ (r a b : List Rat), a.length = b.length → dot r (subQ a b) = dot r a - dot r b
  | [], a, b, _ => by rw [dot_nil_left, dot_nil_left, dot_nil_left]; grind
  | x :: r, [], b, h => by
    have : b = [] := List.eq_nil_of_length_eq_zero h.symm
    subst this
    rw [show subQ [] [] = [] from rfl, dot_nil_right]
    grind
  | x :: r, y :: a, [], h => by simp at h
  | x :: r, y :: a, z :: b, h => by
    have := dot_subQ r a b (by simpa using h)
    show x * (y - z) + dot r (subQ a b) = _
    rw [this, dot_cons, dot_cons]
    grind
theorem dot_mulQ (c : Rat) : ∀ (r a : List Rat), dot r (mulQ a c) = dot r a * c
  | [], a => by rw [dot_nil_left, dot_nil_left, Rat.zero_mul]
  | x :: r, [] => by rw [show mulQ [] c = [] from rfl, dot_nil_right, Rat.zero_mul]
  | x :: r, y :: a => by
    have := dot_mulQ c r a
    show x * (y * c) + dot r (mulQ a c) = _
    rw [this, dot_cons]
    grind
theorem dot_app : ∀ (a b c d : List Rat), a.length = b.length → dot (a ++ c) (b ++ d) = dot a b + dot c d
  | [], [], c, d, _ => by rw [List.nil_append, List.nil_append, dot_nil_left, Rat.zero_add]
  | [], _ :: _, _, _, h => by simp at h
  | _ :: _, [], _, _, h => by simp at h
  | x :: a, y :: b, c, d, h => by
    have := dot_app a b c d (by simpa using h)
    rw [List.cons_append, List.cons_append, dot_cons, dot_cons, this]
    grind
theorem dot_rev : ∀ (a b : List Rat), a.length = b.length → dot a.reverse b.reverse = dot a b
  | [], [], _ => rfl
  | [], _ :: _, h => by simp at h
  | _ :: _, [], h => by simp at h
  | x :: a, y :: b, h => by
    have hl : a.length = b.length := by simpa using h
    rw [List.reverse_cons, List.reverse_cons, dot_app _ _ _ _ (by simp [hl]), dot_rev a b hl]
    show dot a b + (x * y + 0) = x * y + dot a b
    grind
theorem sq_nonneg (x : Rat) : 0 ≤ x * x := by
  rcases Rat.le_total (a := 0) (b := x) with h | h
  · exact Rat.mul_nonneg h h
  · have h2 : 0 ≤ -x := by grind
    have := Rat.mul_nonneg h2 h2
    grind
theorem dot_self_nonneg : ∀ (a : List Rat), 0 ≤ dot a a
  | [] => by rw [dot_nil_left]; exact Rat.le_refl
  | x :: a => by
    have h1 := dot_self_nonneg a
    have h2 := sq_nonneg x
    rw [dot_cons]
    grind
theorem sq_zero {x : Rat} (h : x * x = 0) : x = 0 := by
  rcases Rat.mul_eq_zero.mp h with h | h <;> exact h
theorem dot_self_zero : ∀ {a : List Rat}, dot a a = 0 ↔ ∀ x ∈ a, x = 0
  | [] => by rw [dot_nil_left]; simp
  | x :: a => by
    have h1 := dot_self_nonneg a
    have h2 := sq_nonneg x
    rw [dot_cons, List.forall_mem_cons, ← dot_self_zero (a := a)]
    constructor
    · intro h
      have e1 : x * x = 0 := by grind
      have e2 : dot a a = 0 := by grind
      exact ⟨sq_zero e1, e2⟩
    · rintro ⟨rfl, h⟩
      rw [h, Rat.mul_zero, Rat.add_zero]
/-- left, as numbers -/
theorem leftQ_eq {rows : List (List Rat)} {wish w : List Rat} : leftQ rows wish w = subQ wish (colQ rows w) := by
  unfold leftQ subQ colQ
  induction rows generalizing wish with
  | nil => cases wish <;> rfl
  | cons r rows ih =>
    cases wish with
    | nil => rfl
    | cons x wish => rw [List.zipWith_cons_cons, List.map_cons, List.zipWith_cons_cons, ih]
theorem eq_blB {neg : Bool} {a b : Bool} {S : Store} {Q : D → Store → Prop} (h : Q (.bl (nb neg (a == b))) S) : oEqB neg (.bl a) (.bl b) S Q := by
  refine ⟨.bl a, .bl b, rfl, rfl, ⟨rfl, rfl⟩, ⟨rfl, rfl⟩, ?_⟩
  have e : deq (.bl a) (.bl b) = (a == b) := by cases a <;> cases b <;> rfl
  rw [e]
  exact h
theorem lc_filterQ {wt : Store → Prop} {g : WG} {tt : WT} {te : WE} {env : Slots} {a : List Rat} {S : Store} {Q : List D → Store → Prop} (p : Rat → Bool) (hw : wt S)
    (step : ∀ q (K : D → Store → Prop) (K2 : Store → Prop), q ∈ a → (p q = true → K (dQ q) S) → (p q = false → K2 S) → g (dQ q) env S fun env1 S1 => tt env1 S1 fun b S2 => if b = true then te env1 S2 K else K2 S2) (done : Q (rowD (a.filter p)) S) :
    lcW wt g tt te env (rowD a) [] S Q := by
  refine lc_inv (fun i acc S' => S' = S ∧ acc = rowD ((a.take i).filter p)) ⟨rfl, rfl⟩ ?_ ?_
  · rintro i x acc S' K1 K2 hx ⟨rfl, rfl⟩ k1 k2
    obtain ⟨q, hq, rfl⟩ := rowD_get hx
    have ht : (a.take (i + 1)).filter p = (a.take i).filter p ++ [q].filter p := by rw [List.take_add_one, hq, List.filter_append]; rfl
    refine ⟨hw, step q K1 K2 (List.mem_of_getElem? hq) (fun h => k1 _ _ ⟨rfl, ?_⟩) fun h => k2 _ ⟨rfl, ?_⟩⟩
    · rw [ht, List.filter_cons_of_pos h]
      unfold rowD
      rw [List.map_append]
      rfl
    · rw [ht, List.filter_cons_of_neg (by rw [h]; exact Bool.false_ne_true)]
      simp
  · rintro acc S' ⟨rfl, rfl⟩
    rw [rowD_len, List.take_length]
    exact ⟨hw, done⟩
/-! ### sums of columns -/
theorem colQ_add {rows : List (List Rat)} {a b : List Rat} (h : a.length = b.length) : colQ rows (addQ a b) = addQ (colQ rows a) (colQ rows b) := by
  unfold colQ
  induction rows with
  | nil => rfl
  | cons r rows ih => rw [List.map_cons, ih, dot_addQ r a b h]; rfl
theorem colQ_sub {rows : List (List Rat)} {a b : List Rat} (h : a.length = b.length) : colQ rows (subQ a b) = subQ (colQ rows a) (colQ rows b) := by
  unfold colQ
  induction rows with
  | nil => rfl
  | cons r rows ih => rw [List.map_cons, ih, dot_subQ r a b h]; rfl
theorem colQ_mul {rows : List (List Rat)} {a : List Rat} {c : Rat} : colQ rows (mulQ a c) = mulQ (colQ rows a) c := by
  unfold colQ mulQ
  rw [List.map_map]
  exact List.map_congr_left fun r _ => dot_mulQ c r a
theorem subQ_addQ : ∀ (a b c : List Rat), subQ a (addQ b c) = subQ (subQ a b) c
  | [], b, c => by cases b <;> cases c <;> rfl
  | x :: a, [], c => rfl
  | x :: a, y :: b, [] => rfl
  | x :: a, y :: b, z :: c => by
    show (x - (y + z)) :: subQ a (addQ b c) = (x - y - z) :: subQ (subQ a b) c
    rw [subQ_addQ a b c]
    congr 1
    grind
theorem subQ_same : ∀ (a b c : List Rat), a.length = c.length → b.length = c.length → subQ (addQ a c) (addQ b c) = subQ a b
  | [], [], [], _, _ => rfl
  | x :: a, y :: b, z :: c, h1, h2 => by
    show (x + z - (y + z)) :: subQ (addQ a c) (addQ b c) = (x - y) :: subQ a b
    rw [subQ_same a b c (by simpa using h1) (by simpa using h2)]
    congr 1
    grind
  | [], _ :: _, [], _, h => by simp at h
  | _ :: _, _, [], h, _ => by simp at h
  | [], _, _ :: _, h, _ => by simp at h
  | _, [], _ :: _, _, h => by simp at h

end ND
set_option Elab.async false
set_option linter.all false
set_option maxRecDepth 100000
namespace ND
open PySem PySem.Spec PyProof.Rows L2
/-! ### M4: a system in whole numbers -/
def lcmQ (b : Nat) (qs : List Rat) : Nat := qs.foldl (fun b q => Nat.lcm b q.den) b
theorem lcmQ_cons (b : Nat) (q : Rat) (qs : List Rat) : lcmQ b (q :: qs) = lcmQ (Nat.lcm b q.den) qs := rfl
theorem lcmQ_pos : ∀ {qs : List Rat} {b : Nat}, 0 < b → 0 < lcmQ b qs
  | [], _, h => h
  | q :: qs, b, h => by rw [lcmQ_cons]; exact lcmQ_pos (Nat.lcm_pos h q.den_pos)
theorem lcmQ_dvd_start : ∀ {qs : List Rat} {b : Nat}, b ∣ lcmQ b qs
  | [], b => Nat.dvd_refl b
  | q :: qs, b => by rw [lcmQ_cons]; exact Nat.dvd_trans (Nat.dvd_lcm_left ..) lcmQ_dvd_start
theorem lcmQ_dvd : ∀ {qs : List Rat} {b : Nat} {q : Rat}, q ∈ qs → q.den ∣ lcmQ b qs
  | p :: qs, b, q, h => by
    rw [lcmQ_cons]
    rcases List.mem_cons.mp h with rfl | h
    · exact Nat.dvd_trans (Nat.dvd_lcm_right ..) lcmQ_dvd_start
    · exact lcmQ_dvd h
theorem lcm_lt {a b m n : Nat} (ha : 0 < a) (hb : 0 < b) (h1 : a < 2 ^ m) (h2 : b < 2 ^ n) : Nat.lcm a b < 2 ^ (m + n) := by
  refine Nat.lt_of_le_of_lt (Nat.div_le_self _ _) ?_
  rw [Nat.pow_add]
  exact Nat.mul_lt_mul_of_lt_of_lt h1 h2
theorem lcmQ_lt {n : Nat} : ∀ {qs : List Rat} {b m : Nat}, 0 < b → b < 2 ^ m → (∀ q ∈ qs, bq n q) → lcmQ b qs < 2 ^ (m + n * qs.length)
  | [], b, m, _, h, _ => h
  | q :: qs, b, m, h0, h, hq => by
    rw [lcmQ_cons]
    have := lcmQ_lt (m := m + n) (Nat.lcm_pos h0 q.den_pos) (lcm_lt h0 q.den_pos h (hq q (List.mem_cons_self ..)).2) fun r hr => hq r (List.mem_cons_of_mem _ hr)
    rw [List.length_cons, Nat.mul_succ]
    rwa [show m + n + n * qs.length = m + (n * qs.length + n) by omega] at this
/-- one row in whole numbers -/
def wholeQ (qs : List Rat) : List Int := qs.map fun q => q.num * ((lcmQ 1 qs / q.den : Nat) : Int)
theorem num_eq (q : Rat) : (q.num : Rat) = q * ((q.den : Nat) : Rat) := by
  rw [Rat.mul_def']
  show ((q.num : Int) : Rat) = mkRat (q.num * (q.den : Nat)) (q.den * 1)
  rw [Nat.mul_one]
  have h1 : ((q.num : Int) : Rat) = mkRat q.num 1 := by
    have := Rat.mkRat_self (q.num : Rat)
    exact this.symm
  rw [h1, Rat.mkRat_eq_iff (by decide) q.den_nz]
  simp
theorem whole_val {b : Nat} {q : Rat} (h : q.den ∣ b) : ((q.num * ((b / q.den : Nat) : Int) : Int) : Rat) = ((b : Nat) : Rat) * q := by
  obtain ⟨k, rfl⟩ := h
  rw [Nat.mul_div_cancel_left k q.den_pos, Rat.intCast_mul, num_eq q, Rat.natCast_mul]
  rw [show (((k : Nat) : Int) : Rat) = ((k : Nat) : Rat) from rfl]
  grind

end ND
set_option Elab.async false
set_option linter.all false
set_option maxRecDepth 100000
namespace ND
open PySem PySem.Spec PyProof.Rows L2
theorem lc_mapA {α β : Type} {wt : Store → Prop} {g : WG} {te : WE} {env : Slots} {S : Store} {Q : List D → Store → Prop} (ι : α → D) (κ : β → D) (f : α → β) (a : List α) (hw : wt S)
    (step : ∀ x (K : D → Store → Prop), x ∈ a → K (κ (f x)) S → g (ι x) env S fun env1 S1 => te env1 S1 K) (done : Q ((a.map f).map κ) S) : lcW wt g wYes te env (a.map ι) [] S Q := by
  refine lc_inv (fun i acc S' => S' = S ∧ acc = ((a.take i).map f).map κ) ⟨rfl, rfl⟩ ?_ ?_
  · rintro i x acc S' K1 K2 hx ⟨rfl, rfl⟩ k1 k2
    rw [List.getElem?_map] at hx
    cases e : a[i]? with
    | none => rw [e] at hx; cases hx
    | some y =>
      rw [e] at hx
      cases hx
      refine ⟨hw, step y K1 (List.mem_of_getElem? e) (k1 _ _ ⟨rfl, ?_⟩)⟩
      rw [List.take_add_one, e, List.map_append, List.map_append]
      rfl
  · rintro acc S' ⟨rfl, rfl⟩
    rw [List.length_map, List.take_length]
    exact ⟨hw, done⟩
theorem lcm_fdiv {b d : Nat} (hd : 0 < d) : ((b : Int) * (d : Int)).fdiv ((Int.gcd (b : Int) (d : Int) : Nat) : Int) = ((Nat.lcm b d : Nat) : Int) := by
  rw [Int.gcd_natCast_natCast, ← Int.natCast_mul, Int.fdiv_eq_ediv_of_nonneg _ (by omega), ← Int.natCast_ediv]
  rfl
theorem row_line' {a : List Rat} (h : a.length ≤ 1000) : (rowD a).length ≤ sizeLine := by rw [rowD_len]; exact Nat.le_trans h (by decide)
def w_made_whole (f1 : On) : WS :=
  (wSeq (wSet 2 (wC (.int 1)))
  (wSeq (forS (wSeqI (wVar 0)) (gN 3) (wSet 2 (w2 oFdiv (w2 oMul (wVar 2) (w2 oIx (wVar 3) (wC (.int 1)))) (wCall f1 (wCons (wVar 2) (wCons (w2 oIx (wVar 3) (wC (.int 1))) wNil))))))
  (wRet (w2 oAdd (wLc (wSeqI (wVar 0)) (gN 3) wYes (w2 oMul (w2 oIx (wVar 3) (wC (.int 0))) (w2 oFdiv (wVar 2) (w2 oIx (wVar 3) (wC (.int 1))))) [3]) (wLc (wSeqI (wVar 1)) (gN 4) wYes (w2 oMul (wVar 2) (wVar 4)) [4])))))
@[irreducible] def m_made_whole : On := fun ds S Q => ∃ (x : D) (qs : List Rat) (ms : List Int) (n : Nat), ds = [x, .lst (ms.map D.int)] ∧ SC S x (rowD qs) ∧ (∀ q ∈ qs, bq n q) ∧ (∀ k ∈ ms, k.natAbs ≤ 1) ∧ 0 < n ∧ n * qs.length + n ≤ 290000 ∧ qs.length ≤ 1000 ∧ ms.length ≤ 1000 ∧
  Q (.lst ((wholeQ qs ++ ms.map (((lcmQ 1 qs : Nat) : Int) * ·)).map D.int)) S
theorem in_made_whole {ds : List D} {S : Store} {Q : D → Store → Prop} (h : (fun ds S Q => ∃ (x : D) (qs : List Rat) (ms : List Int) (n : Nat), ds = [x, .lst (ms.map D.int)] ∧ SC S x (rowD qs) ∧ (∀ q ∈ qs, bq n q) ∧ (∀ k ∈ ms, k.natAbs ≤ 1) ∧ 0 < n ∧ n * qs.length + n ≤ 290000 ∧ qs.length ≤ 1000 ∧ ms.length ≤ 1000 ∧
  Q (.lst ((wholeQ qs ++ ms.map (((lcmQ 1 qs : Nat) : Int) * ·)).map D.int)) S : On) ds S Q) : m_made_whole ds S Q := by unfold m_made_whole; exact h
theorem l_made_whole (ds : List D) (S : Store) (Q : D → Store → Prop) (h : m_made_whole ds S Q) : ds.length = 2 := by unfold m_made_whole at h; obtain ⟨_, _, _, _, rfl, _⟩ := h; rfl
theorem use_made_whole {x : D} {qs : List Rat} {ms : List Int} {n : Nat} {S : Store} {Q : D → Store → Prop} (hx : SC S x (rowD qs)) (hq : ∀ q ∈ qs, bq n q) (hm : ∀ k ∈ ms, k.natAbs ≤ 1) (n0 : 0 < n) (hs : n * qs.length + n ≤ 290000) (h1 : qs.length ≤ 1000) (h2 : ms.length ≤ 1000)
    (q : Q (.lst ((wholeQ qs ++ ms.map (((lcmQ 1 qs : Nat) : Int) * ·)).map D.int)) S) : m_made_whole [x, .lst (ms.map D.int)] S Q := by unfold m_made_whole; exact ⟨x, qs, ms, n, rfl, hx, hq, hm, n0, hs, h1, h2, q⟩
theorem v_made_whole (ds : List D) (S : Store) (Q : D → Store → Prop) (h : m_made_whole ds S Q) : w_made_whole m_divisor (fin Q) (dst 5 ds) S := by
  unfold m_made_whole at h
  obtain ⟨x, qs, ms, n, rfl, hx, hq, hm, n0, hs, hl1, hl2, q⟩ := h
  have bits : ∀ i, i ≤ qs.length → n * i ≤ n * qs.length := fun i hi => Nat.mul_le_mul_left _ hi
  refine ⟨_, rfl, walkD_of hx ?_⟩
  refine for_inv (fun i env S' => S' = S ∧ ∃ o3 o4, env = [some x, some (.lst (ms.map D.int)), some (.int ((lcmQ 1 (qs.take i) : Nat) : Int)), o3, o4]) ⟨rfl, _, _, rfl⟩ ?_ ?_
  · rintro i z env S' K hz ⟨rfl, o3, o4, rfl⟩ hK
    obtain ⟨r, hr, rfl⟩ := rowD_get hz
    have hi : i < qs.length := (List.getElem?_eq_some_iff.mp hr).1
    have br := hq r (List.mem_of_getElem? hr)
    have hb := lcmQ_lt (qs := qs.take i) (n := n) (b := 1) (m := 1) (by decide) (by decide) fun q h => hq q (List.mem_of_mem_take h)
    rw [List.length_take, Nat.min_eq_left (Nat.le_of_lt hi)] at hb
    have h0 := lcmQ_pos (qs := qs.take i) (b := 1) (by decide)
    have hbi := bits i (Nat.le_of_lt hi)
    have hg : Int.gcd ((lcmQ 1 (qs.take i) : Nat) : Int) ((r.den : Nat) : Int) ≤ r.den := by
      rw [Int.gcd_natCast_natCast]
      exact Nat.gcd_le_right _ r.den_pos
    have hg0 : 0 < Int.gcd ((lcmQ 1 (qs.take i) : Nat) : Int) ((r.den : Nat) : Int) := by
      rw [Int.gcd_natCast_natCast]
      exact Nat.gcd_pos_of_pos_right _ r.den_pos
    have hden := br.2
    refine ⟨watch_same hx, _, rfl, _, rfl, _, _, rfl, rfl, mulOk (a := 1 + n * i) (b := n) (by simpa using hb) (by simpa using hden) (by omega) n0 (by omega), _, rfl, _, rfl, _, _, rfl, rfl, use_divisor (by omega) (by have := r.den_pos; omega) ?_⟩
    refine ⟨cfd_of (b := n) (by omega) (by simpa using Nat.lt_of_le_of_lt hg hden) n0 (by omega), ?_⟩
    refine hK _ _ ⟨rfl, some (dQ r), o4, ?_⟩
    show [_, _, some (D.int ((((lcmQ 1 (qs.take i) : Nat) : Int) * ((r.den : Nat) : Int)).fdiv _)), _, _] = _
    rw [lcm_fdiv r.den_pos, List.take_add_one, hr]
    unfold lcmQ
    rw [List.foldl_append]
    rfl
  · rintro env S' ⟨rfl, o3, o4, rfl⟩
    rw [rowD_len, List.take_length]
    have hb := lcmQ_lt (qs := qs) (n := n) (b := 1) (m := 1) (by decide) (by decide) hq
    have h0 := lcmQ_pos (qs := qs) (b := 1) (by decide)
    refine ⟨watch_same hx, _, rfl, walkD_of hx ⟨row_line' hl1, ?_⟩⟩
    refine lc_mapA dQ D.int (fun q : Rat => q.num * ((lcmQ 1 qs / q.den : Nat) : Int)) qs (watch_same hx) (fun r K hr k => ?_) ?_
    · have br := hq r hr
      have hd := lcmQ_dvd (b := 1) hr
      have hdiv : lcmQ 1 qs / r.den ≤ lcmQ 1 qs := Nat.div_le_self _ _
      have e : (((lcmQ 1 qs : Nat) : Int)).fdiv ((r.den : Nat) : Int) = ((lcmQ 1 qs / r.den : Nat) : Int) := by
        rw [Int.fdiv_eq_ediv_of_nonneg _ (by omega), ← Int.natCast_ediv]
      refine ⟨_, rfl, _, _, rfl, rfl, _, rfl, _, rfl, _, _, rfl, rfl, cfd_of (b := n) (by have := r.den_pos; omega) (by simpa using br.2) n0 (by omega), ?_⟩
      show oMul (D.int r.num) (.int ((((lcmQ 1 qs : Nat) : Int)).fdiv ((r.den : Nat) : Int))) _ K
      rw [e]
      exact ⟨mulOk (a := n) (b := 1 + n * qs.length) br.1 (by rw [Int.natAbs_natCast]; exact Nat.lt_of_le_of_lt hdiv hb) n0 (by omega) (by omega), k⟩
    refine ⟨_, rfl, _, rfl, ?_, ?_⟩
    · rw [List.length_map]; exact Nat.le_trans hl2 (by decide)
    refine lc_mapA D.int D.int (((lcmQ 1 qs : Nat) : Int) * ·) ms trivial (fun z K hz k => ⟨_, rfl, _, rfl, mulOk (a := 1 + n * qs.length) (b := 1) (by simpa using hb) (by have := hm z hz; omega) (by omega) (by decide) (by omega), k⟩) ?_
    refine ⟨_, _, rfl, rfl, ?_, ?_⟩
    · rw [List.length_map, List.length_map, List.length_map, List.length_map]; exact Nat.le_trans (show _ ≤ 2000 by omega) (by decide)
    · rw [← List.map_append]
      exact q

end ND
set_option Elab.async false
set_option linter.all false
set_option maxRecDepth 100000
namespace ND
open PySem PySem.Spec PyProof.Rows L2
/-! ### S2: Sheet -/
abbrev Sys := List (List Rat × Rat)
def sysRow (sys : Sys) (i : Nat) : List Rat := match sys[i]? with
  | some p => p.1 ++ [p.2]
  | none => []
def wholeRow (sys : Sys) (i : Nat) : List Int := wholeQ (sysRow sys i) ++ ((List.range sys.length).map fun k => if i = k then (1 : Int) else 0).map (((lcmQ 1 (sysRow sys i) : Nat) : Int) * ·)
def SA (sys : Sys) (i c : Nat) : Int := (wholeRow sys i).getD c 0
def rowL (W : Nat) (f : Nat → Int) : D := .lst (((List.range W).map f).map D.int)
def leadF (A : Nat → Nat → Int) (P L : List Nat) (j c : Nat) : Int := (lx A P L c).getD j 0
def rowsE (A : Nat → Nat → Int) (s : Est) (W : Nat) : List D := ((List.range s.L.length).reverse.map fun j => rowL W (leadF A s.P s.L j)) ++ s.Z.map fun i => rowL W (nx A s.P s.L i)
theorem nx_nil (A : Nat → Nat → Int) (i c : Nat) : nx A [] [] i c = A i c := by
  show A i c * 1 - 0 = A i c
  omega
theorem range_getD : ∀ (l : List Int), (List.range l.length).map (fun c => l.getD c 0) = l := fun l => by
  apply List.ext_getElem?
  intro i
  rw [List.getElem?_map]
  by_cases h : i < l.length
  · rw [List.getElem?_range h, List.getElem?_eq_getElem h]
    simp [List.getD, h]
  · rw [List.getElem?_eq_none (by simpa using h), List.getElem?_eq_none (by omega)]
    rfl
theorem rowL_whole {sys : Sys} {i W : Nat} (h : (wholeRow sys i).length = W) : rowL W (SA sys i) = .lst ((wholeRow sys i).map D.int) := by
  subst h
  unfold rowL SA
  rw [range_getD]
/-- a system as data -/
def SysAt (S : Store) (ds : List D) (sys : Sys) : Prop := ds.length = sys.length ∧ ∀ (i : Nat) d p, ds[i]? = some d → sys[i]? = some p → ∃ x, d = .tup [x, dQ p.2] ∧ SC S x (rowD p.1)
theorem SC.sub {S S' : Store} {x : D} {l : List D} (h : SC S x l) (s : Sub S S') : SC S' x l := by
  cases x with
  | ref a => exact s _ _ h
  | _ => exact h
structure SysOk (sys : Sys) (many n : Nat) : Prop where
  wid : ∀ p ∈ sys, p.1.length = many
  ent : ∀ p ∈ sys, (∀ q ∈ p.1, bq n q) ∧ bq n p.2
  n0 : 0 < n
  sz : n * (many + 1) + n ≤ 290000
  mw : many ≤ 100
  ln : sys.length ≤ 100
structure SysW (sys : Sys) (many : Nat) : Prop where
  wid : ∀ p ∈ sys, p.1.length = many
theorem SysOk.w {sys : Sys} {many n : Nat} (h : SysOk sys many n) : SysW sys many := ⟨h.wid⟩
instance {sys : Sys} {many n : Nat} : CoeOut (SysOk sys many n) (SysW sys many) := ⟨fun h => h.w⟩
theorem wholeRow_len {sys : Sys} {many n i : Nat} (h : SysOk sys many n) (hi : i < sys.length) : (wholeRow sys i).length = many + 1 + sys.length := by
  unfold wholeRow wholeQ sysRow
  rw [List.getElem?_eq_getElem hi]
  have := h.wid _ (List.getElem_mem hi)
  simp [this]
  omega
/-- a sheet in the store: over S0, behind the elimination's course s -/
def ShAt (C a : Addr) (many W : Nat) (A : Nat → Nat → Int) (s : Est) (S0 S : Store) : Prop := ∃ l r : Addr, S a = some (.ins C [("many", .int many), ("head", .int (hd A s.P s.L)), ("leaders", .ref l), ("rows", .ref r)]) ∧
  S l = some (.lst (s.L.reverse.map fun c => D.int (c : Nat))) ∧ S r = some (.lst (rowsE A s W)) ∧ l ≠ a ∧ r ≠ a ∧ l ≠ r ∧ S0 a = none ∧ S0 l = none ∧ S0 r = none ∧ Sub S0 S
def w_Sheet_init (cSheet : Addr) (f1 : On) : WS :=
  (wSeq (wSetF cSheet "many" (wVar 0) (wVar 2))
  (wSeq (wSetF cSheet "head" (wVar 0) (wC (.int 1)))
  (wSeq (wSetF cSheet "leaders" (wVar 0) (wLstM wNil))
  (wSeq (wSetF cSheet "rows" (wVar 0) (wLstM wNil))
  (forS (wEnumI (wCons (wVar 1) wNil)) (gT 2 (gConss (gN 3) (gConss (gT 2 (gConss (gN 4) (gConss (gN 5) gNils))) gNils))) (wSeq (wSet 6 (wLc (wRng1 (wCall oLen (wCons (wVar 1) wNil))) (gN 7) wYes (wCall oInt (wCons (w2 oEq (wVar 3) (wVar 7)) wNil)) [7]))
  (wDrop (wM oAppend (wFld cSheet "rows" (wVar 0)) (wCons (wCall f1 (wCons (w2 oAdd (wCall oList (wCons (wVar 4) wNil)) (wLst (wCons (wVar 5) wNil))) (wCons (wVar 6) wNil))) wNil)))))))))
@[irreducible] def m_Sheet_init (C : Addr) : On := fun ds S Q => ∃ (a : Addr) (sd : D) (sl : List D) (sys : Sys) (many n : Nat) (S0 : Store), ds = [.ref a, sd, .int many] ∧ S0 a = none ∧ S = sput S0 a (.ins C []) ∧ SC S0 sd sl ∧ SysAt S0 sl sys ∧ SysOk sys many n ∧
  ∀ S', ShAt C a many (many + 1 + sys.length) (SA sys) ⟨[], [], List.range sys.length⟩ S0 S' → Q .non S'
theorem in_Sheet_init {C : Addr} {ds : List D} {S : Store} {Q : D → Store → Prop} (h : (fun ds S Q => ∃ (a : Addr) (sd : D) (sl : List D) (sys : Sys) (many n : Nat) (S0 : Store), ds = [.ref a, sd, .int many] ∧ S0 a = none ∧ S = sput S0 a (.ins C []) ∧ SC S0 sd sl ∧ SysAt S0 sl sys ∧ SysOk sys many n ∧
  ∀ S', ShAt C a many (many + 1 + sys.length) (SA sys) ⟨[], [], List.range sys.length⟩ S0 S' → Q .non S' : On) ds S Q) : m_Sheet_init C ds S Q := by unfold m_Sheet_init; exact h
theorem l_Sheet_init (C : Addr) (ds : List D) (S : Store) (Q : D → Store → Prop) (h : m_Sheet_init C ds S Q) : ds.length = 3 := by unfold m_Sheet_init at h; obtain ⟨_, _, _, _, _, _, _, rfl, _⟩ := h; rfl
theorem enum_get {l : List D} {i : Nat} {x : D} (h : (enumD l)[i]? = some x) : ∃ d, l[i]? = some d ∧ x = .tup [.int i, d] := by
  unfold enumD at h
  rw [List.getElem?_map, List.getElem?_zipIdx] at h
  cases e : l[i]? with
  | none => rw [e] at h; cases h
  | some d =>
    rw [e] at h
    cases h
    exact ⟨d, rfl, by simp⟩
theorem sput_id {S : Store} {a : Addr} {c : Cell} (h : S a = some c) : sput S a c = S := by
  funext b
  unfold sput
  split
  · next e => rw [e, h]
  · rfl
theorem len_of {x : D} {l : List D} {S : Store} {Q : D → Store → Prop} (c : SC S x l) (q : Q (.int l.length) S) : oLen [x] S Q := by
  cases x with
  | str z => exact False.elim c
  | non => exact False.elim c
  | bl b => exact False.elim c
  | int b => exact False.elim c
  | _ => exact ⟨l, c, q⟩
theorem rngD_nat (n : Nat) : rngD 0 (n : Int) = (List.range n).map fun k => D.int (k : Nat) := by
  unfold rngD
  rw [Int.sub_zero, Int.toNat_natCast]
  exact List.map_congr_left fun k _ => by rw [Int.zero_add]
theorem v_Sheet_init (C : Addr) (ds : List D) (S : Store) (Q : D → Store → Prop) (h : m_Sheet_init C ds S Q) : w_Sheet_init C m_made_whole (fin Q) (dst 8 ds) S := by
  unfold m_Sheet_init at h
  obtain ⟨a, sd, sl, sys, many, n, S0, rfl, ha, rfl, hsd, hsys, ok, q⟩ := h
  have hln := ok.ln
  refine ⟨_, rfl, _, rfl, a, _, rfl, sput_same, (by show 0 < 1000; decide), ?_⟩
  dsimp only
  rw [sput_sput]
  refine ⟨_, rfl, a, _, rfl, sput_same, (by show 1 < 1000; decide), ?_⟩
  dsimp only
  rw [sput_sput]
  refine ⟨by show 0 ≤ sizeLine; decide, fun l hl => ?_⟩
  have hla : l ≠ a := fun e => by rw [e, sput_same] at hl; cases hl
  have hl0 : S0 l = none := by rwa [sput_ne hla] at hl
  refine ⟨_, rfl, a, _, rfl, by rw [sput_ne fun e => hla e.symm, sput_same], (by show 2 < 1000; decide), ?_⟩
  dsimp only
  refine ⟨by show 0 ≤ sizeLine; decide, fun r hr => ?_⟩
  have hra : r ≠ a := fun e => by rw [e, sput_same] at hr; cases hr
  have hrl : r ≠ l := fun e => by rw [e, sput_ne hla, sput_same] at hr; cases hr
  have hr0 : S0 r = none := by rwa [sput_ne hra, sput_ne hrl, sput_ne hra] at hr
  refine ⟨_, rfl, a, _, rfl, by rw [sput_ne fun e => hra e.symm, sput_same], (by show 3 < 1000; decide), ?_⟩
  dsimp only
  generalize hS3 : sput (sput (sput (sput (sput S0 a _) l (.lst [])) a _) r (.lst [])) a _ = S3
  have hA : S3 a = some (.ins C [("many", .int many), ("head", .int 1), ("leaders", .ref l), ("rows", .ref r)]) := by rw [← hS3]; exact sput_same
  have hL : S3 l = some (.lst []) := by rw [← hS3, sput_ne hla, sput_ne fun e => hrl e.symm, sput_ne hla, sput_same]
  have hR : S3 r = some (.lst []) := by rw [← hS3, sput_ne hra, sput_same]
  have hSub : Sub S0 S3 := by
    rw [← hS3]
    exact ((((((Sub.refl S0).put ha).put hl0).put ha).put hr0).put ha)
  have hrow : ∀ i, i < sys.length → rowL (many + 1 + sys.length) (SA sys i) = .lst ((wholeRow sys i).map D.int) := fun i hi => rowL_whole (wholeRow_len ok hi)
  have hsd3 := hsd.sub hSub
  refine ⟨_, rfl, sl, hsd3, ?_⟩
  refine for_inv (fun i env S' => S' = sput S3 r (.lst ((List.range i).map fun k => rowL (many + 1 + sys.length) (SA sys k))) ∧ ∃ o3 o4 o5 o6 o7, env = [some (.ref a), some sd, some (.int many), o3, o4, o5, o6, o7]) ⟨(sput_id hR).symm, _, _, _, _, _, rfl⟩ ?_ ?_
  · rintro i x env S' K hx ⟨rfl, o3, o4, o5, o6, o7, rfl⟩ hK
    obtain ⟨d, hd, rfl⟩ := enum_get hx
    have hi : i < sl.length := (List.getElem?_eq_some_iff.mp hd).1
    have hi2 : i < sys.length := by rw [← hsys.1]; exact hi
    obtain ⟨rw', rfl, hrw⟩ := hsys.2 i d sys[i] hd (List.getElem?_eq_getElem hi2)
    have hmem := List.getElem_mem hi2
    have hw := ok.wid _ hmem
    have he := ok.ent _ hmem
    have hsub2 : ∀ c, Sub S0 (sput S3 r c) := fun c => hSub.put hr0
    refine ⟨?_, _, rfl, rfl, _, rfl, rfl, _, rfl, len_of (hsd.sub (hsub2 _)) ⟨⟨by rw [hsys.1]; omega, by rw [hsys.1]; omega⟩, ?_, ?_⟩⟩
    · cases sd with
      | ref b => exact hsub2 _ _ _ hsd
      | _ => exact trivial
    · rw [rngD_nat, List.length_map, List.length_range, hsys.1]; exact Nat.le_trans hln (by decide)
    rw [rngD_nat, hsys.1]
    refine lc_mapA (fun k : Nat => D.int (k : Nat)) D.int (fun k => if i = k then (1 : Int) else 0) (List.range sys.length) trivial (fun k K' hk k' => ⟨_, rfl, _, rfl, ?_⟩) ?_
    · show K' (.int (if decide ((i : Int) = (k : Int)) = true then 1 else 0)) _
      have e : (if decide ((i : Int) = (k : Int)) = true then (1 : Int) else 0) = if i = k then (1 : Int) else 0 := by
        by_cases h : i = k
        · subst h; simp
        · have : ¬ (i : Int) = (k : Int) := by omega
          simp [h, this]
      rw [e]
      exact k'
    have hcell : ∀ c, sput S3 r c r = some c := fun c => sput_same
    have hA' : ∀ c, sput S3 r c a = some (.ins C [("many", .int many), ("head", .int 1), ("leaders", .ref l), ("rows", .ref r)]) := fun c => by rw [sput_ne fun e => hra e.symm]; exact hA
    have hlen : sys[i].1.length + 1 ≤ 101 := by have := ok.mw; omega
    refine ⟨_, rfl, a, _, _, rfl, hA' _, rfl, ⟨_, hcell _⟩, _, rfl, _, hrw.sub (hsub2 _), _, rfl, by show 1 ≤ sizeLine; decide, _, _, rfl, rfl, ?_, _, rfl, ?_⟩
    · rw [rowD_len]; exact Nat.le_trans hlen (by decide)
    refine use_made_whole (n := n) (qs := sys[i].1 ++ [sys[i].2]) (show rowD sys[i].1 ++ [dQ sys[i].2] = _ by unfold rowD; rw [List.map_append]; rfl) (fun q hq => ?_) (fun z hz => ?_) ok.n0 ?_ ?_ ?_ ?_
    · rcases List.mem_append.mp hq with h | h
      · exact he.1 q h
      · rw [List.mem_singleton.mp h]; exact he.2
    · obtain ⟨k, _, rfl⟩ := List.mem_map.mp hz
      split <;> decide
    · rw [List.length_append, hw]; exact ok.sz
    · rw [List.length_append]; exact Nat.le_trans hlen (by decide)
    · rw [List.length_map, List.length_range]; omega
    refine ⟨_, _, hcell _, rfl, ?_, fun a' ha' => ?_⟩
    · rw [List.length_map, List.length_range]; exact Nat.lt_of_lt_of_le (show i < 101 by omega) (by decide)
    cases ha'
    refine hK _ _ ⟨?_, _, _, _, _, _, rfl⟩
    have st : (List.range (i + 1)).map (fun k => rowL (many + 1 + sys.length) (SA sys k)) = (List.range i).map (fun k => rowL (many + 1 + sys.length) (SA sys k)) ++ [rowL (many + 1 + sys.length) (SA sys i)] := by rw [List.range_succ, List.map_append]; rfl
    rw [sput_sput, st, hrow i hi2]
    have e : sysRow sys i = sys[i].1 ++ [sys[i].2] := by unfold sysRow; rw [List.getElem?_eq_getElem hi2]
    unfold wholeRow
    rw [e]
  · rintro env S' ⟨rfl, o3, o4, o5, o6, o7, rfl⟩
    have hlen : (enumD sl).length = sys.length := by unfold enumD; rw [List.length_map, List.length_zipIdx, hsys.1]
    rw [hlen]
    refine ⟨?_, _, .refl _, q _ ⟨l, r, by rw [sput_ne fun e => hra e.symm]; exact hA, by rw [sput_ne fun e => hrl e.symm]; exact hL, ?_, hla, hra, fun e => hrl e.symm, ha, hl0, hr0, hSub.put hr0⟩⟩
    · cases sd with
      | ref b => exact (hSub.put hr0) _ _ hsd
      | _ => exact trivial
    · rw [sput_same]
      unfold rowsE
      have e : (List.range sys.length).map (fun i => rowL (many + 1 + sys.length) (nx (SA sys) [] [] i)) = (List.range sys.length).map (fun k => rowL (many + 1 + sys.length) (SA sys k)) :=
        List.map_congr_left fun i _ => by rw [show nx (SA sys) [] [] i = SA sys i from funext fun c => nx_nil _ i c]
      show some (Cell.lst _) = some (Cell.lst ([] ++ _))
      rw [List.nil_append, e]

end ND
set_option Elab.async false
set_option linter.all false
set_option maxRecDepth 100000
namespace ND
open PySem PySem.Spec PyProof.Rows L2
theorem zip_rows_ints (W : Nat) (f g : Nat → Int) : zipD (((List.range W).map f).map D.int) (((List.range W).map g).map D.int) = (List.range W).map fun k => D.tup [.int (f k), .int (g k)] := by
  unfold zipD
  apply List.ext_getElem?
  intro i
  rw [List.getElem?_zipWith]
  simp only [List.getElem?_map]
  cases (List.range W)[i]? <;> rfl
theorem rowL_at {W : Nat} {f : Nat → Int} {q : Nat} (h : q < W) : atI (((List.range W).map f).map D.int) ((q : Nat) : Int) = some (.int (f q)) := atI_nat (by simp [h])
theorem rowL_congr {W : Nat} {f g : Nat → Int} (h : ∀ c, c < W → f c = g c) : rowL W f = rowL W g := by
  unfold rowL
  rw [List.map_congr_left fun c hc => h c (List.mem_range.mp hc)]
theorem exact_fdiv {x h e : Int} (h0 : h ≠ 0) (hx : x = h * e) : x.fdiv h = e := by
  subst hx
  exact Int.mul_fdiv_cancel_left _ h0
def w_Sheet_taken_off (cSheet : Addr) : WS :=
  (wRet (wLc (wZipI (wCons (wVar 1) (wCons (wVar 2) wNil))) (gT 2 (gConss (gN 5) (gConss (gN 6) gNils))) wYes (w2 oFdiv (w2 oSub (w2 oMul (wVar 4) (wVar 5)) (w2 oMul (wVar 3) (wVar 6))) (wFld cSheet "head" (wVar 0))) [5, 6]))
@[irreducible] def m_Sheet_taken_off (C : Addr) : On := fun ds S Q => ∃ (a : Addr) (fs : List (Str × D)) (W : Nat) (f g e : Nat → Int) (m h hd : Int) (b : Nat), ds = [.ref a, rowL W f, rowL W g, .int m, .int h] ∧ S a = some (.ins C fs) ∧ fs.lookup ("head" : Str) = some (D.int hd) ∧ hd ≠ 0 ∧ hd.natAbs.log2 < 300000 ∧ 0 < b ∧ b ≤ 300000 ∧ W ≤ 10000 ∧
  m.natAbs < 2 ^ b ∧ h.natAbs < 2 ^ b ∧ (∀ c, c < W → (f c).natAbs < 2 ^ b ∧ (g c).natAbs < 2 ^ b ∧ h * f c - m * g c = hd * e c) ∧ Q (rowL W e) S
theorem in_Sheet_taken_off {C : Addr} {ds : List D} {S : Store} {Q : D → Store → Prop} (h : (fun ds S Q => ∃ (a : Addr) (fs : List (Str × D)) (W : Nat) (f g e : Nat → Int) (m h hd : Int) (b : Nat), ds = [.ref a, rowL W f, rowL W g, .int m, .int h] ∧ S a = some (.ins C fs) ∧ fs.lookup ("head" : Str) = some (D.int hd) ∧ hd ≠ 0 ∧ hd.natAbs.log2 < 300000 ∧ 0 < b ∧ b ≤ 300000 ∧ W ≤ 10000 ∧
  m.natAbs < 2 ^ b ∧ h.natAbs < 2 ^ b ∧ (∀ c, c < W → (f c).natAbs < 2 ^ b ∧ (g c).natAbs < 2 ^ b ∧ h * f c - m * g c = hd * e c) ∧ Q (rowL W e) S : On) ds S Q) : m_Sheet_taken_off C ds S Q := by unfold m_Sheet_taken_off; exact h
theorem l_Sheet_taken_off (C : Addr) (ds : List D) (S : Store) (Q : D → Store → Prop) (h : m_Sheet_taken_off C ds S Q) : ds.length = 5 := by unfold m_Sheet_taken_off at h; obtain ⟨_, _, _, _, _, _, _, _, _, _, rfl, _⟩ := h; rfl
theorem v_Sheet_taken_off (C : Addr) (ds : List D) (S : Store) (Q : D → Store → Prop) (h : m_Sheet_taken_off C ds S Q) : w_Sheet_taken_off C (fin Q) (dst 7 ds) S := by
  unfold m_Sheet_taken_off at h
  obtain ⟨a, fs, W, f, g, e, m, h, hd, b, rfl, ha, hf, h0, h9, b0, b9, hW, hm, hh, hall, q⟩ := h
  refine ⟨_, rfl, _, rfl, _, _, rfl, rfl, ?_, ?_⟩
  · rw [zip_rows_ints, List.length_map, List.length_range]; exact Nat.le_trans hW (by decide)
  rw [zip_rows_ints]
  refine lc_mapA (fun k => D.tup [.int (f k), .int (g k)]) D.int e (List.range W) ⟨trivial, trivial⟩ (fun k K hk k' => ?_) q
  obtain ⟨h1, h2, h3⟩ := hall k (List.mem_range.mp hk)
  refine ⟨_, rfl, rfl, _, rfl, _, rfl, mulOk hh h1 b0 b0 (by omega), _, rfl, _, rfl, mulOk hm h2 b0 b0 (by omega), _, rfl, a, fs, _, rfl, ha, hf, h0, ?_⟩
  show K (.int ((h * f k - m * g k).fdiv hd)) _
  rw [exact_fdiv h0 h3]
  exact k'
/-- sizes -/
structure Sz (A : Nat → Nat → Int) (n W many M B : Nat) : Prop where
  ent : ∀ i, i < n → ∀ c, c < W → (A i c).natAbs ≤ M
  m1 : 1 ≤ M
  mw : many < W
  pow : ((many + 1) * M) ^ (many + 1) < 2 ^ B
  b0 : 0 < B
  b9 : B ≤ 299999
  w9 : W ≤ 10000
  n9 : n ≤ 1000
theorem Sz.up {A : Nat → Nat → Int} {n W many M B : Nat} (z : Sz A n W many M B) {x k : Nat} (h : x ≤ ((many + 1) * M) ^ k) (hk : k ≤ many + 1) : x < 2 ^ B :=
  Nat.lt_of_le_of_lt h (Nat.lt_of_le_of_lt (Nat.pow_le_pow_right (Nat.mul_pos (by omega) z.m1) hk) z.pow)
theorem EOk.bn {A : Nat → Nat → Int} {n k W many M B : Nat} {s : Est} (h : EOk A n k s) (z : Sz A n W many M B) (hk : k ≤ many) {i c : Nat} (hi : i < n) (hc : c < W) : (nx A s.P s.L i c).natAbs < 2 ^ B := by
  have hf := h.few
  have hw := z.mw
  by_cases hm : s.P.length < many + 1
  · refine z.up (nx_bound (n := many + 1) h.len hm fun j hj d hd => z.ent j ?_ d ?_) (by omega)
    · rcases List.mem_cons.mp hj with rfl | hj
      · exact hi
      · exact h.pn j hj
    · rcases List.mem_cons.mp hd with rfl | hd
      · exact hc
      · have := h.lk d hd; omega
  · omega
theorem EOk.bh {A : Nat → Nat → Int} {n k W many M B : Nat} {s : Est} (h : EOk A n k s) (z : Sz A n W many M B) (hk : k ≤ many) : (hd A s.P s.L).natAbs < 2 ^ B := by
  have hf := h.few
  have hw := z.mw
  exact z.up (hd_bound (n := many + 1) h.len (by omega) fun j hj d hd => z.ent j (h.pn j hj) d (by have := h.lk d hd; omega)) (by omega)
theorem EOk.bl {A : Nat → Nat → Int} {n k W many M B : Nat} {s : Est} (h : EOk A n k s) (z : Sz A n W many M B) (hk : k ≤ many) {j c : Nat} (hc : c < W) : (leadF A s.P s.L j c).natAbs < 2 ^ B := by
  have hf := h.few
  have hw := z.mw
  unfold leadF
  rw [List.getD_eq_getElem?_getD]
  cases e : (lx A s.P s.L c)[j]? with
  | none => exact Nat.two_pow_pos B
  | some x =>
    refine z.up (lx_bound (n := many + 1) h.len (by omega) (fun i hi d hd => z.ent i (h.pn i hi) d ?_) x (List.mem_of_getElem? e)) (by omega)
    rcases List.mem_cons.mp hd with rfl | hd
    · exact hc
    · have := h.lk d hd; omega
/-- the leading rows behind a step, one by one -/
theorem lead_one {A : Nat → Nat → Int} {P L : List Nat} {p q : Nat} (h : nx A P L p q ≠ 0) {j : Nat} (hj : j < L.length) (c : Nat) :
    nx A P L p q * leadF A P L j c - leadF A P L j q * nx A P L p c = hd A P L * leadF A (p :: P) (q :: L) (j + 1) c := by
  have st := congrArg (fun l => l[j]?) (lead_step h c)
  simp only [List.getElem?_map, List.getElem?_zipWith] at st
  unfold leadF
  rw [lx_cons]
  simp only [List.getD_eq_getElem?_getD, List.getElem?_cons_succ]
  have h1 : j < (lx A P L c).length := by rw [lx_len]; exact hj
  have h2 : j < (lx A P L q).length := by rw [lx_len]; exact hj
  have h3 : j < (lt' A P L p q c).length := by rw [lt_len]; exact hj
  rw [List.getElem?_eq_getElem h1, List.getElem?_eq_getElem h2, List.getElem?_eq_getElem h3] at st ⊢
  simp only [Option.map_some, Option.some.injEq] at st
  simp only [Option.getD_some]
  exact st.symm
theorem lead_new {A : Nat → Nat → Int} {P L : List Nat} {p q : Nat} (c : Nat) : leadF A (p :: P) (q :: L) 0 c = nx A P L p c := rfl
theorem range_rev (r : Nat) : (List.range (r + 1)).reverse = (List.range r).reverse.map (· + 1) ++ [0] := by
  rw [List.range_succ_eq_map, List.reverse_cons, List.map_reverse]

end ND
set_option Elab.async false
set_option linter.all false
set_option maxRecDepth 100000
namespace ND
open PySem PySem.Spec PyProof.Rows L2
theorem erase_at : ∀ {Z : List Nat} {t : Nat} (ht : t < Z.length), Z.Nodup → Z.erase Z[t] = Z.eraseIdx t
  | z :: Z, 0, _, _ => by simp
  | z :: Z, t + 1, ht, hn => by
    rw [List.nodup_cons] at hn
    have ht' : t < Z.length := by simpa using ht
    have hne : z ≠ Z[t] := fun e => hn.1 (by rw [e]; exact List.getElem_mem ht')
    rw [List.getElem_cons_succ, List.eraseIdx_cons_succ, ← erase_at ht' hn.2, List.erase_cons_tail (by simpa using hne)]
def hits (A : Nat → Nat → Int) (s : Est) (q j : Nat) : List Nat := (List.range j).filter fun t => decide (nx A s.P s.L (s.Z.getD t 0) q ≠ 0)
theorem map_erase {α β : Type} (f : α → β) : ∀ (l : List α) (t : Nat), (l.map f).eraseIdx t = (l.eraseIdx t).map f
  | [], t => by simp
  | a :: l, 0 => rfl
  | a :: l, t + 1 => by
    show f a :: (l.map f).eraseIdx t = f a :: (l.eraseIdx t).map f
    rw [map_erase f l t]
theorem hits_nil {A : Nat → Nat → Int} {s : Est} {q : Nat} (h : hits A s q s.Z.length = []) : pickE A s q = none := by
  refine List.find?_eq_none.mpr fun i hi => ?_
  obtain ⟨t, ht, rfl⟩ := List.getElem_of_mem hi
  have := List.filter_eq_nil_iff.mp h t (List.mem_range.mpr ht)
  simpa [List.getD, ht] using this
theorem hits_cons {A : Nat → Nat → Int} {s : Est} {q t : Nat} {r : List Nat} (h : hits A s q s.Z.length = t :: r) : ∃ ht : t < s.Z.length, pickE A s q = some s.Z[t] := by
  have h1 : (hits A s q s.Z.length).head? = some t := by rw [h]; rfl
  unfold hits at h1
  rw [List.head?_filter, List.find?_range_eq_some] at h1
  obtain ⟨h2, h3, h4⟩ := h1
  have ht : t < s.Z.length := List.mem_range.mp h3
  refine ⟨ht, List.find?_eq_some_iff_getElem.mpr ⟨?_, t, ht, rfl, fun j hj => ?_⟩⟩
  · simpa [List.getD, ht] using h2
  · have := h4 j hj
    simpa [List.getD, show j < s.Z.length by omega] using this
theorem rowsE_len {A : Nat → Nat → Int} {s : Est} {W : Nat} : (rowsE A s W).length = s.L.length + s.Z.length := by unfold rowsE; simp
theorem rowsE_rest {A : Nat → Nat → Int} {s : Est} {W t : Nat} (ht : t < s.Z.length) : (rowsE A s W)[s.L.length + t]? = some (rowL W (nx A s.P s.L s.Z[t])) := by
  unfold rowsE
  rw [List.getElem?_append_right (by simp)]
  simp [ht]
theorem rowsE_cut {A : Nat → Nat → Int} {s : Est} {W t : Nat} (ht : t < s.Z.length) : (rowsE A s W).eraseIdx (s.L.length + t) = ((List.range s.L.length).reverse.map fun j => rowL W (leadF A s.P s.L j)) ++ (s.Z.eraseIdx t).map fun i => rowL W (nx A s.P s.L i) := by
  unfold rowsE
  rw [List.eraseIdx_append_of_length_le (by simp)]
  congr 1
  rw [map_erase]
  simp
def w_Sheet_lead (cSheet : Addr) (f1 : On) : WS :=
  (wSeq (wSet 2 (wCall oLen (wCons (wFld cSheet "leaders" (wVar 0)) wNil)))
  (wSeq (wSet 3 (wLc (wRng2 (wVar 2) (wCall oLen (wCons (wFld cSheet "rows" (wVar 0)) wNil))) (gN 6) (wTst (w2 oNe (w2 oIx (w2 oIx (wFld cSheet "rows" (wVar 0)) (wVar 6)) (wVar 1)) (wC (.int 0)))) (wVar 6) [6]))
  (wIfS (wTst (w2 oNe (wVar 3) (wLst wNil))) (wSeq (wSet 4 (wM oPopAt (wFld cSheet "rows" (wVar 0)) (wCons (w2 oIx (wVar 3) (wC (.int 0))) wNil)))
  (wSeq (wSet 5 (w2 oIx (wVar 4) (wVar 1)))
  (wSeq (wSetF cSheet "rows" (wVar 0) (wLcM (wSeqI (wFld cSheet "rows" (wVar 0))) (gN 7) wYes (wMeth cSheet "taken_off" f1 (wVar 0) (wCons (wVar 7) (wCons (wVar 4) (wCons (w2 oIx (wVar 7) (wVar 1)) (wCons (wVar 5) wNil))))) [7]))
  (wSeq (wDrop (wM oInsert (wFld cSheet "rows" (wVar 0)) (wCons (wVar 2) (wCons (wVar 4) wNil))))
  (wSeq (wDrop (wM oAppend (wFld cSheet "leaders" (wVar 0)) (wCons (wVar 1) wNil)))
  (wSetF cSheet "head" (wVar 0) (wVar 5))))))) wNext)))
@[irreducible] def m_Sheet_lead (C : Addr) : On := fun ds S Q => ∃ (a : Addr) (q many W n M B : Nat) (A : Nat → Nat → Int) (s : Est) (S0 : Store), ds = [.ref a, .int q] ∧ ShAt C a many W A s S0 S ∧ EOk A n q s ∧ q < many ∧ Sz A n W many M B ∧ ∀ S', ShAt C a many W A (stepE A s q) S0 S' → Q .non S'
theorem in_Sheet_lead {C : Addr} {ds : List D} {S : Store} {Q : D → Store → Prop} (h : (fun ds S Q => ∃ (a : Addr) (q many W n M B : Nat) (A : Nat → Nat → Int) (s : Est) (S0 : Store), ds = [.ref a, .int q] ∧ ShAt C a many W A s S0 S ∧ EOk A n q s ∧ q < many ∧ Sz A n W many M B ∧ ∀ S', ShAt C a many W A (stepE A s q) S0 S' → Q .non S' : On) ds S Q) : m_Sheet_lead C ds S Q := by unfold m_Sheet_lead; exact h
theorem l_Sheet_lead (C : Addr) (ds : List D) (S : Store) (Q : D → Store → Prop) (h : m_Sheet_lead C ds S Q) : ds.length = 2 := by unfold m_Sheet_lead at h; obtain ⟨_, _, _, _, _, _, _, _, _, _, rfl, _⟩ := h; rfl
theorem v_Sheet_lead (C : Addr) (ds : List D) (S : Store) (Q : D → Store → Prop) (h : m_Sheet_lead C ds S Q) : w_Sheet_lead C (m_Sheet_taken_off C) (fin Q) (dst 8 ds) S := by
  unfold m_Sheet_lead at h
  obtain ⟨a, q, many, W, n, M, B, A, s, S0, rfl, ⟨l, r, hA, hL, hR, hla, hra, hlr, ha0, hl0, hr0, hsub⟩, ok, hq, z, qd⟩ := h
  have hqW : q < W := by have := z.mw; omega
  have hn9 := z.n9
  have hsum := ok.sum
  have hlen := ok.len
  have hLr : (s.L.reverse.map fun c => D.int (c : Nat)).length = s.L.length := by simp
  have small : ∀ x : Nat, x ≤ 1000 → Small62 (x : Int) := fun x hx => ⟨by omega, by omega⟩
  refine ⟨_, rfl, a, _, _, rfl, hA, rfl, _, hL, ?_⟩
  rw [hLr]
  refine ⟨_, rfl, _, rfl, a, _, _, rfl, hA, rfl, _, hR, ?_⟩
  rw [rowsE_len]
  refine ⟨small _ (by omega), small _ (by omega), ?_, ?_⟩
  · unfold rngD
    rw [List.length_map, List.length_range]
    exact Nat.le_trans (show _ ≤ 1000 by omega) (by decide)
  have hrl : (rngD (s.L.length : Int) ((s.L.length + s.Z.length : Nat) : Int)).length = s.Z.length := by rw [rngD_len]; omega
  refine lc_inv (fun j acc S' => S' = S ∧ acc = ((hits A s q j).map fun t => D.int ((s.L.length + t : Nat) : Int))) ⟨rfl, rfl⟩ ?_ ?_
  · rintro j x acc S' K1 K2 hx ⟨rfl, rfl⟩ k1 k2
    obtain ⟨rfl, hj⟩ := rngD_get hx
    have hj : j < s.Z.length := by omega
    have hat : atI (rowsE A s W) ((s.L.length : Int) + (j : Nat)) = some (rowL W (nx A s.P s.L s.Z[j])) := by
      have := atI_nat (rowsE_rest (A := A) (s := s) (W := W) hj)
      rwa [Int.natCast_add] at this
    have hstep : hits A s q (j + 1) = hits A s q j ++ [j].filter (fun t => decide (nx A s.P s.L (s.Z.getD t 0) q ≠ 0)) := by
      unfold hits
      rw [List.range_succ, List.filter_append]
    have hz : s.Z.getD j 0 = s.Z[j] := by simp [List.getD, hj]
    refine ⟨trivial, _, rfl, a, _, _, rfl, hA, rfl, _, rfl, _, _, hR, hat, _, rfl, _, _, rfl, rowL_at hqW, ?_⟩
    refine ite_nn (fun hne => ⟨_, rfl, k1 _ _ ⟨rfl, ?_⟩⟩) fun he => k2 _ ⟨rfl, ?_⟩
    · rw [hstep, List.filter_cons_of_pos (by show decide (nx A s.P s.L (s.Z.getD j 0) q ≠ 0) = true; rw [hz]; exact decide_eq_true hne), List.map_append]
      rfl
    · rw [hstep, List.filter_cons_of_neg (by show ¬ decide (nx A s.P s.L (s.Z.getD j 0) q ≠ 0) = true; rw [hz, he]; decide), List.map_append]
      simp
  rintro acc S' ⟨rfl, rfl⟩
  rw [hrl]
  refine ⟨trivial, _, rfl, by show 0 ≤ sizeLine; decide, ?_⟩
  have hpl : ∀ ts : List Nat, pureDs (ts.map fun t => D.int ((s.L.length + t : Nat) : Int)) = true ∧ deepDs (ts.map fun t => D.int ((s.L.length + t : Nat) : Int)) = 0 := fun ts => by
    induction ts with
    | nil => exact ⟨rfl, rfl⟩
    | cons t ts ih => exact ⟨by show (true && _) = true; rw [ih.1]; rfl, by show max 0 _ = 0; rw [ih.2]; rfl⟩
  refine eq_pure (x := .lst _) (y := .lst []) (hpl _).1 rfl (by show deepDs _ + 1 ≤ 64; rw [(hpl _).2]; decide) (by decide) fun b hb => ?_
  cases hh : hits A s q s.Z.length with
  | nil =>
    rw [hh] at hb
    have : b = true := hb.mpr rfl
    subst this
    have e : stepE A s q = s := by unfold stepE; rw [hits_nil hh]
    exact ⟨_, .refl _, qd _ (by rw [e]; exact ⟨l, r, hA, hL, hR, hla, hra, hlr, ha0, hl0, hr0, hsub⟩)⟩
  | cons t rest =>
    rw [hh] at hb
    have : b = false := by
      cases b with
      | true => have := hb.mp rfl; injection this with this; cases this
      | false => rfl
    subst this
    obtain ⟨ht, hp⟩ := hits_cons hh
    have hpk := pick_some hp
    have hp0 := hpk.2
    have hpn := ok.zn _ hpk.1
    have er := erase_at ht ok.znd
    have est : stepE A s q = ⟨s.Z[t] :: s.P, q :: s.L, s.Z.erase s.Z[t]⟩ := by unfold stepE; rw [hp]
    have hqn : q ≤ many := by omega
    have hb0 := z.b0
    have hb9 := z.b9
    -- the chosen row leaves
    have hk : s.L.length + t < (rowsE A s W).length := by rw [rowsE_len]; omega
    have hfst : atI (((t :: rest).map fun t => D.int ((s.L.length + t : Nat) : Int))) 0 = some (.int ((s.L.length + t : Nat) : Int)) := atI_nat (j := 0) rfl
    refine ⟨_, rfl, a, _, _, rfl, hA, rfl, ⟨_, hR⟩, _, rfl, _, _, rfl, hfst, _, _, s.L.length + t, _, hR, rfl, ⟨by omega, by omega⟩, ?_, rowsE_rest ht, fun b hb => ?_⟩
    · unfold ixN
      rw [if_pos (by omega), if_pos (by omega)]
      rfl
    cases hb
    rw [rowsE_cut ht, ← er]
    have hA1 : ∀ c, sput S' r c a = some (.ins C [("many", .int many), ("head", .int (hd A s.P s.L)), ("leaders", .ref l), ("rows", .ref r)]) := fun c => by rw [sput_ne fun e => hra e.symm]; exact hA
    refine ⟨_, rfl, _, rfl, _, _, rfl, rowL_at hqW, ?_⟩
    have hh0 := ok.hd0
    have hhB := ok.bh z hqn
    have hlog : (hd A s.P s.L).natAbs.log2 < 300000 := Nat.lt_of_lt_of_le (PySem.Flt.log2_lt_of hb0 hhB) (by omega)
    -- the other rows, old and new
    have hit : ((List.range s.L.length).reverse.map fun j => rowL W (leadF A s.P s.L j)) ++ (s.Z.erase s.Z[t]).map (fun i => rowL W (nx A s.P s.L i)) =
        (((List.range s.L.length).reverse.map fun j => (leadF A s.P s.L j, leadF A (s.Z[t] :: s.P) (q :: s.L) (j + 1))) ++ (s.Z.erase s.Z[t]).map fun i => (nx A s.P s.L i, nx A (s.Z[t] :: s.P) (q :: s.L) i)).map fun p => rowL W p.1 := by
      rw [List.map_append, List.map_map, List.map_map]
      rfl
    have hpair : ∀ p ∈ ((List.range s.L.length).reverse.map fun j => (leadF A s.P s.L j, leadF A (s.Z[t] :: s.P) (q :: s.L) (j + 1))) ++ (s.Z.erase s.Z[t]).map (fun i => (nx A s.P s.L i, nx A (s.Z[t] :: s.P) (q :: s.L) i)),
        ∀ c, c < W → (p.1 c).natAbs < 2 ^ B ∧ nx A s.P s.L s.Z[t] q * p.1 c - p.1 q * nx A s.P s.L s.Z[t] c = hd A s.P s.L * p.2 c := by
      intro p hp c hc
      rcases List.mem_append.mp hp with h | h
      · obtain ⟨j, hj, rfl⟩ := List.mem_map.mp h
        have hj2 : j < s.L.length := by simpa using hj
        exact ⟨ok.bl z hqn hc, lead_one hp0 hj2 c⟩
      · obtain ⟨i, hi, rfl⟩ := List.mem_map.mp h
        have hiZ := List.mem_of_mem_erase hi
        exact ⟨ok.bn z hqn (ok.zn i hiZ) hc, (rest_step hp0 i c).symm⟩
    generalize hps : ((List.range s.L.length).reverse.map fun j => (leadF A s.P s.L j, leadF A (s.Z[t] :: s.P) (q :: s.L) (j + 1))) ++ (s.Z.erase s.Z[t]).map (fun i => (nx A s.P s.L i, nx A (s.Z[t] :: s.P) (q :: s.L) i)) = ps at hit hpair
    have hzl : (s.Z.erase s.Z[t]).length = s.Z.length - 1 := List.length_erase_of_mem hpk.1
    have hpsl : ps.length = s.L.length + (s.Z.length - 1) := by rw [← hps]; simp [hzl]
    rw [hit]
    refine ⟨_, rfl, a, _, _, rfl, hA1 _, rfl, walkD_of (show SC _ (.ref r) _ from sput_same) ⟨?_, ?_⟩⟩
    · rw [List.length_map, hpsl]; exact Nat.le_trans (show _ ≤ 1000 by omega) (by decide)
    refine lc_mapA (fun p : (Nat → Int) × (Nat → Int) => rowL W p.1) (rowL W) (fun p => p.2) ps sput_same (fun p K hp k => ?_) fun r2 hr2 => ?_
    · refine ⟨_, rfl, a, _, rfl, hA1 _, rfl, _, rfl, _, rfl, _, rfl, _, rfl, _, _, rfl, rowL_at hqW, _, rfl, ?_⟩
      unfold m_Sheet_taken_off
      exact ⟨a, _, W, p.1, nx A s.P s.L s.Z[t], p.2, p.1 q, _, _, B, rfl, hA1 _, rfl, hh0, hlog, hb0, by omega, z.w9, (hpair p hp q hqW).1, ok.bn z hqn hpn hqW, fun c hc => ⟨(hpair p hp c hc).1, ok.bn z hqn hpn hc, (hpair p hp c hc).2⟩, k⟩
    generalize hS1 : sput S' r (.lst (ps.map fun p => rowL W p.1)) = S1 at hr2
    have h1 : ∀ b, b ≠ r → S1 b = S' b := fun b hb => by rw [← hS1, sput_ne hb]
    have hA1' : S1 a = some (.ins C [("many", .int many), ("head", .int (hd A s.P s.L)), ("leaders", .ref l), ("rows", .ref r)]) := by rw [h1 a fun e => hra e.symm]; exact hA
    have hL1 : S1 l = some (.lst (s.L.reverse.map fun c => D.int (c : Nat))) := by rw [h1 l hlr]; exact hL
    have hsub1 : Sub S0 S1 := by rw [← hS1]; exact hsub.put hr0
    have n2a : r2 ≠ a := fun e => by rw [e, hA1'] at hr2; cases hr2
    have n2l : r2 ≠ l := fun e => by rw [e, hL1] at hr2; cases hr2
    have h20 : S0 r2 = none := hsub1.none hr2
    refine ⟨_, rfl, a, _, rfl, by rw [sput_ne fun e => n2a e.symm]; exact hA1', (by show 4 < 1000; decide), ?_⟩
    dsimp only
    generalize hnew : (ps.map fun p => p.2).map (rowL W) = nrows
    generalize hS3 : sput (sput S1 r2 (.lst nrows)) a _ = S3
    have hA3 : S3 a = some (.ins C [("many", .int many), ("head", .int (hd A s.P s.L)), ("leaders", .ref l), ("rows", .ref r2)]) := by rw [← hS3]; exact sput_same
    have hL3 : S3 l = some (.lst (s.L.reverse.map fun c => D.int (c : Nat))) := by rw [← hS3, sput_ne hla, sput_ne fun e => n2l e.symm]; exact hL1
    have hR3 : S3 r2 = some (.lst nrows) := by rw [← hS3, sput_ne n2a, sput_same]
    have hsub3 : Sub S0 S3 := by rw [← hS3]; exact (hsub1.put h20).put ha0
    have hnl : nrows.length = s.L.length + (s.Z.length - 1) := by rw [← hnew]; simp [hpsl]
    refine ⟨_, rfl, a, _, _, rfl, hA3, rfl, ⟨_, hR3⟩, _, rfl, _, rfl, _, _, _, hR3, rfl, ?_, by omega, by omega, fun b hb => ?_⟩
    · rw [hnl]; exact Nat.lt_of_lt_of_le (show _ < 2000 by omega) (by decide)
    cases hb
    generalize hins : nrows.take _ ++ [rowL W (nx A s.P s.L s.Z[t])] ++ nrows.drop _ = irows
    have hA4 : sput S3 r2 (.lst irows) a = some (.ins C [("many", .int many), ("head", .int (hd A s.P s.L)), ("leaders", .ref l), ("rows", .ref r2)]) := by rw [sput_ne fun e => n2a e.symm]; exact hA3
    have hL4 : sput S3 r2 (.lst irows) l = some (.lst (s.L.reverse.map fun c => D.int (c : Nat))) := by rw [sput_ne fun e => n2l e.symm]; exact hL3
    refine ⟨_, rfl, a, _, _, rfl, hA4, rfl, ⟨_, hL4⟩, _, rfl, _, _, hL4, rfl, ?_, fun b hb => ?_⟩
    · rw [hLr]; exact Nat.lt_of_lt_of_le (show _ < 2000 by omega) (by decide)
    cases hb
    refine ⟨_, rfl, _, rfl, a, _, rfl, by rw [sput_ne fun e => hla e.symm]; exact hA4, (by show 4 < 1000; decide), _, .refl _, qd _ ?_⟩
    rw [est]
    have hirows : irows = rowsE A ⟨s.Z[t] :: s.P, q :: s.L, s.Z.erase s.Z[t]⟩ W := by
      have e : (ps.map fun p => p.2).map (rowL W) = ((List.range s.L.length).reverse.map fun j => rowL W (leadF A (s.Z[t] :: s.P) (q :: s.L) (j + 1))) ++ (s.Z.erase s.Z[t]).map fun i => rowL W (nx A (s.Z[t] :: s.P) (q :: s.L) i) := by
        rw [← hps, List.map_append, List.map_append, List.map_map, List.map_map, List.map_map, List.map_map]
        rfl
      rw [← hins, ← hnew, e, Int.toNat_natCast, List.take_left' (by simp), List.drop_left' (by simp)]
      unfold rowsE
      show _ = ((List.range (s.L.length + 1)).reverse.map _) ++ _
      rw [range_rev, List.map_append, List.map_map]
      rfl
    refine ⟨l, r2, sput_same, ?_, ?_, hla, n2a, fun e => n2l e.symm, ha0, hl0, h20, ((hsub3.put h20).put hl0).put ha0⟩
    · rw [sput_ne hla, sput_same]
      show some (Cell.lst _) = some (Cell.lst ((q :: s.L).reverse.map _))
      rw [List.reverse_cons, List.map_append]
      rfl
    · rw [sput_ne n2a, sput_ne n2l, sput_same, hirows]

end ND
set_option Elab.async false
set_option linter.all false
set_option maxRecDepth 100000
namespace ND
open PySem PySem.Spec PyProof.Rows L2
def w_Sheet_go (cSheet : Addr) (f1 : On) : WS :=
  (forS (wRng1 (wFld cSheet "many" (wVar 0))) (gN 1) (wDrop (wMeth cSheet "lead" f1 (wVar 0) (wCons (wVar 1) wNil))))
@[irreducible] def m_Sheet_go (C : Addr) : On := fun ds S Q => ∃ (a : Addr) (many W n M B : Nat) (A : Nat → Nat → Int) (S0 : Store), ds = [.ref a] ∧ ShAt C a many W A (goE A n 0) S0 S ∧ Sz A n W many M B ∧ ∀ S', ShAt C a many W A (goE A n many) S0 S' → Q .non S'
theorem in_Sheet_go {C : Addr} {ds : List D} {S : Store} {Q : D → Store → Prop} (h : (fun ds S Q => ∃ (a : Addr) (many W n M B : Nat) (A : Nat → Nat → Int) (S0 : Store), ds = [.ref a] ∧ ShAt C a many W A (goE A n 0) S0 S ∧ Sz A n W many M B ∧ ∀ S', ShAt C a many W A (goE A n many) S0 S' → Q .non S' : On) ds S Q) : m_Sheet_go C ds S Q := by unfold m_Sheet_go; exact h
theorem l_Sheet_go (C : Addr) (ds : List D) (S : Store) (Q : D → Store → Prop) (h : m_Sheet_go C ds S Q) : ds.length = 1 := by unfold m_Sheet_go at h; obtain ⟨_, _, _, _, _, _, _, _, rfl, _⟩ := h; rfl
theorem v_Sheet_go (C : Addr) (ds : List D) (S : Store) (Q : D → Store → Prop) (h : m_Sheet_go C ds S Q) : w_Sheet_go C (m_Sheet_lead C) (fin Q) (dst 2 ds) S := by
  unfold m_Sheet_go at h
  obtain ⟨a, many, W, n, M, B, A, S0, rfl, sh, z, q⟩ := h
  have hw := z.mw
  have h9 := z.w9
  have small : Small62 (many : Int) := ⟨by omega, by omega⟩
  have hlen : (rngD 0 (many : Int)).length = many := by rw [rngD_len]; omega
  obtain ⟨l, r, hA, hrest⟩ := id sh
  refine ⟨_, rfl, a, _, _, rfl, hA, rfl, small, ?_⟩
  refine for_inv (fun i env S' => i ≤ many ∧ (∃ o1, env = [some (.ref a), o1]) ∧ ShAt C a many W A (goE A n i) S0 S') ⟨Nat.zero_le _, ⟨_, rfl⟩, sh⟩ ?_ ?_
  · rintro i x env S' K hx ⟨hi, ⟨o1, rfl⟩, sh'⟩ hK
    obtain ⟨rfl, hi2⟩ := rngD_get hx
    have hi3 : i < many := by omega
    obtain ⟨l', r', hA', hrest'⟩ := id sh'
    refine ⟨trivial, _, rfl, a, _, rfl, hA', rfl, _, rfl, ?_⟩
    unfold m_Sheet_lead
    refine ⟨a, i, many, W, n, M, B, A, goE A n i, S0, by rw [Int.zero_add], sh', eok_go A n i, hi3, z, fun S2 sh2 => hK _ _ ⟨hi3, ⟨_, rfl⟩, ?_⟩⟩
    rw [goE_succ]
    exact sh2
  · rintro env S' ⟨hi, ⟨o1, rfl⟩, sh'⟩
    rw [hlen] at sh'
    exact ⟨trivial, _, .refl _, q _ sh'⟩
def paperQ (A : Nat → Nat → Int) (s : Est) (many n i : Nat) : List Rat := (List.range n).map fun k => Rat.divInt (nx A s.P s.L i (many + 1 + k)) (nx A s.P s.L i many)
def w_Sheet_paper (cSheet : Addr) (f1 : On) : WS :=
  (wSeq (forS (wSeqI (wSl (wFld cSheet "rows" (wVar 0)) (wP (wCall oLen (wCons (wFld cSheet "leaders" (wVar 0)) wNil))) wNoP)) (gN 1) (wIfS (wTst (w2 oNe (w2 oIx (wVar 1) (wFld cSheet "many" (wVar 0))) (wC (.int 0)))) (wRet (wCall oTuple (wCons (wLc (wSeqI (wSl (wVar 1) (wP (w2 oAdd (wFld cSheet "many" (wVar 0)) (wC (.int 1)))) wNoP)) (gN 2) wYes (wCall f1 (wCons (wVar 2) (wCons (w2 oIx (wVar 1) (wFld cSheet "many" (wVar 0))) wNil))) [2]) wNil))) wNext))
  (wRet (wC .non)))
@[irreducible] def m_Sheet_paper (C : Addr) : On := fun ds S Q => ∃ (a : Addr) (many n m M B : Nat) (A : Nat → Nat → Int) (s : Est) (S0 : Store), ds = [.ref a] ∧ ShAt C a many (many + 1 + m) A s S0 S ∧ EOk A n many s ∧ Sz A n (many + 1 + m) many M B ∧
  (∀ i, pickE A s many = some i → Q (.tup (rowD (paperQ A s many m i))) S) ∧ (pickE A s many = none → Q .non S)
theorem in_Sheet_paper {C : Addr} {ds : List D} {S : Store} {Q : D → Store → Prop} (h : (fun ds S Q => ∃ (a : Addr) (many n m M B : Nat) (A : Nat → Nat → Int) (s : Est) (S0 : Store), ds = [.ref a] ∧ ShAt C a many (many + 1 + m) A s S0 S ∧ EOk A n many s ∧ Sz A n (many + 1 + m) many M B ∧
  (∀ i, pickE A s many = some i → Q (.tup (rowD (paperQ A s many m i))) S) ∧ (pickE A s many = none → Q .non S) : On) ds S Q) : m_Sheet_paper C ds S Q := by unfold m_Sheet_paper; exact h
theorem l_Sheet_paper (C : Addr) (ds : List D) (S : Store) (Q : D → Store → Prop) (h : m_Sheet_paper C ds S Q) : ds.length = 1 := by unfold m_Sheet_paper at h; obtain ⟨_, _, _, _, _, _, _, _, _, rfl, _⟩ := h; rfl
theorem cut_from {l : List D} {k : Nat} : cutD l (some (k : Int)) none = l.drop k := by
  unfold cutD
  simp [HT.sIx]
  rw [if_neg (by omega)]
  by_cases h : k ≤ l.length
  · rw [Nat.min_eq_left h, List.take_of_length_le (by simp)]
  · rw [Nat.min_eq_right (by omega), List.drop_of_length_le (show l.length ≤ k by omega)]
    simp
theorem rowL_drop {W k : Nat} {f : Nat → Int} (h : k ≤ W) : (((List.range W).map f).map D.int).drop k = (List.range (W - k)).map fun i => D.int (f (k + i)) := by
  apply List.ext_getElem?
  intro i
  rw [List.getElem?_drop, List.map_map, List.getElem?_map, List.getElem?_map]
  by_cases hi : i < W - k
  · rw [List.getElem?_range (show k + i < W by omega), List.getElem?_range hi]
    rfl
  · rw [List.getElem?_eq_none (by simp; omega), List.getElem?_eq_none (by simp; omega)]
    rfl
theorem v_Sheet_paper (C : Addr) (ds : List D) (S : Store) (Q : D → Store → Prop) (h : m_Sheet_paper C ds S Q) : w_Sheet_paper C m_fraction (fin Q) (dst 3 ds) S := by
  unfold m_Sheet_paper at h
  obtain ⟨a, many, n, m, M, B, A, s, S0, rfl, ⟨l, r, hA, hL, hR, hrest⟩, ok, z, q1, q2⟩ := h
  have h9 := z.w9
  have hb0 := z.b0
  have hb9 := z.b9
  have hLr : (s.L.reverse.map fun c => D.int (c : Nat)).length = s.L.length := by simp
  refine ⟨_, rfl, a, _, _, rfl, hA, rfl, _, rfl, a, _, _, rfl, hA, rfl, _, hL, ?_⟩
  rw [hLr]
  refine ⟨_, hR, walkD_of rfl ?_⟩
  rw [cut_from]
  have hd : (rowsE A s (many + 1 + m)).drop s.L.length = s.Z.map fun i => rowL (many + 1 + m) (nx A s.P s.L i) := by
    unfold rowsE
    rw [List.drop_left' (by simp)]
  rw [hd]
  refine for_inv (fun i env S' => S' = S ∧ (∃ o1 o2, env = [some (.ref a), o1, o2]) ∧ ∀ j, j < i → ∀ hj : j < s.Z.length, nx A s.P s.L s.Z[j] many = 0) ⟨rfl, ⟨_, _, rfl⟩, fun j hj => absurd hj (Nat.not_lt_zero _)⟩ ?_ ?_
  · rintro i x env S' K hx ⟨rfl, ⟨o1, o2, rfl⟩, hz⟩ hK
    rw [List.getElem?_map] at hx
    cases e : s.Z[i]? with
    | none => rw [e] at hx; cases hx
    | some p =>
      rw [e] at hx
      cases hx
      obtain ⟨hi, hpe⟩ := List.getElem?_eq_some_iff.mp e
      have hat : atI (((List.range (many + 1 + m)).map (nx A s.P s.L p)).map D.int) (many : Int) = some (.int (nx A s.P s.L p many)) := rowL_at (by omega)
      have hpn := ok.zn p (List.mem_of_getElem? e)
      refine ⟨trivial, _, rfl, _, rfl, a, _, _, rfl, hA, rfl, _, _, rfl, hat, ?_⟩
      refine ite_nn (fun hne => ?_) fun he => hK _ _ ⟨rfl, ⟨_, _, rfl⟩, fun j hj hj2 => ?_⟩
      · refine ⟨_, rfl, _, rfl, a, _, _, rfl, hA, rfl, ?_⟩
        have hpk : pickE A s many = some p := List.find?_eq_some_iff_getElem.mpr ⟨by simpa using hne, i, hi, hpe, fun j hj => by
          have := hz j hj (by omega)
          simp [this]⟩
        have hcut : cutD (((List.range (many + 1 + m)).map (nx A s.P s.L p)).map D.int) (some ((many : Int) + 1)) none = (List.range m).map fun k => D.int (nx A s.P s.L p (many + 1 + k)) := by
          rw [show (many : Int) + 1 = ((many + 1 : Nat) : Int) by omega, cut_from, rowL_drop (by omega), show many + 1 + m - (many + 1) = m by omega]
        refine ⟨_, rfl, walkD_of rfl ?_⟩
        rw [hcut]
        refine ⟨by rw [List.length_map, List.length_range]; exact Nat.le_trans (show m ≤ 10000 by omega) (by decide), ?_⟩
        refine lc_mapA (fun k => D.int (nx A s.P s.L p (many + 1 + k))) dQ (fun k => Rat.divInt (nx A s.P s.L p (many + 1 + k)) (nx A s.P s.L p many)) (List.range m) trivial (fun k K' hk k' => ?_) ⟨_, rfl, q1 p hpk⟩
        exact ⟨_, rfl, _, rfl, _, rfl, a, _, _, rfl, hA, rfl, _, _, rfl, hat, use_fraction hne (gok_of (n := B) hne (ok.bn z (Nat.le_refl _) hpn (by omega)) hb0 (by omega)) k'⟩
      · by_cases hji : j = i
        · subst hji; rw [hpe]; exact he
        · exact hz j (by omega) hj2
  · rintro env S' ⟨rfl, ⟨o1, o2, rfl⟩, hz⟩
    rw [List.length_map] at hz
    refine ⟨trivial, q2 ?_⟩
    refine List.find?_eq_none.mpr fun i hi => ?_
    obtain ⟨t, ht, rfl⟩ := List.getElem_of_mem hi
    have := hz t ht ht
    simp [this]
/-! ### solutions -/
def solC (A : Nat → Nat → Int) (s : Est) (col : Nat) (t : Int) (c : Nat) : Rat := if c ∈ s.L then Rat.divInt (leadF A s.P s.L (s.L.idxOf c) col * t) (hd A s.P s.L) else 0
def solQ (A : Nat → Nat → Int) (s : Est) (many col : Nat) (t : Int) : List Rat := (List.range many).map (solC A s col t)
def w_Sheet_solution (cSheet : Addr) (f1 : On) : WS :=
  (wSeq (wSet 3 (w2 oRepM (wLst (wCons (wC (.tup [(.int 0), (.int 1)])) wNil)) (wFld cSheet "many" (wVar 0))))
  (wSeq (forS (wEnumI (wCons (wFld cSheet "leaders" (wVar 0)) wNil)) (gT 2 (gConss (gN 4) (gConss (gN 5) gNils))) (wAsg (wCall f1 (wCons (w2 oMul (w2 oIx (w2 oIx (wFld cSheet "rows" (wVar 0)) (wVar 4)) (wVar 1)) (wVar 2)) (wCons (wFld cSheet "head" (wVar 0)) wNil))) (gS (wVar 3) (wVar 5) oSet)))
  (wRet (wFz (wVar 3)))))
@[irreducible] def m_Sheet_solution (C : Addr) : On := fun ds S Q => ∃ (a : Addr) (many W n M B col : Nat) (t : Int) (A : Nat → Nat → Int) (s : Est) (S0 : Store), ds = [.ref a, .int col, .int t] ∧ ShAt C a many W A s S0 S ∧ EOk A n many s ∧ Sz A n W many M B ∧ col < W ∧ (t = 1 ∨ t = -1) ∧
  ∀ p, S p = none → Q (.ref p) (sput S p (.lst (rowD (solQ A s many col t))))
theorem in_Sheet_solution {C : Addr} {ds : List D} {S : Store} {Q : D → Store → Prop} (h : (fun ds S Q => ∃ (a : Addr) (many W n M B col : Nat) (t : Int) (A : Nat → Nat → Int) (s : Est) (S0 : Store), ds = [.ref a, .int col, .int t] ∧ ShAt C a many W A s S0 S ∧ EOk A n many s ∧ Sz A n W many M B ∧ col < W ∧ (t = 1 ∨ t = -1) ∧
  ∀ p, S p = none → Q (.ref p) (sput S p (.lst (rowD (solQ A s many col t)))) : On) ds S Q) : m_Sheet_solution C ds S Q := by unfold m_Sheet_solution; exact h
theorem l_Sheet_solution (C : Addr) (ds : List D) (S : Store) (Q : D → Store → Prop) (h : m_Sheet_solution C ds S Q) : ds.length = 3 := by unfold m_Sheet_solution at h; obtain ⟨_, _, _, _, _, _, _, _, _, _, _, rfl, _⟩ := h; rfl
theorem rowsE_lead {A : Nat → Nat → Int} {s : Est} {W i : Nat} (h : i < s.L.length) : (rowsE A s W)[i]? = some (rowL W (leadF A s.P s.L (s.L.length - 1 - i))) := by
  unfold rowsE
  rw [List.getElem?_append_left (by simpa using h)]
  simp [h]
theorem idx_at {L : List Nat} (hn : L.Nodup) {j : Nat} (hj : j < L.length) : L.idxOf L[j] = j := by
  induction L generalizing j with
  | nil => simp at hj
  | cons x L ih =>
    rw [List.nodup_cons] at hn
    cases j with
    | zero => simp [List.idxOf_cons]
    | succ j =>
      have hj2 : j < L.length := by simpa using hj
      have hne : x ≠ L[j] := fun e => hn.1 (by rw [e]; exact List.getElem_mem hj2)
      rw [List.getElem_cons_succ, List.idxOf_cons, beq_false_of_ne hne, cond_false, ih hn.2 hj2]
theorem v_Sheet_solution (C : Addr) (ds : List D) (S : Store) (Q : D → Store → Prop) (h : m_Sheet_solution C ds S Q) : w_Sheet_solution C m_fraction (fin Q) (dst 6 ds) S := by
  unfold m_Sheet_solution at h
  obtain ⟨a, many, W, n, M, B, col, t, A, s, S0, rfl, ⟨l, r, hA, hL, hR, hla, hra, hlr, ha0, hl0, hr0, hsub⟩, ok, z, hcol, ht, q⟩ := h
  have h9 := z.w9
  have hw := z.mw
  have hb0 := z.b0
  have hb9 := z.b9
  have hlen := ok.len
  have hrep : (List.replicate ((many : Int)).toNat [D.tup [.int 0, .int 1]]).flatten = rowD ((List.range many).map fun c => if c ∈ (s.L.reverse.take 0) then solC A s col t c else 0) := by
    rw [Int.toNat_natCast]
    have e1 : ∀ k : Nat, (List.replicate k [D.tup [.int 0, .int 1]]).flatten = List.replicate k (dQ 0) := fun k => by
      induction k with
      | zero => rfl
      | succ k ih => rw [List.replicate_succ, List.flatten_cons, ih]; rfl
    rw [e1, rowD_replicate]
    congr 1
    apply List.ext_getElem?
    intro i
    rw [List.getElem?_map, List.getElem?_replicate]
    by_cases hi : i < many
    · rw [List.getElem?_range hi, if_pos hi]; simp
    · rw [List.getElem?_eq_none (by simpa using hi), if_neg hi]; rfl
  refine ⟨by show 1 ≤ sizeLine; decide, _, rfl, a, _, _, rfl, hA, rfl, _, rfl, by omega, by omega, ?_, fun p hp => ?_⟩
  · show 1 * ((many : Int)).toNat ≤ sizeLine
    exact Nat.le_trans (show _ ≤ 10000 by omega) (by decide)
  rw [hrep]
  have hpa : p ≠ a := fun e => by rw [e, hA] at hp; cases hp
  have hpl : p ≠ l := fun e => by rw [e, hL] at hp; cases hp
  have hpr : p ≠ r := fun e => by rw [e, hR] at hp; cases hp
  have hA' : ∀ c, sput S p c a = some (.ins C [("many", .int many), ("head", .int (hd A s.P s.L)), ("leaders", .ref l), ("rows", .ref r)]) := fun c => by rw [sput_ne fun e => hpa e.symm]; exact hA
  have hL' : ∀ c, sput S p c l = some (.lst (s.L.reverse.map fun c => D.int (c : Nat))) := fun c => by rw [sput_ne fun e => hpl e.symm]; exact hL
  have hR' : ∀ c, sput S p c r = some (.lst (rowsE A s W)) := fun c => by rw [sput_ne fun e => hpr e.symm]; exact hR
  have hLr : (s.L.reverse.map fun c => D.int (c : Nat)).length = s.L.length := by simp
  refine ⟨_, rfl, a, _, _, rfl, hA' _, rfl, _, hL' _, ?_⟩
  refine for_inv (fun i env S' => i ≤ s.L.length ∧ (∃ o4 o5, env = [some (.ref a), some (.int col), some (.int t), some (.ref p), o4, o5]) ∧ S' = sput S p (.lst (rowD ((List.range many).map fun c => if c ∈ (s.L.reverse.take i) then solC A s col t c else 0)))) ⟨Nat.zero_le _, ⟨_, _, rfl⟩, rfl⟩ ?_ ?_
  · rintro i x env S' K hx ⟨hi, ⟨o4, o5, rfl⟩, rfl⟩ hK
    obtain ⟨d, hd', rfl⟩ := enum_get hx
    rw [List.getElem?_map] at hd'
    cases e : s.L.reverse[i]? with
    | none => rw [e] at hd'; cases hd'
    | some c =>
      rw [e] at hd'
      cases hd'
      have hi2 : i < s.L.length := by have := (List.getElem?_eq_some_iff.mp e).1; simpa using this
      have hj : s.L.length - 1 - i < s.L.length := by omega
      have hce : s.L[s.L.length - 1 - i] = c := by
        have := (List.getElem?_eq_some_iff.mp e).2
        rw [List.getElem_reverse] at this
        exact this
      have hcL : c ∈ s.L := by rw [← hce]; exact List.getElem_mem hj
      have hidx : s.L.idxOf c = s.L.length - 1 - i := by rw [← hce]; exact idx_at ok.lnd hj
      have hcm : c < many := ok.lk c hcL
      have hat : atI (rowsE A s W) (i : Int) = some (rowL W (leadF A s.P s.L (s.L.length - 1 - i))) := atI_nat (rowsE_lead hi2)
      have hbl := ok.bl z (Nat.le_refl _) (j := s.L.length - 1 - i) hcol
      have hhb := ok.bh z (Nat.le_refl _)
      refine ⟨hL' _, _, rfl, rfl, _, rfl, a, _, _, rfl, hA' _, rfl, _, rfl, _, _, hR' _, hat, _, rfl, _, _, rfl, rowL_at hcol, _, rfl, mulOk (a := B) (b := 1) hbl (by omega) hb0 (by decide) (by omega), _, rfl, a, _, _, rfl, hA' _, rfl, use_fraction ok.hd0 (gok_of (n := B) ok.hd0 hhb hb0 (by omega)) ?_⟩
      refine ⟨_, rfl, _, rfl, _, c, sput_same, ?_, ?_⟩
      · unfold ixN
        rw [rowD_len, List.length_map, List.length_range, if_pos (by omega), if_pos (by omega)]
        rfl
      rw [sput_sput]
      refine hK _ _ ⟨hi2, ⟨_, _, rfl⟩, ?_⟩
      congr 2
      apply List.ext_getElem?
      intro k
      rw [List.getElem?_set]
      unfold rowD
      simp only [List.getElem?_map, List.length_map, List.length_range]
      have htk : s.L.reverse.take (i + 1) = s.L.reverse.take i ++ [c] := by rw [List.take_add_one, e]; rfl
      by_cases hk : k < many
      · rw [List.getElem?_range hk]
        by_cases hck : c = k
        · subst hck
          rw [if_pos rfl, if_pos hk]
          simp only [Option.map_some]
          rw [if_pos (by rw [htk]; simp)]
          unfold solC
          rw [if_pos hcL, hidx]
        · rw [if_neg hck]
          simp only [Option.map_some]
          have : (k ∈ s.L.reverse.take (i + 1)) ↔ k ∈ s.L.reverse.take i := by
            rw [htk, List.mem_append, List.mem_singleton]
            exact ⟨fun h => h.resolve_right fun e => hck e.symm, .inl⟩
          simp only [this]
      · rw [List.getElem?_eq_none (by simpa using hk)]
        by_cases hck : c = k
        · omega
        · rw [if_neg hck]; rfl
  · rintro env S' ⟨hi, ⟨o4, o5, rfl⟩, rfl⟩
    have hel : (enumD (s.L.reverse.map fun c => D.int (c : Nat))).length = s.L.length := by unfold enumD; simp
    rw [hel, List.take_of_length_le (by simp)]
    refine ⟨hL' _, _, rfl, _, _, .refl _, .same _, ?_⟩
    have : ((List.range many).map fun c => if c ∈ s.L.reverse then solC A s col t c else 0) = solQ A s many col t := by
      unfold solQ
      refine List.map_congr_left fun c _ => ?_
      by_cases h : c ∈ s.L
      · rw [if_pos (by simpa using h)]
      · rw [if_neg (by simpa using h)]
        unfold solC
        rw [if_neg h]
    rw [this]
    exact q p hp

end ND
set_option Elab.async false
set_option linter.all false
set_option maxRecDepth 100000
namespace ND
open PySem PySem.Spec PyProof.Rows L2
theorem ShAt.sub {C a : Addr} {many W : Nat} {A : Nat → Nat → Int} {s : Est} {S0 S S' : Store} (h : ShAt C a many W A s S0 S) (sb : Sub S S') : ShAt C a many W A s S0 S' := by
  obtain ⟨l, r, hA, hL, hR, hla, hra, hlr, ha0, hl0, hr0, hsub⟩ := h
  exact ⟨l, r, sb _ _ hA, sb _ _ hL, sb _ _ hR, hla, hra, hlr, ha0, hl0, hr0, hsub.trans sb⟩
def freeC (A : Nat → Nat → Int) (s : Est) (many c : Nat) : List Rat := (List.range many).map fun d => if d = c then 1 else solC A s c (-1) d
def freeQ (A : Nat → Nat → Int) (s : Est) (many i : Nat) : List (List Rat) := ((List.range i).filter fun c => decide (c ∉ s.L)).map (freeC A s many)
def w_Sheet_free (cSheet : Addr) (f1 : On) : WS :=
  (wSeq (wSet 1 (wLstM wNil))
  (wSeq (forS (wRng1 (wFld cSheet "many" (wVar 0))) (gN 2) (wIfS (wTst (w2 (oIn true) (wVar 2) (wFld cSheet "leaders" (wVar 0)))) (wSeq (wSet 3 (wMeth cSheet "solution" f1 (wVar 0) (wCons (wVar 2) (wCons (w1 oNeg (wC (.int 1))) wNil))))
  (wSeq (wAsg (wC (.tup [(.int 1), (.int 1)])) (gS (wVar 3) (wVar 2) oSet))
  (wDrop (wM oAppend (wVar 1) (wCons (wCall oTuple (wCons (wVar 3) wNil)) wNil))))) wNext))
  (wRet (wFz (wCall oTuple (wCons (wVar 1) wNil))))))
@[irreducible] def m_Sheet_free (C : Addr) : On := fun ds S Q => ∃ (a : Addr) (many W n M B : Nat) (A : Nat → Nat → Int) (s : Est) (S0 : Store), ds = [.ref a] ∧ ShAt C a many W A s S0 S ∧ EOk A n many s ∧ Sz A n W many M B ∧ Q (.tup (rowsD (freeQ A s many many))) S
theorem in_Sheet_free {C : Addr} {ds : List D} {S : Store} {Q : D → Store → Prop} (h : (fun ds S Q => ∃ (a : Addr) (many W n M B : Nat) (A : Nat → Nat → Int) (s : Est) (S0 : Store), ds = [.ref a] ∧ ShAt C a many W A s S0 S ∧ EOk A n many s ∧ Sz A n W many M B ∧ Q (.tup (rowsD (freeQ A s many many))) S : On) ds S Q) : m_Sheet_free C ds S Q := by unfold m_Sheet_free; exact h
theorem l_Sheet_free (C : Addr) (ds : List D) (S : Store) (Q : D → Store → Prop) (h : m_Sheet_free C ds S Q) : ds.length = 1 := by unfold m_Sheet_free at h; obtain ⟨_, _, _, _, _, _, _, _, _, rfl, _⟩ := h; rfl
theorem v_Sheet_free (C : Addr) (ds : List D) (S : Store) (Q : D → Store → Prop) (h : m_Sheet_free C ds S Q) : w_Sheet_free C (m_Sheet_solution C) (fin Q) (dst 4 ds) S := by
  unfold m_Sheet_free at h
  obtain ⟨a, many, W, n, M, B, A, s, S0, rfl, sh, ok, z, q⟩ := h
  have h9 := z.w9
  have hw := z.mw
  have small : Small62 (many : Int) := ⟨by omega, by omega⟩
  have hlen : (rngD 0 (many : Int)).length = many := by rw [rngD_len]; omega
  refine ⟨by show 0 ≤ sizeLine; decide, fun f hf => ?_⟩
  have sb0 : Sub S (sput S f (.lst [])) := (Sub.refl S).put hf
  obtain ⟨l, r, hA, hL, hR, hla, hra, hlr, ha0, hl0, hr0, hsub⟩ := id sh
  have hfl : f ≠ l := fun e => by rw [e, hL] at hf; cases hf
  refine ⟨_, rfl, a, _, _, rfl, sb0 _ _ hA, rfl, small, ?_⟩
  refine for_inv (fun i env S' => i ≤ many ∧ (∃ o2 o3, env = [some (.ref a), some (.ref f), o2, o3]) ∧ Sub S S' ∧ S' f = some (.lst (rowsD (freeQ A s many i)))) ⟨Nat.zero_le _, ⟨_, _, rfl⟩, sb0, sput_same⟩ ?_ ?_
  · rintro i x env S' K hx ⟨hi, ⟨o2, o3, rfl⟩, sb, hF⟩ hK
    obtain ⟨rfl, hi2⟩ := rngD_get hx
    have hi3 : i < many := by omega
    have hfr : freeQ A s many (i + 1) = freeQ A s many i ++ ([i].filter fun c => decide (c ∉ s.L)).map (freeC A s many) := by
      unfold freeQ
      rw [List.range_succ, List.filter_append, List.map_append]
    have hsc : SC S' (.ref l) ((s.L.reverse.map fun c : Nat => (c : Int)).map D.int) := by
      show S' l = _
      rw [sb _ _ hL, List.map_map]
      rfl
    refine ⟨trivial, _, rfl, _, rfl, a, _, _, rfl, sb _ _ hA, rfl, int_in hsc ?_⟩
    have hmem : ((0 + (i : Nat) : Int) ∈ s.L.reverse.map fun c : Nat => (c : Int)) ↔ i ∈ s.L := by
      rw [List.mem_map]
      constructor
      · rintro ⟨c, h1, h2⟩
        have : c = i := by omega
        rw [← this]
        simpa using h1
      · intro h
        exact ⟨i, by simpa using h, by omega⟩
    refine ite_nn (fun hne => ?_) fun he => ?_
    · have hiL : i ∉ s.L := fun h => hne (hmem.mpr h)
      refine ⟨_, rfl, a, _, rfl, sb _ _ hA, rfl, _, rfl, ?_⟩
      unfold m_Sheet_solution
      refine ⟨a, many, W, n, M, B, i, -1, A, s, S0, by rw [Int.zero_add], sh.sub sb, ok, z, by omega, .inr rfl, fun p hp => ?_⟩
      have hpf : p ≠ f := fun e => by rw [e, hF] at hp; cases hp
      refine ⟨_, rfl, _, rfl, _, i, sput_same, ?_, ?_⟩
      · unfold ixN
        rw [rowD_len]
        unfold solQ
        rw [List.length_map, List.length_range, if_pos (by omega), if_pos (by omega), Int.zero_add]
        rfl
      rw [sput_sput]
      have hset : (rowD (solQ A s many i (-1))).set i (.tup [.int 1, .int 1]) = rowD (freeC A s many i) := by
        apply List.ext_getElem?
        intro k
        rw [List.getElem?_set]
        unfold rowD solQ freeC
        simp only [List.getElem?_map, List.length_map, List.length_range]
        by_cases hk : k < many
        · rw [List.getElem?_range hk]
          by_cases hik : i = k
          · subst hik
            rw [if_pos rfl, if_pos hk]
            simp only [Option.map_some]
            rw [if_pos trivial]
            rfl
          · rw [if_neg hik]
            simp only [Option.map_some]
            rw [if_neg fun e => hik e.symm]
        · rw [List.getElem?_eq_none (by simpa using hk)]
          by_cases hik : i = k
          · omega
          · rw [if_neg hik]; rfl
      rw [hset]
      have hF2 : sput S' p (.lst (rowD (freeC A s many i))) f = some (.lst (rowsD (freeQ A s many i))) := by rw [sput_ne fun e => hpf e.symm]; exact hF
      have hfl2 : (rowsD (freeQ A s many i)).length ≤ i := by
        rw [rowsD_len]
        unfold freeQ
        rw [List.length_map]
        refine Nat.le_trans (List.length_filter_le _ _) ?_
        simp
      refine ⟨_, rfl, ⟨_, hF2⟩, _, rfl, _, sput_same, _, _, hF2, rfl, ?_, fun b hb => ?_⟩
      · exact Nat.lt_of_le_of_lt hfl2 (Nat.lt_of_lt_of_le (show i < 10000 by omega) (by decide))
      cases hb
      refine hK _ _ ⟨hi3, ⟨_, _, rfl⟩, (sb.put (sb.none hp)).put hf, ?_⟩
      rw [sput_same, hfr, List.filter_cons_of_pos (by simpa using hiL)]
      unfold rowsD
      rw [List.map_append]
      rfl
    · refine hK _ _ ⟨hi3, ⟨_, _, rfl⟩, sb, ?_⟩
      rw [hfr, List.filter_cons_of_neg (by simpa using hmem.mp he), hF]
      simp
  · rintro env S' ⟨hi, ⟨o2, o3, rfl⟩, sb, hF⟩
    rw [hlen] at hF
    exact ⟨trivial, _, rfl, _, hF, _, S, sb, .same _, q⟩
def solvedD (sys : Sys) (many : Nat) : D := match pickE (SA sys) (goE (SA sys) sys.length many) many with
  | some i => .tup [.str "none", .tup (rowD (paperQ (SA sys) (goE (SA sys) sys.length many) many sys.length i))]
  | none => .tup [.str "solved", .tup (rowD (solQ (SA sys) (goE (SA sys) sys.length many) many many 1)), .tup (rowsD (freeQ (SA sys) (goE (SA sys) sys.length many) many many))]
def w_solved (cSheet : Addr) (f1 : On) (f2 : On) (f3 : On) (f4 : On) (f5 : On) : WS :=
  (wSeq (wSet 2 (wMake cSheet f1 (wCons (wVar 0) (wCons (wVar 1) wNil))))
  (wSeq (wDrop (wMeth cSheet "go" f2 (wVar 2) wNil))
  (wSeq (wSet 3 (wMeth cSheet "paper" f3 (wVar 2) wNil))
  (wSeq (wIfS (wTst (w2 (oIsN true) (wVar 3) (wC .non))) (wRet (wFz (wTup (wCons (wC (.str "none")) (wCons (wVar 3) wNil))))) wNext)
  (wRet (wFz (wTup (wCons (wC (.str "solved")) (wCons (wCall oTuple (wCons (wMeth cSheet "solution" f5 (wVar 2) (wCons (wVar 1) (wCons (wC (.int 1)) wNil))) wNil)) (wCons (wMeth cSheet "free" f4 (wVar 2) wNil) wNil))))))))))
@[irreducible] def m_solved : On := fun ds S Q => ∃ (sd : D) (sl : List D) (sys : Sys) (many n M B : Nat), ds = [sd, .int many] ∧ SC S sd sl ∧ SysAt S sl sys ∧ SysOk sys many n ∧ Sz (SA sys) sys.length (many + 1 + sys.length) many M B ∧ Q (solvedD sys many) S
theorem in_solved {ds : List D} {S : Store} {Q : D → Store → Prop} (h : (fun ds S Q => ∃ (sd : D) (sl : List D) (sys : Sys) (many n M B : Nat), ds = [sd, .int many] ∧ SC S sd sl ∧ SysAt S sl sys ∧ SysOk sys many n ∧ Sz (SA sys) sys.length (many + 1 + sys.length) many M B ∧ Q (solvedD sys many) S : On) ds S Q) : m_solved ds S Q := by unfold m_solved; exact h
theorem l_solved (ds : List D) (S : Store) (Q : D → Store → Prop) (h : m_solved ds S Q) : ds.length = 2 := by unfold m_solved at h; obtain ⟨_, _, _, _, _, _, _, rfl, _⟩ := h; rfl
theorem use_solved {sd : D} {sl : List D} {sys : Sys} {many n M B : Nat} {S : Store} {Q : D → Store → Prop} (h1 : SC S sd sl) (h2 : SysAt S sl sys) (h3 : SysOk sys many n) (h4 : Sz (SA sys) sys.length (many + 1 + sys.length) many M B) (q : Q (solvedD sys many) S) : m_solved [sd, .int many] S Q := by
  unfold m_solved; exact ⟨sd, sl, sys, many, n, M, B, rfl, h1, h2, h3, h4, q⟩
theorem v_solved (C : Addr) (ds : List D) (S : Store) (Q : D → Store → Prop) (h : m_solved ds S Q) : w_solved C (m_Sheet_init C) (m_Sheet_go C) (m_Sheet_paper C) (m_Sheet_free C) (m_Sheet_solution C) (fin Q) (dst 4 ds) S := by
  unfold m_solved at h
  obtain ⟨sd, sl, sys, many, n, M, B, rfl, hsd, hsys, ok, z, q⟩ := h
  have eok := eok_go (SA sys) sys.length many
  refine ⟨_, rfl, _, rfl, fun a ha => ?_⟩
  unfold m_Sheet_init
  refine ⟨a, sd, sl, sys, many, n, S, rfl, ha, rfl, hsd, hsys, ok, fun S1 sh1 => ⟨rfl, ?_⟩⟩
  obtain ⟨l1, r1, hA1, _⟩ := id sh1
  refine ⟨_, rfl, a, _, rfl, hA1, rfl, ?_⟩
  show m_Sheet_go C [.ref a] _ _
  unfold m_Sheet_go
  refine ⟨a, many, _, _, M, B, SA sys, S, rfl, sh1, z, fun S2 sh2 => ?_⟩
  have sb2 : Sub S S2 := by obtain ⟨_, _, _, _, _, _, _, _, _, _, _, hsub⟩ := id sh2; exact hsub
  obtain ⟨l2, r2, hA2, _⟩ := id sh2
  refine ⟨_, rfl, a, _, rfl, hA2, rfl, ?_⟩
  show m_Sheet_paper C [.ref a] _ _
  unfold m_Sheet_paper
  refine ⟨a, many, sys.length, sys.length, M, B, SA sys, _, S, rfl, sh2, eok, z, fun i hi => ?_, fun hi => ?_⟩
  · refine ⟨_, rfl, _, rfl, by show 2 ≤ sizeLine; decide, _, S, sb2, .same _, ?_⟩
    unfold solvedD at q
    rw [hi] at q
    exact q
  · unfold solvedD at q
    rw [hi] at q
    refine ⟨_, rfl, _, rfl, a, _, rfl, hA2, rfl, _, rfl, ?_⟩
    have hw := z.mw
    show m_Sheet_solution C [.ref a, .int (many : Int), .int 1] _ _
    unfold m_Sheet_solution
    refine ⟨a, many, _, _, M, B, many, 1, SA sys, _, S, rfl, sh2, eok, z, hw, .inl rfl, fun p hp => ?_⟩
    have sh3 := sh2.sub ((Sub.refl S2).put hp (c := .lst (rowD (solQ (SA sys) (goE (SA sys) sys.length many) many many 1))))
    obtain ⟨l3, r3, hA3, _⟩ := id sh3
    refine ⟨_, sput_same, _, rfl, a, _, rfl, hA3, rfl, ?_⟩
    show m_Sheet_free C [.ref a] _ _
    unfold m_Sheet_free
    exact ⟨a, many, _, _, M, B, SA sys, _, S, rfl, sh3, eok, z, by show 3 ≤ sizeLine; decide, _, S, sb2.put (sb2.none hp), .same _, q⟩

end ND
set_option Elab.async false
set_option linter.all false
set_option maxRecDepth 100000
namespace ND
open PySem PySem.Spec PyProof.Rows L2
/-! ### S7: what solved tells is right -/
def sumQ : List Nat → (Nat → Rat) → Rat
  | [], _ => 0
  | c :: l, f => f c + sumQ l f
theorem sumQ_add : ∀ (l : List Nat) (f g : Nat → Rat), sumQ l (fun c => f c + g c) = sumQ l f + sumQ l g
  | [], _, _ => by show (0 : Rat) = 0 + 0; grind
  | c :: l, f, g => by
    show f c + g c + sumQ l (fun c => f c + g c) = f c + sumQ l f + (g c + sumQ l g)
    rw [sumQ_add l f g]
    grind
theorem sumQ_congr : ∀ {l : List Nat} {f g : Nat → Rat}, (∀ c ∈ l, f c = g c) → sumQ l f = sumQ l g
  | [], _, _, _ => rfl
  | c :: l, f, g, h => by
    show f c + sumQ l f = g c + sumQ l g
    rw [h c (List.mem_cons_self ..), sumQ_congr fun d hd => h d (List.mem_cons_of_mem _ hd)]
theorem sumQ_zero : ∀ {l : List Nat} {f : Nat → Rat}, (∀ c ∈ l, f c = 0) → sumQ l f = 0
  | [], _, _ => rfl
  | c :: l, f, h => by
    show f c + sumQ l f = 0
    rw [h c (List.mem_cons_self ..), sumQ_zero fun d hd => h d (List.mem_cons_of_mem _ hd)]
    grind
theorem sumQ_mul (k : Rat) : ∀ (l : List Nat) (f : Nat → Rat), sumQ l (fun c => k * f c) = k * sumQ l f
  | [], _ => by show (0 : Rat) = k * 0; grind
  | c :: l, f => by
    show k * f c + sumQ l (fun c => k * f c) = k * (f c + sumQ l f)
    rw [sumQ_mul k l f]
    grind
/-- one place alone -/
theorem sumQ_one {l : List Nat} (hn : l.Nodup) {x : Nat} (hx : x ∈ l) (v : Nat → Rat) : sumQ l (fun c => if c = x then v c else 0) = v x := by
  induction l with
  | nil => cases hx
  | cons c l ih =>
    rw [List.nodup_cons] at hn
    show (if c = x then v c else 0) + sumQ l _ = _
    by_cases h : c = x
    · subst h
      rw [if_pos rfl, sumQ_zero fun d hd => if_neg fun e => hn.1 (by rw [← e]; exact hd)]
      grind
    · rw [if_neg h, ih hn.2 (by rcases List.mem_cons.mp hx with e | e; exact absurd e.symm h; exact e)]
      grind
def combR : List Rat → List Nat → (Nat → Rat) → Rat
  | g :: gs, l :: ls, a => a l * g + combR gs ls a
  | _, _, _ => 0
/-- a sum over all columns where only some places count -/
theorem sumQ_lead {l : List Nat} (hn : l.Nodup) (a : Nat → Rat) : ∀ (L : List Nat) (g : Nat → Rat), L.Nodup → (∀ c ∈ L, c ∈ l) → sumQ l (fun c => a c * (if c ∈ L then g (L.idxOf c) else 0)) = combR ((List.range L.length).map g) L a
  | [], g, _, _ => sumQ_zero fun c _ => by simp
  | x :: L, g, hL, hm => by
    rw [List.nodup_cons] at hL
    have ih := sumQ_lead hn a L (fun j => g (j + 1)) hL.2 fun c hc => hm c (List.mem_cons_of_mem _ hc)
    have e : sumQ l (fun c => a c * (if c ∈ x :: L then g ((x :: L).idxOf c) else 0)) = sumQ l (fun c => (if c = x then a c * g 0 else 0) + a c * (if c ∈ L then g (L.idxOf c + 1) else 0)) := by
      refine sumQ_congr fun c hc => ?_
      by_cases h : c = x
      · subst h
        rw [if_pos (List.mem_cons_self ..), if_pos rfl, if_neg hL.1, List.idxOf_cons_self]
        grind
      · rw [if_neg h]
        by_cases h2 : c ∈ L
        · rw [if_pos (List.mem_cons_of_mem _ h2), if_pos h2, List.idxOf_cons, beq_false_of_ne fun e => h e.symm, cond_false]
          grind
        · rw [if_neg h2, if_neg fun e => (List.mem_cons.mp e).elim h h2]
          grind
    rw [e, sumQ_add, sumQ_one hn (hm x (List.mem_cons_self ..)) (fun c => a c * g 0), ih, List.length_cons, List.range_succ_eq_map, List.map_cons, List.map_map]
    rfl
theorem combR_comb (A : Nat → Nat → Int) (i : Nat) (k : Rat) : ∀ (xs : List Int) (L : List Nat), combR (xs.map fun x : Int => (x : Rat) * k) L (fun c => (A i c : Rat)) = ((comb xs (L.map (colV A)) i : Int) : Rat) * k
  | [], L => by cases L <;> (show (0 : Rat) = ((0 : Int) : Rat) * k; simp)
  | x :: xs, [] => by show (0 : Rat) = ((0 : Int) : Rat) * k; simp
  | x :: xs, l :: L => by
    show (A i l : Rat) * ((x : Rat) * k) + combR (xs.map fun x : Int => (x : Rat) * k) L (fun c => (A i c : Rat)) = ((x * A i l + comb xs (L.map (colV A)) i : Int) : Rat) * k
    rw [combR_comb A i k xs L, Rat.intCast_add, Rat.intCast_mul]
    grind
theorem divInt_mul {a b : Int} (h : b ≠ 0) : Rat.divInt a b * (b : Rat) = (a : Rat) := by
  have e : (b : Rat) = Rat.divInt b 1 := by rw [← Rat.num_divInt_den (b : Rat)]; rfl
  have e2 : (a : Rat) = Rat.divInt a 1 := by rw [← Rat.num_divInt_den (a : Rat)]; rfl
  rw [e, e2, Rat.divInt_mul_divInt, Rat.divInt_eq_divInt_iff (by omega) (by decide)]
  simp
theorem cast_ne {b : Int} (h : b ≠ 0) : (b : Rat) ≠ 0 := fun e => h (by
  have := congrArg Rat.num e
  exact this)
/-- the columns of the leaders carry every column that has nothing left -/
theorem carried {A : Nat → Nat → Int} {n k : Nat} {s : Est} (ok : EOk A n k s) {c : Nat} (hc : ∀ i ∈ s.Z, nx A s.P s.L i c = 0) {i : Nat} (hi : i < n) : comb (lx A s.P s.L c) (s.L.map (colV A)) i = hd A s.P s.L * A i c := by
  rcases ok.all i hi with h | h
  · exact lx_eq c h
  · have := nx_eq (A := A) (P := s.P) (L := s.L) i c
    rw [hc i h] at this
    omega
/-- a solution's sum with a row -/
theorem sol_sum {A : Nat → Nat → Int} {n many : Nat} {s : Est} (ok : EOk A n many s) {col : Nat} (hc : ∀ i ∈ s.Z, nx A s.P s.L i col = 0) (t : Int) {i : Nat} (hi : i < n) :
    sumQ (List.range many) (fun c => (A i c : Rat) * solC A s col t c) = (t : Rat) * (A i col : Rat) := by
  have e : sumQ (List.range many) (fun c => (A i c : Rat) * solC A s col t c) = combR ((List.range s.L.length).map fun j => Rat.divInt (leadF A s.P s.L j col * t) (hd A s.P s.L)) s.L fun c => (A i c : Rat) :=
    sumQ_lead List.nodup_range (fun c => (A i c : Rat)) s.L (fun j => Rat.divInt (leadF A s.P s.L j col * t) (hd A s.P s.L)) ok.lnd fun c hc => List.mem_range.mpr (ok.lk c hc)
  rw [e]
  have h0 := cast_ne ok.hd0
  have e2 : ((List.range s.L.length).map fun j => Rat.divInt (leadF A s.P s.L j col * t) (hd A s.P s.L)) = (lx A s.P s.L col).map fun x : Int => (x : Rat) * ((t : Rat) * (hd A s.P s.L : Rat)⁻¹) := by
    apply List.ext_getElem?
    intro j
    rw [List.getElem?_map, List.getElem?_map]
    by_cases hj : j < s.L.length
    · have hj2 : j < (lx A s.P s.L col).length := by rw [lx_len]; exact hj
      rw [List.getElem?_range hj, List.getElem?_eq_getElem hj2]
      simp only [Option.map_some, Option.some.injEq]
      have hl : leadF A s.P s.L j col = (lx A s.P s.L col)[j] := by unfold leadF; simp [List.getD, hj2]
      have := divInt_mul (a := leadF A s.P s.L j col * t) ok.hd0
      rw [hl, Rat.intCast_mul] at this
      rw [hl]
      generalize Rat.divInt _ _ = w at *
      grind
    · rw [List.getElem?_eq_none (by simpa using hj), List.getElem?_eq_none (by rw [lx_len]; omega)]
      rfl
  rw [e2, combR_comb, carried ok hc hi, Rat.intCast_mul]
  grind

end ND
set_option Elab.async false
set_option linter.all false
set_option maxRecDepth 100000
namespace ND
open PySem PySem.Spec PyProof.Rows L2
theorem sysRow_at {sys : Sys} {i : Nat} (hi : i < sys.length) : sysRow sys i = sys[i].1 ++ [sys[i].2] := by unfold sysRow; rw [List.getElem?_eq_getElem hi]
theorem SA_val {sys : Sys} {many i c : Nat} (ok : SysW sys many) (hi : i < sys.length) (hc : c ≤ many) : ((SA sys i c : Int) : Rat) = ((lcmQ 1 (sysRow sys i) : Nat) : Rat) * (sysRow sys i).getD c 0 := by
  have hl : (sysRow sys i).length = many + 1 := by rw [sysRow_at hi, List.length_append, ok.wid _ (List.getElem_mem hi)]; rfl
  have hcl : c < (sysRow sys i).length := by omega
  have e : SA sys i c = (sysRow sys i)[c].num * ((lcmQ 1 (sysRow sys i) / (sysRow sys i)[c].den : Nat) : Int) := by
    unfold SA wholeRow wholeQ
    rw [List.getD_eq_getElem?_getD, List.getElem?_append_left (by rw [List.length_map]; exact hcl), List.getElem?_map, List.getElem?_eq_getElem hcl]
    rfl
  rw [e, whole_val (lcmQ_dvd (List.getElem_mem hcl)), List.getD_eq_getElem?_getD, List.getElem?_eq_getElem hcl]
  rfl
theorem SA_mark {sys : Sys} {many i k : Nat} (ok : SysW sys many) (hi : i < sys.length) (hk : k < sys.length) : SA sys i (many + 1 + k) = ((lcmQ 1 (sysRow sys i) : Nat) : Int) * (if i = k then 1 else 0) := by
  have hl : (sysRow sys i).length = many + 1 := by rw [sysRow_at hi, List.length_append, ok.wid _ (List.getElem_mem hi)]; rfl
  unfold SA wholeRow wholeQ
  rw [List.getD_eq_getElem?_getD, List.getElem?_append_right (by rw [List.length_map]; omega), List.length_map, hl, show many + 1 + k - (many + 1) = k by omega, List.getElem?_map, List.getElem?_map, List.getElem?_range hk]
  rfl
theorem by_ne (sys : Sys) (i : Nat) : ((lcmQ 1 (sysRow sys i) : Nat) : Rat) ≠ 0 := by
  have h := lcmQ_pos (qs := sysRow sys i) (b := 1) (by decide)
  exact cast_ne (b := ((lcmQ 1 (sysRow sys i) : Nat) : Int)) (by omega)
theorem sumQ_map (f : Nat → Rat) (g : Nat → Nat) : ∀ l : List Nat, sumQ (l.map g) f = sumQ l (fun c => f (g c))
  | [] => rfl
  | c :: l => by show f (g c) + _ = f (g c) + _; rw [sumQ_map f g l]
theorem dot_range : ∀ (row : List Rat) (f : Nat → Rat), dot row ((List.range row.length).map f) = sumQ (List.range row.length) (fun c => row.getD c 0 * f c)
  | [], f => by rw [dot_nil_left]; rfl
  | x :: row, f => by
    have ih := dot_range row (fun c => f (c + 1))
    rw [List.length_cons, List.range_succ_eq_map, List.map_cons, List.map_map, dot_cons]
    show x * f 0 + dot row ((List.range row.length).map fun c => f (c + 1)) = x * f 0 + sumQ ((List.range row.length).map Nat.succ) _
    rw [ih, sumQ_map]
    rfl
theorem row_getD {sys : Sys} {many i c : Nat} (ok : SysW sys many) (hi : i < sys.length) (hc : c < many) : (sysRow sys i).getD c 0 = sys[i].1.getD c 0 := by
  have hw := ok.wid _ (List.getElem_mem hi)
  rw [sysRow_at hi, List.getD_eq_getElem?_getD, List.getElem?_append_left (by omega), List.getD_eq_getElem?_getD]
theorem row_last {sys : Sys} {many i : Nat} (ok : SysW sys many) (hi : i < sys.length) : (sysRow sys i).getD many 0 = sys[i].2 := by
  have hw := ok.wid _ (List.getElem_mem hi)
  rw [sysRow_at hi, List.getD_eq_getElem?_getD, List.getElem?_append_right (by omega), hw, Nat.sub_self]
  rfl
/-- the told solution's sum with a row -/
theorem told_sum {sys : Sys} {many i col : Nat} {t : Int} (ok : SysW sys many) (hi : i < sys.length) (hcol : col ≤ many) (hz : ∀ j ∈ (goE (SA sys) sys.length many).Z, nx (SA sys) (goE (SA sys) sys.length many).P (goE (SA sys) sys.length many).L j col = 0) :
    dot sys[i].1 (solQ (SA sys) (goE (SA sys) sys.length many) many col t) = (t : Rat) * (sysRow sys i).getD col 0 := by
  have hw := ok.wid _ (List.getElem_mem hi)
  have h1 := sol_sum (eok_go (SA sys) sys.length many) hz t hi
  have h2 := dot_range sys[i].1 (solC (SA sys) (goE (SA sys) sys.length many) col t)
  rw [hw] at h2
  unfold solQ
  rw [h2]
  have hb := by_ne sys i
  have e : sumQ (List.range many) (fun c => (SA sys i c : Rat) * solC (SA sys) (goE (SA sys) sys.length many) col t c) = ((lcmQ 1 (sysRow sys i) : Nat) : Rat) * sumQ (List.range many) (fun c => sys[i].1.getD c 0 * solC (SA sys) (goE (SA sys) sys.length many) col t c) := by
    rw [← sumQ_mul]
    refine sumQ_congr fun c hc => ?_
    have hc2 := List.mem_range.mp hc
    rw [SA_val ok hi (Nat.le_of_lt hc2), row_getD ok hi hc2]
    grind
  rw [e, SA_val ok hi hcol] at h1
  generalize sumQ _ _ = x at *
  generalize (sysRow sys i).getD col 0 = y at *
  grind
theorem told_solves {sys : Sys} {many i : Nat} (ok : SysW sys many) (hi : i < sys.length) (hp : pickE (SA sys) (goE (SA sys) sys.length many) many = none) : dot sys[i].1 (solQ (SA sys) (goE (SA sys) sys.length many) many many 1) = sys[i].2 := by
  rw [told_sum ok hi (Nat.le_refl _) (pick_none hp), row_last ok hi]
  show ((1 : Int) : Rat) * _ = _
  grind
theorem solC_free {A : Nat → Nat → Int} {s : Est} {col c : Nat} {t : Int} (h : c ∉ s.L) : solC A s col t c = 0 := if_neg h
theorem free_solves {sys : Sys} {many i c : Nat} (ok : SysW sys many) (hi : i < sys.length) (hc : c < many) (hL : c ∉ (goE (SA sys) sys.length many).L) : dot sys[i].1 (freeC (SA sys) (goE (SA sys) sys.length many) many c) = 0 := by
  have hw := ok.wid _ (List.getElem_mem hi)
  have h1 := told_sum (t := -1) ok hi (Nat.le_of_lt hc) fun j hj => (eok_go (SA sys) sys.length many).clean j hj c hc
  rw [row_getD ok hi hc] at h1
  have h2 := dot_range sys[i].1 (solC (SA sys) (goE (SA sys) sys.length many) c (-1))
  have h3 := dot_range sys[i].1 (fun d => if d = c then 1 else solC (SA sys) (goE (SA sys) sys.length many) c (-1) d)
  rw [hw] at h2 h3
  unfold solQ at h1
  unfold freeC
  rw [h3]
  rw [h2] at h1
  have e : sumQ (List.range many) (fun d => sys[i].1.getD d 0 * (if d = c then 1 else solC (SA sys) (goE (SA sys) sys.length many) c (-1) d)) =
      sumQ (List.range many) (fun d => (if d = c then sys[i].1.getD d 0 else 0) + sys[i].1.getD d 0 * solC (SA sys) (goE (SA sys) sys.length many) c (-1) d) := by
    refine sumQ_congr fun d _ => ?_
    by_cases h : d = c
    · subst h
      rw [if_pos rfl, if_pos rfl, solC_free hL]
      grind
    · rw [if_neg h, if_neg h]
      grind
  rw [e, sumQ_add, sumQ_one List.nodup_range (List.mem_range.mpr hc) (fun d => sys[i].1.getD d 0), h1]
  show _ + ((-1 : Int) : Rat) * _ = 0
  have : ((-1 : Int) : Rat) = -1 := rfl
  rw [this]
  grind

end ND
set_option Elab.async false
set_option linter.all false
set_option maxRecDepth 100000
namespace ND
open PySem PySem.Spec PyProof.Rows L2
theorem cast_inj {a b : Int} (h : (a : Rat) = (b : Rat)) : a = b := congrArg Rat.num h
def dotI : List Int → List Int → Int
  | x :: xs, y :: ys => x * y + dotI xs ys
  | _, _ => 0
theorem col_sum {G : List Vec → Int} (hl : Lin G) (pre post : List Vec) : ∀ (xs : List Int) (ls : List Vec), G (pre ++ comb xs ls :: post) = dotI xs (ls.map fun l => G (pre ++ l :: post))
  | [], ls => by
    have : comb [] ls = fun _ => 0 := by cases ls <;> rfl
    rw [this, col_zero hl]
    cases ls <;> rfl
  | x :: xs, [] => col_zero hl pre post
  | x :: xs, l :: ls => by
    have e : comb (x :: xs) (l :: ls) = fun i => x * l i + 1 * comb xs ls i := by funext i; rw [comb_cons, Int.one_mul]
    rw [e, hl, col_sum hl pre post xs ls]
    show x * _ + 1 * _ = x * _ + _
    rw [Int.one_mul]
theorem comb_off {A : Nat → Nat → Int} {m0 j : Nat} : ∀ (xs : List Int) (st : Nat), (∀ k, k < st + xs.length → k ≠ j → A j (m0 + k) = 0) → (j < st ∨ st + xs.length ≤ j) → comb xs ((List.range' st xs.length).map fun k => colV A (m0 + k)) j = 0
  | [], _, _, _ => rfl
  | x :: xs, st, h, hj => by
    show x * A j (m0 + st) + comb xs ((List.range' (st + 1) xs.length).map fun k => colV A (m0 + k)) j = 0
    rw [h st (by simp) (by simp at hj; omega), comb_off xs (st + 1) (fun k hk => h k (by simp; omega)) (by simp at hj; omega)]
    simp
theorem comb_mark {A : Nat → Nat → Int} {m0 j : Nat} {b : Int} (hb : A j (m0 + j) = b) : ∀ (xs : List Int) (st : Nat), (∀ k, k < st + xs.length → k ≠ j → A j (m0 + k) = 0) → st ≤ j → ∀ hj : j - st < xs.length, comb xs ((List.range' st xs.length).map fun k => colV A (m0 + k)) j = xs[j - st] * b
  | [], _, _, _, hj => by simp at hj
  | x :: xs, st, h, hs, hj => by
    show x * A j (m0 + st) + comb xs ((List.range' (st + 1) xs.length).map fun k => colV A (m0 + k)) j = _
    by_cases e : st = j
    · subst e
      rw [hb, comb_off xs (st + 1) (fun k hk => h k (by simp; omega)) (.inl (Nat.lt_succ_self _))]
      simp
    · have e2 : j - st = (j - (st + 1)) + 1 := by omega
      rw [h st (by simp) e, comb_mark hb xs (st + 1) (fun k hk => h k (by simp; omega)) (by omega) (by simp at hj; omega)]
      simp only [e2, List.getElem_cons_succ]
      omega
def colS (sys : Sys) (c : Nat) : List Rat := (List.range sys.length).map fun k => (sysRow sys k).getD c 0
theorem dotI_cast (d : Nat) : ∀ (qs : List Rat) (ys : List Int), (∀ q ∈ qs, q.den ∣ d) → ((dotI (qs.map fun q => q.num * ((d / q.den : Nat) : Int)) ys : Int) : Rat) = ((d : Nat) : Rat) * dot qs (ys.map fun y : Int => (y : Rat))
  | [], ys, _ => by rw [dot_nil_left]; show ((0 : Int) : Rat) = _ * 0; rw [Rat.mul_zero]; rfl
  | q :: qs, [], _ => by show ((0 : Int) : Rat) = _ * dot _ []; rw [dot_nil_right, Rat.mul_zero]; rfl
  | q :: qs, y :: ys, h => by
    have ih := dotI_cast d qs ys fun r hr => h r (List.mem_cons_of_mem _ hr)
    show ((q.num * ((d / q.den : Nat) : Int) * y + dotI (qs.map fun q => q.num * ((d / q.den : Nat) : Int)) ys : Int) : Rat) = _ * (q * (y : Rat) + dot qs (ys.map fun y : Int => (y : Rat)))
    rw [Rat.intCast_add, ih, Rat.intCast_mul, whole_val (h q (List.mem_cons_self ..))]
    grind
/-- what is left of a column, by what is left of the marks -/
theorem nx_marks {sys : Sys} {many i c : Nat} {P L : List Nat} (ok : SysW sys many) (hi : i < sys.length) (hP : ∀ j ∈ P, j < sys.length) (hc : c ≤ many) :
    ((nx (SA sys) P L i c : Int) : Rat) = dot (colS sys c) ((List.range sys.length).map fun k => ((nx (SA sys) P L i (many + 1 + k) : Int) : Rat)) := by
  have hl := dt_lin (i :: P)
  have hlen : (wholeQ (colS sys c)).length = sys.length := by unfold wholeQ colS; simp
  have hd0 : ((lcmQ 1 (colS sys c) : Nat) : Rat) ≠ 0 := by
    have h := lcmQ_pos (qs := colS sys c) (b := 1) (by decide)
    exact cast_ne (b := ((lcmQ 1 (colS sys c) : Nat) : Int)) (by omega)
  have rows : ∀ j ∈ i :: P, ((lcmQ 1 (colS sys c) : Nat) : Int) * SA sys j c + 0 * SA sys j c = comb (wholeQ (colS sys c)) ((List.range' 0 (wholeQ (colS sys c)).length).map fun k => colV (SA sys) (many + 1 + k)) j := by
    intro j hj
    have hjn : j < sys.length := by
      rcases List.mem_cons.mp hj with rfl | hj
      · exact hi
      · exact hP j hj
    rw [comb_mark (b := ((lcmQ 1 (sysRow sys j) : Nat) : Int)) (by rw [SA_mark ok hjn hjn, if_pos rfl, Int.mul_one]) _ 0 (fun k hk hkj => by rw [SA_mark ok hjn (by omega), if_neg fun e => hkj e.symm, Int.mul_zero]) (Nat.zero_le _) (by omega)]
    simp only [Nat.sub_zero]
    have hq : (colS sys c)[j]? = some ((sysRow sys j).getD c 0) := by unfold colS; rw [List.getElem?_map, List.getElem?_range hjn]; rfl
    have hu : (wholeQ (colS sys c))[j]'(by omega) = ((sysRow sys j).getD c 0).num * ((lcmQ 1 (colS sys c) / ((sysRow sys j).getD c 0).den : Nat) : Int) := by
      have : (wholeQ (colS sys c))[j]? = some (((sysRow sys j).getD c 0).num * ((lcmQ 1 (colS sys c) / ((sysRow sys j).getD c 0).den : Nat) : Int)) := by
        unfold wholeQ
        rw [List.getElem?_map, hq]
        rfl
      rw [List.getElem?_eq_getElem (by omega)] at this
      exact Option.some.inj this
    rw [hu]
    have key : (((lcmQ 1 (colS sys c) : Nat) : Int) * SA sys j c + 0 * SA sys j c : Int) = ((sysRow sys j).getD c 0).num * ((lcmQ 1 (colS sys c) / ((sysRow sys j).getD c 0).den : Nat) : Int) * ((lcmQ 1 (sysRow sys j) : Nat) : Int) := by
      have : ((((lcmQ 1 (colS sys c) : Nat) : Int) * SA sys j c : Int) : Rat) = ((((sysRow sys j).getD c 0).num * ((lcmQ 1 (colS sys c) / ((sysRow sys j).getD c 0).den : Nat) : Int) * ((lcmQ 1 (sysRow sys j) : Nat) : Int) : Int) : Rat) := by
        rw [Rat.intCast_mul, SA_val ok hjn hc, Rat.intCast_mul, whole_val (lcmQ_dvd (List.mem_of_getElem? hq))]
        show ((lcmQ 1 (colS sys c) : Nat) : Rat) * _ = _ * ((lcmQ 1 (sysRow sys j) : Nat) : Rat)
        grind
      rw [Int.zero_mul, Int.add_zero]
      exact cast_inj this
    exact key
  have e1 : dt ((fun j => ((lcmQ 1 (colS sys c) : Nat) : Int) * SA sys j c + 0 * SA sys j c) :: L.map (colV (SA sys))) (i :: P) = ((lcmQ 1 (colS sys c) : Nat) : Int) * nx (SA sys) P L i c + 0 * nx (SA sys) P L i c := hl [] (colV (SA sys) c) (colV (SA sys) c) _ 0 _
  have e2 := dt_same (i :: P) rows [] (L.map (colV (SA sys)))
  have e3 := col_sum hl [] (L.map (colV (SA sys))) (wholeQ (colS sys c)) ((List.range' 0 (wholeQ (colS sys c)).length).map fun k => colV (SA sys) (many + 1 + k))
  have e4 : ((lcmQ 1 (colS sys c) : Nat) : Int) * nx (SA sys) P L i c = dotI (wholeQ (colS sys c)) ((List.range sys.length).map fun k => nx (SA sys) P L i (many + 1 + k)) := by
    have e5 : ((lcmQ 1 (colS sys c) : Nat) : Int) * nx (SA sys) P L i c + 0 * nx (SA sys) P L i c = _ := e1.symm.trans (e2.trans e3)
    rw [hlen, ← List.range_eq_range', List.map_map] at e5
    rw [Int.zero_mul, Int.add_zero] at e5
    exact e5
  have e6 := congrArg (fun z : Int => (z : Rat)) e4
  simp only [Rat.intCast_mul] at e6
  rw [show wholeQ (colS sys c) = (colS sys c).map (fun q => q.num * ((lcmQ 1 (colS sys c) / q.den : Nat) : Int)) from rfl, dotI_cast _ _ _ fun q hq => lcmQ_dvd hq, List.map_map] at e6
  have e7 : ((lcmQ 1 (colS sys c) : Nat) : Rat) * ((nx (SA sys) P L i c : Int) : Rat) = ((lcmQ 1 (colS sys c) : Nat) : Rat) * dot (colS sys c) ((List.range sys.length).map fun k => ((nx (SA sys) P L i (many + 1 + k) : Int) : Rat)) := e6
  generalize dot _ _ = y at *
  grind
theorem dot_scale (k : Rat) : ∀ (a b : List Rat), dot a (b.map (· * k)) = dot a b * k := fun a b => dot_mulQ k a b
theorem paper_dot {sys : Sys} {many i c : Nat} (ok : SysW sys many) (hp : pickE (SA sys) (goE (SA sys) sys.length many) many = some i) (hc : c ≤ many) :
    dot (colS sys c) (paperQ (SA sys) (goE (SA sys) sys.length many) many sys.length i) * ((nx (SA sys) (goE (SA sys) sys.length many).P (goE (SA sys) sys.length many).L i many : Int) : Rat) = ((nx (SA sys) (goE (SA sys) sys.length many).P (goE (SA sys) sys.length many).L i c : Int) : Rat) := by
  obtain ⟨hz, h0⟩ := pick_some hp
  have eok := eok_go (SA sys) sys.length many
  rw [← dot_scale, nx_marks ok (eok.zn i hz) eok.pn hc]
  congr 1
  unfold paperQ
  rw [List.map_map]
  exact List.map_congr_left fun k _ => divInt_mul h0
theorem paper_zero {sys : Sys} {many i c : Nat} (ok : SysW sys many) (hp : pickE (SA sys) (goE (SA sys) sys.length many) many = some i) (hc : c < many) : dot (colS sys c) (paperQ (SA sys) (goE (SA sys) sys.length many) many sys.length i) = 0 := by
  obtain ⟨hz, h0⟩ := pick_some hp
  have h := paper_dot ok hp (Nat.le_of_lt hc)
  rw [(eok_go (SA sys) sys.length many).clean i hz c hc] at h
  have h2 := cast_ne h0
  rcases Rat.mul_eq_zero.mp h with e | e
  · exact e
  · exact absurd e h2
theorem paper_one {sys : Sys} {many i : Nat} (ok : SysW sys many) (hp : pickE (SA sys) (goE (SA sys) sys.length many) many = some i) : dot (colS sys many) (paperQ (SA sys) (goE (SA sys) sys.length many) many sys.length i) = 1 := by
  obtain ⟨hz, h0⟩ := pick_some hp
  have h := paper_dot ok hp (Nat.le_refl _)
  have h2 := cast_ne h0
  generalize dot _ _ = x at *
  grind

end ND
set_option Elab.async false
set_option linter.all false
set_option maxRecDepth 100000
namespace ND
open PySem PySem.Spec PyProof.Rows L2
/-! ### rows with a common divisor below -/
def cq (d V : Nat) (q : Rat) : Prop := ∃ z : Int, q * (((d : Nat) : Int) : Rat) = (z : Rat) ∧ z.natAbs ≤ V * d
theorem cq_add {d V W : Nat} {a b : Rat} (h : cq d V a) (k : cq d W b) : cq d (V + W) (a + b) := by
  obtain ⟨z, e, l⟩ := h
  obtain ⟨y, f, m⟩ := k
  refine ⟨z + y, by rw [Rat.intCast_add, Rat.add_mul, e, f], ?_⟩
  rw [Nat.add_mul]
  omega
theorem cq_neg {d V : Nat} {a : Rat} (h : cq d V a) : cq d V (-a) := by
  obtain ⟨z, e, l⟩ := h
  exact ⟨-z, by rw [Rat.intCast_neg, Rat.neg_mul, e], by omega⟩
theorem cq_sub {d V W : Nat} {a b : Rat} (h : cq d V a) (k : cq d W b) : cq d (V + W) (a - b) := by
  rw [Rat.sub_eq_add_neg]
  exact cq_add h (cq_neg k)
theorem cq_mul {d e V W : Nat} {a b : Rat} (h : cq d V a) (k : cq e W b) : cq (d * e) (V * W) (a * b) := by
  obtain ⟨z, f, l⟩ := h
  obtain ⟨y, g, m⟩ := k
  refine ⟨z * y, ?_, ?_⟩
  · rw [Rat.intCast_mul, ← f, ← g, Int.natCast_mul, Rat.intCast_mul]
    grind
  · rw [Int.natAbs_mul]
    have := Nat.mul_le_mul l m
    have e : V * d * (W * e) = V * W * (d * e) := by rw [Nat.mul_assoc, Nat.mul_left_comm d, ← Nat.mul_assoc]
    omega
theorem cq_int {V : Nat} {z : Int} (h : z.natAbs ≤ V) : cq 1 V (z : Rat) := ⟨z, by show (z : Rat) * 1 = z; rw [Rat.mul_one], by omega⟩
theorem cq_zero {d V : Nat} : cq d V 0 := ⟨0, by rw [Rat.zero_mul]; rfl, Nat.zero_le _⟩
theorem cq_up {d e V W : Nat} {q : Rat} (h : cq d V q) (hd : d ∣ e) (hv : V ≤ W) : cq e W q := by
  obtain ⟨z, f, l⟩ := h
  obtain ⟨k, rfl⟩ := hd
  refine ⟨z * (k : Int), ?_, ?_⟩
  · rw [Rat.intCast_mul, ← f, Int.natCast_mul, Rat.intCast_mul]
    grind
  · rw [Int.natAbs_mul, Int.natAbs_natCast, ← Nat.mul_assoc]
    exact Nat.mul_le_mul (Nat.le_trans l (Nat.mul_le_mul hv (Nat.le_refl _))) (Nat.le_refl _)
theorem cq_self (q : Rat) {V : Nat} (h : q.num.natAbs ≤ V * q.den) : cq q.den V q := by
  refine ⟨q.num, ?_, h⟩
  exact (num_eq q).symm
theorem cq_eq {d V : Nat} {q : Rat} (d0 : 0 < d) (h : cq d V q) : ∃ z : Int, q = Rat.divInt z d ∧ z.natAbs ≤ V * d := by
  obtain ⟨z, e, l⟩ := h
  refine ⟨z, ?_, l⟩
  have hd : (d : Int) ≠ 0 := by omega
  have h1 := divInt_mul (a := z) hd
  have h2 := cast_ne hd
  generalize Rat.divInt z d = r at *
  grind
theorem cq_den {d V : Nat} {q : Rat} (d0 : 0 < d) (h : cq d V q) : q.den ∣ d := by
  obtain ⟨z, rfl, l⟩ := cq_eq d0 h
  rw [Rat.den_divInt]
  rw [if_neg (by omega)]
  exact Nat.div_dvd_of_dvd (Nat.gcd_dvd_left d z.natAbs)
theorem cq_num {d V : Nat} {q : Rat} (d0 : 0 < d) (h : cq d V q) : q.num.natAbs ≤ V * d := by
  obtain ⟨z, rfl, l⟩ := cq_eq d0 h
  exact Nat.le_trans (num_le (by omega)) l
theorem cq_bq {d V n : Nat} {q : Rat} (d0 : 0 < d) (h : cq d V q) (hd : d < 2 ^ n) (hv : V * d < 2 ^ n) : bq n q :=
  ⟨Nat.lt_of_le_of_lt (cq_num d0 h) hv, Nat.lt_of_le_of_lt (Nat.le_of_dvd d0 (cq_den d0 h)) hd⟩
theorem cq_dot {d e V W : Nat} : ∀ {a b : List Rat}, (∀ q ∈ a, cq d V q) → (∀ q ∈ b, cq e W q) → cq (d * e) (a.length * (V * W)) (dot a b)
  | [], b, _, _ => by rw [dot_nil_left]; exact cq_zero
  | x :: xs, [], _, _ => by rw [dot_nil_right]; exact cq_zero
  | x :: xs, y :: ys, h, k => by
    have ih := cq_dot (fun q hq => h q (List.mem_cons_of_mem _ hq)) fun q hq => k q (List.mem_cons_of_mem _ hq)
    have h1 := cq_mul (h x (List.mem_cons_self ..)) (k y (List.mem_cons_self ..))
    show cq (d * e) ((xs.length + 1) * (V * W)) (x * y + dot xs ys)
    rw [Nat.succ_mul, Nat.add_comm]
    exact cq_add h1 ih
theorem lcmQ_dvd_of {d : Nat} : ∀ {qs : List Rat} {b : Nat}, b ∣ d → (∀ q ∈ qs, q.den ∣ d) → lcmQ b qs ∣ d
  | [], b, h, _ => h
  | q :: qs, b, h, k => lcmQ_dvd_of (qs := qs) (b := Nat.lcm b q.den) (Nat.lcm_dvd h (k q (List.mem_cons_self ..))) fun r hr => k r (List.mem_cons_of_mem _ hr)
theorem whole_le {d V : Nat} {qs : List Rat} (d0 : 0 < d) (h : ∀ q ∈ qs, cq d V q) : ∀ x ∈ wholeQ qs, x.natAbs ≤ V * d := fun x hx => by
  obtain ⟨q, hq, rfl⟩ := List.mem_map.mp hx
  obtain ⟨z, e, l⟩ := h q hq
  have hl := lcmQ_dvd_of (Nat.one_dvd d) fun q hq => cq_den d0 (h q hq)
  have hv := whole_val (lcmQ_dvd hq (b := 1))
  obtain ⟨k, hk⟩ := hl
  have h1 : (q.num * ((lcmQ 1 qs / q.den : Nat) : Int)) * (k : Int) = z := by
    apply cast_inj
    rw [Rat.intCast_mul, hv, ← e]
    have : (((d : Nat) : Int) : Rat) = ((lcmQ 1 qs : Nat) : Rat) * ((k : Int) : Rat) := by
      rw [hk, Int.natCast_mul, Rat.intCast_mul]
      rfl
    rw [this]
    grind
  have k0 : 0 < k := by
    rcases Nat.eq_zero_or_pos k with h | h
    · rw [h] at hk; omega
    · exact h
  rw [← h1, Int.natAbs_mul, Int.natAbs_natCast] at l
  exact Nat.le_trans (Nat.le_mul_of_pos_right _ k0) l
/-- a system's sizes, by common divisors below of its rows -/
theorem SysOk.of {sys : Sys} {many n D V : Nat} (wid : ∀ p ∈ sys, p.1.length = many) (h : ∀ p ∈ sys, ∃ d, 0 < d ∧ d ≤ D ∧ (∀ q ∈ p.1, cq d V q) ∧ cq d V p.2) (n0 : 0 < n) (hD : D < 2 ^ n) (hV : V * D < 2 ^ n) (sz : n * (many + 1) + n ≤ 290000) (mw : many ≤ 100) (ln : sys.length ≤ 100) : SysOk sys many n := by
  refine ⟨wid, fun p hp => ?_, n0, sz, mw, ln⟩
  obtain ⟨d, d0, hd, h1, h2⟩ := h p hp
  have hv : V * d < 2 ^ n := Nat.lt_of_le_of_lt (Nat.mul_le_mul_left _ hd) hV
  exact ⟨fun q hq => cq_bq d0 (h1 q hq) (Nat.lt_of_le_of_lt hd hD) hv, cq_bq d0 h2 (Nat.lt_of_le_of_lt hd hD) hv⟩
theorem Sz.of {sys : Sys} {many n D V M B : Nat} (ok : SysOk sys many n) (h : ∀ p ∈ sys, ∃ d, 0 < d ∧ d ≤ D ∧ (∀ q ∈ p.1, cq d V q) ∧ cq d V p.2) (hM : V * D ≤ M) (hD : D ≤ M) (m1 : 1 ≤ M) (hp : ((many + 1) * M) ^ (many + 1) < 2 ^ B) (b0 : 0 < B) (b9 : B ≤ 299999) :
    Sz (SA sys) sys.length (many + 1 + sys.length) many M B := by
  have hmw := ok.mw
  have hln := ok.ln
  refine ⟨fun i hi c hc => ?_, m1, by omega, hp, b0, b9, by omega, by omega⟩
  obtain ⟨d, d0, hd, h1, h2⟩ := h _ (List.getElem_mem hi)
  have hrow : ∀ q ∈ sysRow sys i, cq d V q := fun q hq => by
    rw [sysRow_at hi] at hq
    rcases List.mem_append.mp hq with h | h
    · exact h1 q h
    · rw [List.mem_singleton.mp h]; exact h2
  have hw := wholeRow_len ok hi
  by_cases hcm : c < many + 1
  · have hwl : (wholeQ (sysRow sys i)).length = many + 1 := by
      unfold wholeQ
      rw [List.length_map, sysRow_at hi, List.length_append, ok.wid _ (List.getElem_mem hi)]
      rfl
    have e : SA sys i c = (wholeQ (sysRow sys i))[c]'(by omega) := by
      unfold SA wholeRow
      rw [List.getD_eq_getElem?_getD, List.getElem?_append_left (by omega), List.getElem?_eq_getElem (by omega)]
      rfl
    rw [e]
    exact Nat.le_trans (whole_le d0 hrow _ (List.getElem_mem _)) (Nat.le_trans (Nat.mul_le_mul_left _ hd) hM)
  · have hck : c = many + 1 + (c - (many + 1)) := by omega
    rw [hck, SA_mark ok hi (by omega)]
    have hl := Nat.le_of_dvd d0 (lcmQ_dvd_of (Nat.one_dvd d) fun q hq => cq_den d0 (hrow q hq))
    split
    · rw [Int.mul_one, Int.natAbs_natCast]; omega
    · rw [Int.mul_zero]; exact Nat.zero_le _
/-- a system whose rows, and whose columns, have common divisors below -/
structure SysR (sys : Sys) (many D V : Nat) : Prop where
  wid : ∀ p ∈ sys, p.1.length = many
  row : ∀ p ∈ sys, ∃ d, 0 < d ∧ d ≤ D ∧ (∀ q ∈ p.1, cq d V q) ∧ cq d V p.2
  col : ∀ c, c < many → ∃ d, 0 < d ∧ d ≤ D ∧ ∀ p ∈ sys, cq d V (p.1.getD c 0)
  num : ∃ d, 0 < d ∧ d ≤ D ∧ ∀ p ∈ sys, cq d V p.2
theorem SysR.of {sys : Sys} {many D V : Nat} (D0 : 0 < D) (wid : ∀ p ∈ sys, p.1.length = many) (h : ∀ p ∈ sys, (∀ q ∈ p.1, cq D V q) ∧ cq D V p.2) : SysR sys many D V := by
  refine ⟨wid, fun p hp => ⟨D, D0, Nat.le_refl _, (h p hp).1, (h p hp).2⟩, fun c hc => ⟨D, D0, Nat.le_refl _, fun p hp => ?_⟩, ⟨D, D0, Nat.le_refl _, fun p hp => (h p hp).2⟩⟩
  have hw := wid p hp
  have : p.1.getD c 0 ∈ p.1 := by simp [List.getD, show c < p.1.length by omega]
  exact (h p hp).1 _ this
theorem cq_list {n : Nat} {qs : List Rat} (h : ∀ q ∈ qs, bq n q) : 0 < lcmQ 1 qs ∧ lcmQ 1 qs ≤ 2 ^ (1 + n * qs.length) ∧ ∀ q ∈ qs, cq (lcmQ 1 qs) (2 ^ n) q := by
  refine ⟨lcmQ_pos (by decide), Nat.le_of_lt (lcmQ_lt (by decide) (by decide) h), fun q hq => ?_⟩
  refine cq_up (cq_self q (V := 2 ^ n) ?_) (lcmQ_dvd hq) (Nat.le_refl _)
  exact Nat.le_trans (Nat.le_of_lt (h q hq).1) (Nat.le_mul_of_pos_right _ q.den_pos)
theorem SysR.bits {sys : Sys} {many n k : Nat} (wid : ∀ p ∈ sys, p.1.length = many) (h : ∀ p ∈ sys, (∀ q ∈ p.1, bq n q) ∧ bq n p.2) (h1 : many + 1 ≤ k) (h2 : sys.length ≤ k) : SysR sys many (2 ^ (1 + n * k)) (2 ^ n) := by
  have up : ∀ j, j ≤ k → 2 ^ (1 + n * j) ≤ 2 ^ (1 + n * k) := fun j hj => Nat.pow_le_pow_right (by decide) (Nat.add_le_add_left (Nat.mul_le_mul_left _ hj) 1)
  refine ⟨wid, fun p hp => ?_, fun c hc => ?_, ?_⟩
  · obtain ⟨a, b, c⟩ := cq_list (qs := p.1 ++ [p.2]) (n := n) fun q hq => by
      rcases List.mem_append.mp hq with h3 | h3
      · exact (h p hp).1 q h3
      · rw [List.mem_singleton.mp h3]; exact (h p hp).2
    refine ⟨_, a, Nat.le_trans b (up _ ?_), fun q hq => c q (List.mem_append.mpr (.inl hq)), c _ (by simp)⟩
    rw [List.length_append, wid p hp]; exact h1
  · obtain ⟨a, b, c'⟩ := cq_list (qs := sys.map fun p => p.1.getD c 0) (n := n) fun q hq => by
      obtain ⟨p, hp, rfl⟩ := List.mem_map.mp hq
      have hw := wid p hp
      have : p.1.getD c 0 ∈ p.1 := by simp [List.getD, show c < p.1.length by omega]
      exact (h p hp).1 _ this
    exact ⟨_, a, Nat.le_trans b (up _ (by rw [List.length_map]; exact h2)), fun p hp => c' _ (List.mem_map.mpr ⟨p, hp, rfl⟩)⟩
  · obtain ⟨a, b, c'⟩ := cq_list (qs := sys.map fun p => p.2) (n := n) fun q hq => by
      obtain ⟨p, hp, rfl⟩ := List.mem_map.mp hq
      exact (h p hp).2
    exact ⟨_, a, Nat.le_trans b (up _ (by rw [List.length_map]; exact h2)), fun p hp => c' _ (List.mem_map.mpr ⟨p, hp, rfl⟩)⟩
/-- sizes by bits: D < 2 ^ a, V ≤ 2 ^ b -/
theorem SysR.vd {sys : Sys} {many D V a b : Nat} (_ : SysR sys many D V) (hD : D < 2 ^ a) (hV : V ≤ 2 ^ b) : V * D < 2 ^ (a + b) := by
  calc V * D ≤ 2 ^ b * D := Nat.mul_le_mul_right _ hV
    _ < 2 ^ b * 2 ^ a := Nat.mul_lt_mul_of_pos_left hD (Nat.two_pow_pos b)
    _ = 2 ^ (a + b) := by rw [← Nat.pow_add, Nat.add_comm]
theorem SysR.ok {sys : Sys} {many D V a b : Nat} (r : SysR sys many D V) (hD : D < 2 ^ a) (hV : V ≤ 2 ^ b) (a0 : 0 < a) (sz : (a + b) * (many + 2) ≤ 290000) (mw : many ≤ 100) (ln : sys.length ≤ 100) : SysOk sys many (a + b) := by
  have e : (a + b) * (many + 2) = (a + b) * (many + 1) + (a + b) := by rw [show many + 2 = (many + 1) + 1 from rfl, Nat.mul_succ]
  exact SysOk.of (D := D) (V := V) r.wid r.row (by omega) (Nat.lt_of_lt_of_le hD (Nat.pow_le_pow_right (by decide) (by omega))) (r.vd hD hV) (by omega) mw ln
theorem SysR.sz {sys : Sys} {many D V a b e B : Nat} (r : SysR sys many D V) (hD : D < 2 ^ a) (hV : V ≤ 2 ^ b) (ok : SysOk sys many (a + b)) (he : many + 1 ≤ 2 ^ e) (hB : (a + b + e) * (many + 1) < B) (b9 : B ≤ 299999) : Sz (SA sys) sys.length (many + 1 + sys.length) many (2 ^ (a + b)) B := by
  refine Sz.of (D := D) (V := V) ok r.row (Nat.le_of_lt (r.vd hD hV)) (Nat.le_of_lt (Nat.lt_of_lt_of_le hD (Nat.pow_le_pow_right (by decide) (by omega)))) (Nat.one_le_two_pow) ?_ (by omega) b9
  calc ((many + 1) * 2 ^ (a + b)) ^ (many + 1) ≤ (2 ^ e * 2 ^ (a + b)) ^ (many + 1) := Nat.pow_le_pow_left (Nat.mul_le_mul_right _ he) _
    _ = 2 ^ ((a + b + e) * (many + 1)) := by rw [← Nat.pow_add, ← Nat.pow_mul, Nat.add_comm e]
    _ < 2 ^ B := Nat.pow_lt_pow_right (by decide) hB
/-- what is told has one divisor below -/
theorem cq_divInt {z h : Int} {B : Nat} (h0 : h ≠ 0) (hz : z.natAbs < 2 ^ B) : cq h.natAbs (2 ^ B) (Rat.divInt z h) := by
  have e := divInt_mul (a := z) h0
  have hh : 1 ≤ h.natAbs := by omega
  have hle : z.natAbs ≤ 2 ^ B * h.natAbs := Nat.le_trans (Nat.le_of_lt hz) (Nat.le_mul_of_pos_right _ hh)
  rcases Int.natAbs_eq h with hp | hp
  · refine ⟨z, ?_, hle⟩
    rw [← hp]; exact e
  · refine ⟨-z, ?_, by rw [Int.natAbs_neg]; exact hle⟩
    have : ((h.natAbs : Nat) : Int) = -h := by omega
    rw [this, Rat.intCast_neg, Rat.intCast_neg, ← e]
    grind
theorem sol_cq {A : Nat → Nat → Int} {n W many M B col : Nat} {s : Est} (ok : EOk A n many s) (z : Sz A n W many M B) (hc : col < W) {t : Int} (ht : t = 1 ∨ t = -1) : ∀ q ∈ solQ A s many col t, cq (hd A s.P s.L).natAbs (2 ^ B) q := fun q hq => by
  obtain ⟨c, hc2, rfl⟩ := List.mem_map.mp hq
  unfold solC
  split
  · refine cq_divInt ok.hd0 ?_
    have := ok.bl z (Nat.le_refl _) (j := s.L.idxOf c) hc
    rcases ht with rfl | rfl
    · rw [Int.mul_one]; exact this
    · rw [Int.mul_neg, Int.mul_one, Int.natAbs_neg]; exact this
  · exact cq_zero
theorem one_cq {d B : Nat} : cq d (2 ^ B) 1 := ⟨d, by rw [Rat.one_mul], by rw [Int.natAbs_natCast]; exact Nat.le_mul_of_pos_left _ (Nat.two_pow_pos B)⟩
theorem free_cq {A : Nat → Nat → Int} {n W many M B c : Nat} {s : Est} (ok : EOk A n many s) (z : Sz A n W many M B) (hc : c < many) : ∀ q ∈ freeC A s many c, cq (hd A s.P s.L).natAbs (2 ^ B) q := fun q hq => by
  have hw := z.mw
  obtain ⟨d, hd2, rfl⟩ := List.mem_map.mp hq
  split
  · exact one_cq
  · exact sol_cq ok z (show c < W by omega) (.inr rfl) _ (List.mem_map.mpr ⟨d, hd2, rfl⟩)
theorem paper_cq {A : Nat → Nat → Int} {n many M B i : Nat} {s : Est} (ok : EOk A n many s) (z : Sz A n (many + 1 + n) many M B) (hp : pickE A s many = some i) : ∀ q ∈ paperQ A s many n i, cq (nx A s.P s.L i many).natAbs (2 ^ B) q := fun q hq => by
  obtain ⟨k, hk, rfl⟩ := List.mem_map.mp hq
  have hk2 := List.mem_range.mp hk
  obtain ⟨hz, h0⟩ := pick_some hp
  exact cq_divInt h0 (ok.bn z (Nat.le_refl _) (ok.zn i hz) (by omega))
/-- sizes of a sum of products, place by place -/
theorem cq_bits {d V a b : Nat} {q : Rat} (d0 : 0 < d) (h : cq d V q) (hd : d < 2 ^ a) (hv : V ≤ 2 ^ b) (b1 : 0 < a) : bq (a + b) q := by
  refine cq_bq d0 h (Nat.lt_of_lt_of_le hd (Nat.pow_le_pow_right (by decide) (by omega))) ?_
  calc V * d ≤ 2 ^ b * d := Nat.mul_le_mul_right _ hv
    _ < 2 ^ b * 2 ^ a := Nat.mul_lt_mul_of_pos_left hd (Nat.two_pow_pos b)
    _ = 2 ^ (a + b) := by rw [← Nat.pow_add, Nat.add_comm]
theorem cq_dot_bits {d e V W a b a' b' l : Nat} {xs ys : List Rat} (d0 : 0 < d) (e0 : 0 < e) (h : ∀ q ∈ xs, cq d V q) (k : ∀ q ∈ ys, cq e W q) (hd : d < 2 ^ a) (hv : V ≤ 2 ^ b) (he : e < 2 ^ a') (hw : W ≤ 2 ^ b') (hl : xs.length ≤ 2 ^ l) : bq (a + a' + (l + b + b')) (dot xs ys) := by
  have hc := cq_dot h k
  have hlt : d * e < 2 ^ (a + a') := by
    rw [Nat.pow_add]
    exact Nat.mul_lt_mul_of_lt_of_le hd (Nat.le_of_lt he) (Nat.two_pow_pos _)
  refine cq_bits (Nat.mul_pos d0 e0) hc hlt ?_ ?_
  · rw [Nat.pow_add, Nat.pow_add, Nat.mul_assoc]
    exact Nat.mul_le_mul hl (Nat.mul_le_mul hv hw)
  · rcases Nat.eq_zero_or_pos a with h | h
    · subst h
      have : d < 1 := hd
      omega
    · omega
/-- a system that is solved within the sizes -/
structure SysF (sys : Sys) (many a e B : Nat) : Prop where
  r : ∃ D V, SysR sys many D V ∧ D < 2 ^ a ∧ V ≤ 2 ^ e
  a0 : 0 < a
  ok : SysOk sys many (a + e)
  sz : Sz (SA sys) sys.length (many + 1 + sys.length) many (2 ^ (a + e)) B
  fit : 2 * a + 4 * B + 2 * e + 5 ≤ 300000
  m5 : many ≤ 32
  n5 : sys.length ≤ 32
theorem SysF.of {sys : Sys} {many D V a e l B : Nat} (r : SysR sys many D V) (hD : D < 2 ^ a) (hV : V ≤ 2 ^ e) (a0 : 0 < a) (s1 : (a + e) * (many + 2) ≤ 290000) (hl : many + 1 ≤ 2 ^ l) (hB : (a + e + l) * (many + 1) < B) (fit : 2 * a + 4 * B + 2 * e + 5 ≤ 300000) (m5 : many ≤ 32) (n5 : sys.length ≤ 32) : SysF sys many a e B := by
  have ok := r.ok hD hV a0 s1 (by omega) (by omega)
  exact ⟨⟨D, V, r, hD, hV⟩, a0, ok, r.sz hD hV ok hl hB (by omega), fit, m5, n5⟩
theorem SysF.b0 {sys : Sys} {many a e B : Nat} (f : SysF sys many a e B) : 0 < B := f.sz.b0
theorem SysF.wid {sys : Sys} {many a e B : Nat} (f : SysF sys many a e B) : ∀ p ∈ sys, p.1.length = many := f.ok.wid
theorem SysF.row {sys : Sys} {many a e B : Nat} (f : SysF sys many a e B) {p : List Rat × Rat} (hp : p ∈ sys) : ∃ d, 0 < d ∧ d < 2 ^ a ∧ (∀ q ∈ p.1, cq d (2 ^ e) q) ∧ cq d (2 ^ e) p.2 := by
  obtain ⟨D, V, r, hD, hV⟩ := f.r
  obtain ⟨d, d0, hd, h1, h2⟩ := r.row p hp
  exact ⟨d, d0, by omega, fun q hq => cq_up (h1 q hq) (Nat.dvd_refl _) hV, cq_up h2 (Nat.dvd_refl _) hV⟩
theorem SysF.col {sys : Sys} {many a e B : Nat} (f : SysF sys many a e B) {c : Nat} (hc : c < many) : ∃ d, 0 < d ∧ d < 2 ^ a ∧ ∀ p ∈ sys, cq d (2 ^ e) (p.1.getD c 0) := by
  obtain ⟨D, V, r, hD, hV⟩ := f.r
  obtain ⟨d, d0, hd, h1⟩ := r.col c hc
  exact ⟨d, d0, by omega, fun p hp => cq_up (h1 p hp) (Nat.dvd_refl _) hV⟩
theorem SysF.num {sys : Sys} {many a e B : Nat} (f : SysF sys many a e B) : ∃ d, 0 < d ∧ d < 2 ^ a ∧ ∀ p ∈ sys, cq d (2 ^ e) p.2 := by
  obtain ⟨D, V, r, hD, hV⟩ := f.r
  obtain ⟨d, d0, hd, h1⟩ := r.num
  exact ⟨d, d0, by omega, fun p hp => cq_up (h1 p hp) (Nat.dvd_refl _) hV⟩
theorem SysF.h0 {sys : Sys} {many a e B : Nat} (f : SysF sys many a e B) : 0 < (hd (SA sys) (goE (SA sys) sys.length many).P (goE (SA sys) sys.length many).L).natAbs ∧ (hd (SA sys) (goE (SA sys) sys.length many).P (goE (SA sys) sys.length many).L).natAbs < 2 ^ B := by
  have ok := eok_go (SA sys) sys.length many
  have := ok.hd0
  exact ⟨by omega, ok.bh f.sz (Nat.le_refl _)⟩

end ND
set_option Elab.async false
set_option linter.all false
set_option maxRecDepth 100000
namespace ND
open PySem PySem.Spec PyProof.Rows L2
/-! ### plain data told equal or not -/
theorem eq_same {neg : Bool} {x : D} {S : Store} {Q : D → Store → Prop} (hx : pureD x = true) (dx : deepD x ≤ 64) (h : Q (.bl (nb neg true)) S) : oEqB neg x x S Q :=
  eq_pure hx hx dx dx fun b hb => by
    have eb : b = true := hb.mpr rfl
    subst eb
    exact h
theorem eq_diff {neg : Bool} {x y : D} {S : Store} {Q : D → Store → Prop} (hn : x ≠ y) (hx : pureD x = true) (hy : pureD y = true) (dx : deepD x ≤ 64) (dy : deepD y ≤ 64) (h : Q (.bl (nb neg false)) S) : oEqB neg x y S Q :=
  eq_pure hx hy dx dy fun b hb => by
    have eb : b = false := by
      cases b with
      | true => exact absurd (hb.mp rfl) hn
      | false => rfl
    subst eb
    exact h
theorem eq_strs {neg : Bool} {a b : Str} {S : Store} {Q : D → Store → Prop} (ha : PyData.strOk a = true) (hb : PyData.strOk b = true) (h : Q (.bl (nb neg (decide (a = b)))) S) : oEqB neg (.str a) (.str b) S Q :=
  eq_pure (x := .str a) (y := .str b) ha hb (Nat.zero_le _) (Nat.zero_le _) fun c hc => eq_dec (P := a = b) (hc.trans ⟨fun e => by injection e, fun e => by rw [e]⟩) h
theorem pure_rowsD : ∀ {rows : List (List Rat)}, pureDs (rowsD rows) = true
  | [] => rfl
  | r :: rows => by
    show (pureDs (rowD r) && pureDs (rowsD rows)) = true
    rw [pure_rowD, pure_rowsD]
    rfl
theorem deep_rowsD : ∀ {rows : List (List Rat)}, deepDs (rowsD rows) ≤ 2
  | [] => by decide
  | r :: rows => by
    have h1 := deep_rowD (qs := r)
    have h2 := deep_rowsD (rows := rows)
    show max (deepDs (rowD r) + 1) (deepDs (rowsD rows)) ≤ 2
    omega
theorem rowsD_inj : ∀ {a b : List (List Rat)}, rowsD a = rowsD b → a = b
  | [], [], _ => rfl
  | [], _ :: _, h => by cases h
  | _ :: _, [], h => by cases h
  | a :: as, b :: bs, h => by
    have h1 : D.tup (rowD a) :: rowsD as = D.tup (rowD b) :: rowsD bs := h
    injection h1 with h2 h3
    injection h2 with h2
    rw [rowD_inj h2, rowsD_inj h3]
/-- numbers let by a test -/
theorem lc_range {g : WG} {tt : WT} {te : WE} {env : Slots} {n : Nat} {S : Store} {Q : List D → Store → Prop} {wt : Store → Prop} (p : Nat → Bool) (hw : wt S)
    (step : ∀ i (K1 : D → Store → Prop) (K2 : Store → Prop), i < n → (p i = true → K1 (.int (i : Nat)) S) → (p i = false → K2 S) → g (.int (i : Nat)) env S fun env1 S1 => tt env1 S1 fun b S2 => if b = true then te env1 S2 K1 else K2 S2)
    (done : Q (((List.range n).filter p).map fun c => D.int (c : Nat)) S) : lcW wt g tt te env (rngD 0 (n : Int)) [] S Q := by
  have hlen : (rngD 0 (n : Int)).length = n := by rw [rngD_len]; omega
  refine lc_inv (fun i acc S' => S' = S ∧ acc = ((List.range i).filter p).map fun c => D.int (c : Nat)) ⟨rfl, rfl⟩ ?_ ?_
  · rintro i x acc S' K1 K2 hx ⟨rfl, rfl⟩ k1 k2
    obtain ⟨rfl, hi⟩ := rngD_get hx
    rw [Int.zero_add]
    have hi2 : i < n := by omega
    refine ⟨hw, step i K1 K2 hi2 (fun hp => k1 _ _ ⟨rfl, ?_⟩) fun hp => k2 _ ⟨rfl, ?_⟩⟩
    · rw [List.range_succ, List.filter_append, List.filter_cons_of_pos hp, List.map_append]; rfl
    · rw [List.range_succ, List.filter_append, List.filter_cons_of_neg (by rw [hp]; decide)]; simp
  · rintro acc S' ⟨rfl, rfl⟩
    rw [hlen]
    exact ⟨hw, done⟩
theorem wIsi_tup {l : List D} {S : Store} : ∃ ty b, TyS S (.tup l) ty ∧ kitB ty "tuple" = some b ∧ b = true := ⟨_, _, rfl, isi_tuple, rfl⟩
theorem pure_solvedD (sys : Sys) (many : Nat) : pureD (solvedD sys many) = true ∧ deepD (solvedD sys many) ≤ 64 := by
  unfold solvedD
  split
  · next i _ =>
    refine ⟨?_, ?_⟩
    · show (_ && (pureDs (rowD _) && _)) = true
      rw [pure_rowD]; decide +kernel
    · have h1 := deep_rowD (qs := paperQ (SA sys) (goE (SA sys) sys.length many) many sys.length i)
      show max 0 (max (deepDs (rowD _) + 1) 0) + 1 ≤ 64
      omega
  · refine ⟨?_, ?_⟩
    · show (_ && (pureDs (rowD _) && (pureDs (rowsD _) && _))) = true
      rw [pure_rowD, pure_rowsD]; decide +kernel
    · have h1 := deep_rowD (qs := solQ (SA sys) (goE (SA sys) sys.length many) many many 1)
      have h2 := deep_rowsD (rows := freeQ (SA sys) (goE (SA sys) sys.length many) many many)
      show max 0 (max (deepDs (rowD _) + 1) (max (deepDs (rowsD _) + 1) 0)) + 1 ≤ 64
      omega
theorem use_solved_tup {sys : Sys} {many a e B : Nat} {l : List D} {S : Store} {Q : D → Store → Prop} (f : SysF sys many a e B) (hl : l = sys.map fun p => D.tup [.tup (rowD p.1), dQ p.2]) (q : Q (solvedD sys many) S) : m_solved [.tup l, .int many] S Q := by
  subst hl
  refine use_solved (sl := sys.map fun (p : List Rat × Rat) => D.tup [.tup (rowD p.1), dQ p.2]) rfl ⟨by simp, fun i d p hd hp => ?_⟩ f.ok f.sz q
  rw [List.getElem?_map, hp] at hd
  cases hd
  exact ⟨_, rfl, rfl⟩
theorem eq_cell {neg : Bool} {f : Addr} {l : List D} {y : D} {S : Store} {Q : D → Store → Prop} (hf : S f = some (.lst l)) (hx : pureDs l = true) (dx : deepDs l ≤ 60) (hy : pureD y = true) (dy : deepD y ≤ 64) (hr : seen S y y) (h : ∀ b : Bool, (b = true ↔ D.lst l = y) → Q (.bl (nb neg b)) S) : oEqB neg (.ref f) y S Q :=
  ⟨.lst l, y, ⟨l, hf, rfl⟩, hr, okP_of hx (by show deepDs l + 1 ≤ 64; omega), okP_of hy dy, h _ (deq_pure (.lst l) y hx hy)⟩
theorem flat_one {n : Nat} : (List.replicate n [dQ 0]).flatten = rowD (List.replicate n 0) := by
  rw [← rowD_replicate]
  induction n with
  | zero => rfl
  | succ n ih => rw [List.replicate_succ, List.flatten_cons, ih, List.replicate_succ]; rfl

end ND
set_option Elab.async false
set_option linter.all false
set_option maxRecDepth 100000
namespace ND
open PySem PySem.Spec PyProof.Rows L2
/-! ### the store, but for what is new -/
def Dw (c : Nat) (p : Addr) (S0 S : Store) : Prop := DkAt c p S ∧ ∀ a u, a ≠ p → S0 a = some u → S a = some u
theorem Dw.refl {c : Nat} {p : Addr} {S : Store} (h : DkAt c p S) : Dw c p S S := ⟨h, fun _ _ _ e => e⟩
theorem Dw.dk {c c' : Nat} {p : Addr} {S0 S S' : Store} (h : Dw c p S0 S) (d : Dk c' p S S') : Dw c' p S0 S' := ⟨d.at, fun a u n e => by rw [d.get n]; exact h.2 a u n e⟩
theorem Dw.up {c c' : Nat} {p : Addr} {S0 S : Store} (h : Dw c p S0 S) (hc : c ≤ c') : Dw c' p S0 S := ⟨h.1.up hc, h.2⟩
theorem Dw.put {c : Nat} {p f : Addr} {S0 S : Store} {l : Cell} (h : Dw c p S0 S) (hf : f ≠ p) (n : S0 f = none) : Dw c p S0 (sput S f l) :=
  ⟨h.1.put hf, fun a u na e => by rw [sput_ne fun z => by rw [z, n] at e; cases e]; exact h.2 a u na e⟩
theorem Dw.new {c : Nat} {p f : Addr} {S0 S : Store} (h : Dw c p S0 S) (n : S f = none) : f ≠ p ∧ S0 f = none := by
  have hf : f ≠ p := h.1.ne n
  refine ⟨hf, ?_⟩
  cases e : S0 f with
  | none => rfl
  | some u => rw [h.2 f u hf e] at n; cases n
theorem Dw.end {c : Nat} {p : Addr} {S0 S : Store} (h : Dw c p S0 S) : ∃ S', Sub S' S ∧ Dk c p S0 S' := by
  obtain ⟨⟨cell, hc, e⟩, k⟩ := h
  refine ⟨sput S0 p cell, fun a u ea => ?_, cell, hc, rfl⟩
  by_cases hp : a = p
  · subst hp; rw [sput_same] at ea; rw [e]; exact ea
  · rw [sput_ne hp] at ea; exact k a u hp ea
theorem Dk.none {c : Nat} {p f : Addr} {S0 S' : Store} (h : Dk c p S0 S') (hf : f ≠ p) (n : S0 f = none) : S' f = none := by rw [h.get hf]; exact n

end ND
set_option Elab.async false
set_option linter.all false
set_option maxRecDepth 100000
namespace ND
open PySem PySem.Spec PyProof.Rows L2
def w_law_product (f1 : On) (f2 : On) : WS :=
  (wSeq (wSet 2 (wTup (wCons (wC (.int 0)) (wCons (wC (.int 1)) wNil))))
  (wSeq (forS (wZipI (wCons (wVar 0) (wCons (wVar 1) wNil))) (gT 2 (gConss (gN 3) (gConss (gN 4) gNils))) (wIfS (wAnd (wTst (w2 oNe (w2 oIx (wVar 3) (wC (.int 0))) (wC (.int 0)))) (wTst (w2 oNe (w2 oIx (wVar 4) (wC (.int 0))) (wC (.int 0))))) (wSet 2 (wCall f2 (wCons (wVar 2) (wCons (wCall f1 (wCons (wVar 3) (wCons (wVar 4) wNil))) wNil)))) wNext))
  (wRet (wVar 2))))
@[irreducible] def m_law_product : On := fun ds S Q => ∃ (x y : D) (as bs : List Rat) (n m N : Nat), ds = [x, y] ∧ SC S x (rowD as) ∧ SC S y (rowD bs) ∧ as.length = bs.length ∧ (∀ a ∈ as, bq n a) ∧ (∀ b ∈ bs, bq m b) ∧ (∀ i, bq N (dot (as.take i) (bs.take i))) ∧ n + m ≤ 900000 ∧ N + (n + m) ≤ 900000 ∧ Q (dQ (dot as bs)) S
theorem in_law_product {ds : List D} {S : Store} {Q : D → Store → Prop} (h : (fun ds S Q => ∃ (x y : D) (as bs : List Rat) (n m N : Nat), ds = [x, y] ∧ SC S x (rowD as) ∧ SC S y (rowD bs) ∧ as.length = bs.length ∧ (∀ a ∈ as, bq n a) ∧ (∀ b ∈ bs, bq m b) ∧ (∀ i, bq N (dot (as.take i) (bs.take i))) ∧ n + m ≤ 900000 ∧ N + (n + m) ≤ 900000 ∧ Q (dQ (dot as bs)) S : On) ds S Q) : m_law_product ds S Q := by unfold m_law_product; exact h
theorem l_law_product (ds : List D) (S : Store) (Q : D → Store → Prop) (h : m_law_product ds S Q) : ds.length = 2 := by unfold m_law_product at h; obtain ⟨_, _, _, _, _, _, _, rfl, _⟩ := h; rfl
theorem use_law_product' {x y : D} {as bs : List Rat} {n m N : Nat} {S : Store} {Q : D → Store → Prop} (hx : SC S x (rowD as)) (hy : SC S y (rowD bs)) (hl : as.length = bs.length) (ha : ∀ a ∈ as, bq n a) (hb : ∀ b ∈ bs, bq m b) (hN : ∀ i, bq N (dot (as.take i) (bs.take i)))
    (h : N + (n + m) ≤ 900000) (q : Q (dQ (dot as bs)) S) : m_law_product [x, y] S Q := by unfold m_law_product; exact ⟨x, y, as, bs, n, m, N, rfl, hx, hy, hl, ha, hb, hN, by omega, h, q⟩
theorem use_law_product {x y : D} {as bs : List Rat} {n m : Nat} {S : Store} {Q : D → Store → Prop} (hx : SC S x (rowD as)) (hy : SC S y (rowD bs)) (hl : as.length = bs.length) (ha : ∀ a ∈ as, bq n a) (hb : ∀ b ∈ bs, bq m b) (n0 : 0 < n) (m0 : 0 < m)
    (h : (n + m + 1) * (as.length + 1) ≤ 900000) (q : Q (dQ (dot as bs)) S) : m_law_product [x, y] S Q := by
  have e : (n + m + 1) * (as.length + 1) = (n + m + 1) * as.length + (n + m + 1) := Nat.mul_succ ..
  refine use_law_product' (N := (n + m + 1) * as.length + 1) hx hy hl ha hb (fun i => ?_) (by omega) q
  refine (bq_dot (as := as.take i) (bs := bs.take i) (fun a h => ha a (List.mem_of_mem_take h)) (fun b h => hb b (List.mem_of_mem_take h))).mono ?_
  have : (n + m + 1) * (as.take i).length ≤ (n + m + 1) * as.length := Nat.mul_le_mul_left _ (by rw [List.length_take]; omega)
  omega
theorem use_law_product_cq {x y : D} {as bs : List Rat} {d e V W a b a' b' l : Nat} {S : Store} {Q : D → Store → Prop} (hx : SC S x (rowD as)) (hy : SC S y (rowD bs)) (hl : as.length = bs.length) (d0 : 0 < d) (e0 : 0 < e) (h : ∀ q ∈ as, cq d V q) (k : ∀ q ∈ bs, cq e W q) (hd : d < 2 ^ a) (hv : V ≤ 2 ^ b) (he : e < 2 ^ a') (hw : W ≤ 2 ^ b') (hl2 : as.length ≤ 2 ^ l) (a0 : 0 < a) (a0' : 0 < a')
    (hs : 2 * a + 2 * a' + 2 * b + 2 * b' + l ≤ 900000) (q : Q (dQ (dot as bs)) S) : m_law_product [x, y] S Q :=
  use_law_product' (n := a + b) (m := a' + b') (N := a + a' + (l + b + b')) hx hy hl (fun q hq => cq_bits d0 (h q hq) hd hv a0) (fun q hq => cq_bits e0 (k q hq) he hw a0')
    (fun i => cq_dot_bits d0 e0 (fun q hq => h q (List.mem_of_mem_take hq)) (fun q hq => k q (List.mem_of_mem_take hq)) hd hv he hw (by rw [List.length_take]; omega)) (by omega) q
theorem v_law_product (ds : List D) (S : Store) (Q : D → Store → Prop) (h : m_law_product ds S Q) : w_law_product m_times m_plus (fin Q) (dst 5 ds) S := by
  unfold m_law_product at h
  obtain ⟨x, y, as, bs, n, m, N, rfl, hx, hy, hl, ha, hb, hN, hsz, hsN, q⟩ := h
  refine ⟨by show 2 ≤ sizeLine; decide, _, rfl, _, rfl, _, _, hx, hy, ?_⟩
  refine for_inv (fun i env S' => S' = S ∧ ∃ o3 o4 f, env = [some x, some y, some (dQ f), o3, o4] ∧ f = dot (as.take i) (bs.take i)) ⟨rfl, _, _, 0, rfl, by simp [dot]⟩ ?_ ?_
  · rintro i z env S' K hz ⟨rfl, o3, o4, f, rfl, hf⟩ hK
    obtain ⟨a, b, hae, hbe, rfl⟩ := zip_at hz
    have ba := ha a (List.mem_of_getElem? hae)
    have bb := hb b (List.mem_of_getElem? hbe)
    have hnew : dot (as.take (i + 1)) (bs.take (i + 1)) = dot (as.take i) (bs.take i) + a * b := by
      rw [List.take_add_one, List.take_add_one, hae, hbe]
      exact dot_snoc _ _ _ _ (by simp [hl])
    have zero : a.num = 0 ∨ b.num = 0 → K [some x, some y, some (dQ f), some (dQ a), some (dQ b)] S' := fun hz => by
      refine hK _ _ ⟨rfl, _, _, f, rfl, ?_⟩
      have : a * b = 0 := by
        rcases hz with hz | hz
        · rw [Rat.num_eq_zero.mp hz, Rat.zero_mul]
        · rw [Rat.num_eq_zero.mp hz, Rat.mul_zero]
      rw [hf, hnew, this, Rat.add_zero]
    have hfb : bq N f := by rw [hf]; exact hN i
    refine ⟨⟨watch_same hx, watch_same hy⟩, _, rfl, rfl, _, rfl, _, _, rfl, rfl, ite_nn (fun h1 => ?_) (fun h1 => zero (.inl h1))⟩
    refine ⟨_, rfl, _, _, rfl, rfl, ite_nn (fun h2 => ?_) (fun h2 => zero (.inr h2))⟩
    refine ⟨_, rfl, _, rfl, _, rfl, use_times ba bb (by omega) (use_plus hfb (bq_mul ba bb) (by omega) (hK _ _ ⟨rfl, _, _, _, rfl, ?_⟩))⟩
    rw [hf, hnew]
  · rintro env S' ⟨rfl, o3, o4, f, rfl, hf⟩
    have len : (zipD (rowD as) (rowD bs)).length = as.length := by unfold zipD rowD; simp [hl]
    rw [len, List.take_length, hl, List.take_length] at hf
    subst hf
    exact ⟨⟨watch_same hx, watch_same hy⟩, _, rfl, q⟩
def w_law_added (f1 : On) (f2 : On) : WS :=
  (wRet (wCall oTuple (wCons (wLc (wZipI (wCons (wVar 0) (wCons (wVar 1) wNil))) (gT 2 (gConss (gN 3) (gConss (gN 4) gNils))) wYes (wCall f2 (wCons (wVar 3) (wCons (wCall f1 (wCons (wVar 2) (wCons (wVar 4) wNil))) wNil))) [3, 4]) wNil)))
@[irreducible] def m_law_added : On := fun ds S Q => ∃ (a b : List Rat) (c : Rat) (n m k : Nat), ds = [.tup (rowD a), .tup (rowD b), dQ c] ∧ (∀ q ∈ a, bq n q) ∧ (∀ q ∈ b, bq m q) ∧ bq k c ∧ n + (k + m) ≤ 900000 ∧ a.length ≤ 1000 ∧ Q (.tup (rowD (List.zipWith (fun x y => x + c * y) a b))) S
theorem in_law_added {ds : List D} {S : Store} {Q : D → Store → Prop} (h : (fun ds S Q => ∃ (a b : List Rat) (c : Rat) (n m k : Nat), ds = [.tup (rowD a), .tup (rowD b), dQ c] ∧ (∀ q ∈ a, bq n q) ∧ (∀ q ∈ b, bq m q) ∧ bq k c ∧ n + (k + m) ≤ 900000 ∧ a.length ≤ 1000 ∧ Q (.tup (rowD (List.zipWith (fun x y => x + c * y) a b))) S : On) ds S Q) : m_law_added ds S Q := by unfold m_law_added; exact h
theorem l_law_added (ds : List D) (S : Store) (Q : D → Store → Prop) (h : m_law_added ds S Q) : ds.length = 3 := by unfold m_law_added at h; obtain ⟨_, _, _, _, _, _, rfl, _⟩ := h; rfl
theorem v_law_added (ds : List D) (S : Store) (Q : D → Store → Prop) (h : m_law_added ds S Q) : w_law_added m_times m_plus (fin Q) (dst 5 ds) S := by
  unfold m_law_added at h
  obtain ⟨a, b, c, n, m, k, rfl, ha, hb, hc, hs, hl, q⟩ := h
  refine ⟨_, rfl, _, rfl, _, _, rfl, rfl, ?_, ?_⟩
  · have : (zipD (rowD a) (rowD b)).length = min a.length b.length := by unfold zipD rowD; simp
    rw [this]
    exact Nat.le_trans (Nat.min_le_left _ _) (Nat.le_trans hl (by decide))
  exact lc_zipQ (fun x y => x + c * y) ⟨trivial, trivial⟩ (fun x y K hx hy k' => ⟨_, rfl, rfl, _, rfl, _, rfl, _, rfl, use_times hc (hb y hy) (by omega) (use_plus (ha x hx) (bq_mul hc (hb y hy)) hs k')⟩) ⟨_, rfl, q⟩
def pairD (p : List Rat × Rat) : D := .tup [.tup (rowD p.1), dQ p.2]
/-! ### systems drawn -/
theorem small_cq {q : Rat} (h : bq 4 q) : cq 360360 15 q := by
  have h1 : q.num.natAbs < 16 := h.1
  have h2 : q.den < 16 := h.2
  have h3 := q.den_pos
  refine cq_up (cq_self q (V := 15) (by have := Nat.mul_le_mul_left 15 h3; omega)) ?_ (Nat.le_refl _)
  have : ∀ d : Nat, d < 16 → 0 < d → d ∣ 360360 := by decide
  exact this _ h2 h3
def kinQ (kinds : Int) (k : Nat) (q : Rat) : Prop := (kinds = 7 ∧ bq 40 q) ∨ (kinds < 7 ∧ cq (360360 * 2 ^ k) (15 * 3 ^ k) q)
theorem kinQ.up {kinds : Int} {k k' : Nat} {q : Rat} (h : kinQ kinds k q) (hk : k ≤ k') : kinQ kinds k' q := by
  rcases h with h | ⟨h, c⟩
  · exact .inl h
  · exact .inr ⟨h, cq_up c (Nat.mul_dvd_mul_left _ (Nat.pow_dvd_pow 2 hk)) (Nat.mul_le_mul_left _ (Nat.pow_le_pow_right (by decide) hk))⟩
theorem kinQ_draw {kinds : Int} {k : Nat} {q : Rat} (hk : kinds = 7 ∨ kinds ≤ 6) (h1 : bq 40 q) (h2 : kinds ≤ 6 → bq 4 q) : kinQ kinds k q := by
  rcases hk with h | h
  · exact .inl ⟨h, h1⟩
  · exact .inr ⟨by omega, cq_up (small_cq (h2 h)) (Nat.dvd_mul_right _ _) (Nat.le_mul_of_pos_right _ (Nat.pow_pos (by decide)))⟩
theorem kinQ_zero {kinds : Int} {k : Nat} (hk : kinds = 7 ∨ kinds ≤ 6) : kinQ kinds k 0 := by
  rcases hk with h | h
  · exact .inl ⟨h, bq_zero.mono (by decide)⟩
  · exact .inr ⟨by omega, cq_zero⟩
/-- a system as the law draws it -/
structure SysK (sys : Sys) (many : Nat) (kinds : Int) : Prop where
  wid : ∀ p ∈ sys, p.1.length = many
  kin : (kinds = 7 ∧ ∀ p ∈ sys, (∀ q ∈ p.1, bq 40 q) ∧ bq 40 p.2) ∨ (kinds < 7 ∧ ∀ p ∈ sys, (∀ q ∈ p.1, cq (360360 * 2 ^ 12) (15 * 3 ^ 12) q) ∧ cq (360360 * 2 ^ 12 * 360360) (12 * (15 * 3 ^ 12 * 15) + 15) p.2)
theorem kin12 {q : Rat} (h : cq (360360 * 2 ^ 12) (15 * 3 ^ 12) q) : bq 60 q := cq_bq (by decide) h (by decide) (by decide)
def w_law_system (f1 : On) (f2 : On) (f3 : On) (f4 : On) (f5 : On) (f6 : On) : WS :=
  (wSeq (wSet 4 (wLstM wNil))
  (wSeq (forS (wRng1 (wVar 2)) (gN 5) (wSeq (wSet 6 (wCall oTuple (wCons (wLc (wRng1 (wVar 1)) (gN 12) wYes (wCall f1 (wCons (wVar 0) (wCons (wVar 3) wNil))) [12]) wNil)))
  (wSeq (wSet 7 (wCall f2 (wCons (wVar 0) (wCons (wC (.int 4)) wNil))))
  (wSeq (wIfS (wAnd (wTst (w2 oLt (wVar 3) (wC (.int 7)))) (wAnd (wTst (w2 oGt (wVar 5) (wC (.int 1)))) (wTst (w2 oEq (wVar 7) (wC (.int 1)))))) (wSeq (wSet 8 (wTup (wCons (w2 oSub (wCall f2 (wCons (wVar 0) (wCons (wC (.int 5)) wNil))) (wC (.int 2))) (wCons (w2 oAdd (wC (.int 1)) (wCall f2 (wCons (wVar 0) (wCons (wC (.int 2)) wNil)))) wNil))))
  (wSet 6 (wCall f4 (wCons (w2 oIx (wVar 4) (wCall f2 (wCons (wVar 0) (wCons (wVar 5) wNil)))) (wCons (w2 oIx (wVar 4) (wCall f2 (wCons (wVar 0) (wCons (wVar 5) wNil)))) (wCons (wCall f3 (wCons (w2 oIx (wVar 8) (wC (.int 0))) (wCons (w2 oIx (wVar 8) (wC (.int 1))) wNil))) wNil)))))) wNext)
  (wSeq (wIfS (wAnd (wTst (w2 oGt (wVar 5) (wC (.int 0)))) (wTst (w2 oEq (wVar 7) (wC (.int 2))))) (wSet 6 (w2 oIx (wVar 4) (wCall f2 (wCons (wVar 0) (wCons (wVar 5) wNil))))) wNext)
  (wDrop (wM oAppend (wVar 4) (wCons (wVar 6) wNil))))))))
  (wSeq (wIfS (wAnd (wTst (w2 oGt (wVar 1) (wC (.int 0)))) (wTst (w2 oEq (wCall f2 (wCons (wVar 0) (wCons (wC (.int 3)) wNil))) (wC (.int 1))))) (wSeq (wSet 9 (wCall f2 (wCons (wVar 0) (wCons (wVar 1) wNil))))
  (wSet 4 (wLcM (wSeqI (wVar 4)) (gN 6) wYes (w2 oAdd (w2 oAdd (wSl (wVar 6) wNoP (wP (wVar 9))) (wTup (wCons (wTup (wCons (wC (.int 0)) (wCons (wC (.int 1)) wNil))) wNil))) (wSl (wVar 6) (wP (w2 oAdd (wVar 9) (wC (.int 1)))) wNoP)) [6]))) wNext)
  (wSeq (wSet 7 (wCall f2 (wCons (wVar 0) (wCons (wC (.int 4)) wNil))))
  (wSeq (wIfS (wOr (wTst (w2 oEq (wVar 7) (wC (.int 0)))) (wTst (w2 oGt (wVar 3) (wC (.int 6))))) (wRet (wFz (wLc (wSeqI (wVar 4)) (gN 6) wYes (wTup (wCons (wVar 6) (wCons (wCall f1 (wCons (wVar 0) (wCons (wVar 3) wNil))) wNil))) [6]))) wNext)
  (wSeq (wSet 10 (wLc (wRng1 (wVar 1)) (gN 12) wYes (wCall f1 (wCons (wVar 0) (wCons (wVar 3) wNil))) [12]))
  (wSeq (wSet 11 (wLcM (wSeqI (wVar 4)) (gN 6) wYes (wTup (wCons (wVar 6) (wCons (wCall f5 (wCons (wVar 6) (wCons (wVar 10) wNil))) wNil))) [6]))
  (wSeq (wIfS (wAnd (wTst (w2 oEq (wVar 7) (wC (.int 1)))) (wTst (w2 oGt (wVar 2) (wC (.int 0))))) (wSeq (wSet 9 (wCall f2 (wCons (wVar 0) (wCons (wVar 2) wNil))))
  (wAsg (wTup (wCons (w2 oIx (wVar 4) (wVar 9)) (wCons (wCall f6 (wCons (w2 oIx (w2 oIx (wVar 11) (wVar 9)) (wC (.int 1))) (wCons (wTup (wCons (wC (.int 1)) (wCons (w2 oAdd (wC (.int 1)) (wCall f2 (wCons (wVar 0) (wCons (wC (.int 5)) wNil)))) wNil))) wNil))) wNil))) (gS (wVar 11) (wVar 9) oSet))) wNext)
  (wRet (wFz (wVar 11)))))))))))
@[irreducible] def m_law_system : On := fun ds S Q => ∃ (p : Addr) (many size : Nat) (kinds : Int) (c : Nat), ds = [.ref p, .int many, .int size, .int kinds] ∧ many ≤ 12 ∧ size ≤ 12 ∧ (kinds = 7 ∨ (0 < kinds ∧ kinds ≤ 6)) ∧ c < 2 ^ 38 ∧ DkAt c p S ∧
  ∀ sys S', sys.length = size → SysK sys many kinds → Dk (c + 5000) p S S' → Q (.lst (sys.map pairD)) S'
theorem in_law_system {ds : List D} {S : Store} {Q : D → Store → Prop} (h : (fun ds S Q => ∃ (p : Addr) (many size : Nat) (kinds : Int) (c : Nat), ds = [.ref p, .int many, .int size, .int kinds] ∧ many ≤ 12 ∧ size ≤ 12 ∧ (kinds = 7 ∨ (0 < kinds ∧ kinds ≤ 6)) ∧ c < 2 ^ 38 ∧ DkAt c p S ∧
  ∀ sys S', sys.length = size → SysK sys many kinds → Dk (c + 5000) p S S' → Q (.lst (sys.map pairD)) S' : On) ds S Q) : m_law_system ds S Q := by unfold m_law_system; exact h
theorem l_law_system (ds : List D) (S : Store) (Q : D → Store → Prop) (h : m_law_system ds S Q) : ds.length = 4 := by unfold m_law_system at h; obtain ⟨_, _, _, _, _, rfl, _⟩ := h; rfl
theorem rowsD_at {rows : List (List Rat)} {i : Nat} (h : i < rows.length) : atI (rowsD rows) ((i : Nat) : Int) = some (.tup (rowD rows[i])) := atI_nat (by unfold rowsD; simp [h])
theorem rowD_take {r : List Rat} {k : Nat} : (rowD r).take k = rowD (r.take k) := by unfold rowD; rw [List.map_take]
theorem rowD_drop {r : List Rat} {k : Nat} : (rowD r).drop k = rowD (r.drop k) := by unfold rowD; rw [List.map_drop]
theorem rowD_app {r s : List Rat} : rowD r ++ rowD s = rowD (r ++ s) := by unfold rowD; rw [List.map_append]
set_option maxHeartbeats 4000000 in
theorem v_law_system (ds : List D) (S : Store) (Q : D → Store → Prop) (h : m_law_system ds S Q) : w_law_system m_law_fraction m_law_next m_law_f m_law_added m_law_product m_plus (fin Q) (dst 13 ds) S := by
  unfold m_law_system at h
  obtain ⟨p, many, size, kinds, c, rfl, hm, hs, hk, hc, hS, q⟩ := h
  have hk2 : kinds = 7 ∨ kinds ≤ 6 := by omega
  have hkb : 0 < kinds ∧ kinds < 2 ^ 50 := by omega
  have small : ∀ x : Nat, x ≤ 1000 → Small62 (x : Int) := fun x hx => ⟨by omega, by omega⟩
  have hlen : (rngD 0 (many : Int)).length = many := by rw [rngD_len]; omega
  have hlens : (rngD 0 (size : Int)).length = size := by rw [rngD_len]; omega
  have line : ∀ x : Nat, x ≤ 1000 → x ≤ sizeLine := fun x hx => Nat.le_trans hx (by decide)
  have drawrow : ∀ (env : Slots) (S : Store) (c : Nat) (K : List D → Store → Prop) (k : Nat), env[0]? = some (some (.ref p)) → env[3]? = some (some (.int kinds)) → DkAt c p S → c < 2 ^ 39 - 1000 →
      (∀ qs S', qs.length = many → (∀ q ∈ qs, kinQ kinds k q ∧ (kinds ≤ 6 → bq 4 q)) → Dk (c + 9 * many) p S S' → K (rowD qs) S') →
      lcW (fun _ => True) (gN 12) wYes (wCall m_law_fraction (wCons (wVar 0) (wCons (wVar 3) wNil))) (wipeD env [12]) (rngD 0 (many : Int)) [] S K := by
    intro env S c K k h0 h3 hS hc kk
    refine lc_inv (fun i acc S' => ∃ qs : List Rat, acc = rowD qs ∧ qs.length = i ∧ i ≤ many ∧ (∀ q ∈ qs, kinQ kinds k q ∧ (kinds ≤ 6 → bq 4 q)) ∧ Dk (c + 9 * i) p S S') ⟨[], rfl, rfl, Nat.zero_le _, by simp, Dk.refl hS⟩ ?_ ?_
    · rintro i x acc S' K1 K2 hx ⟨qs, rfl, hl, hi, hq, d⟩ k1 k2
      have hi2 : i < many := by have := (List.getElem?_eq_some_iff.mp hx).1; omega
      refine ⟨trivial, (.ref p), by show ((env.set 12 none).set 12 (some x))[0]? = _; rw [List.getElem?_set_ne (by decide), List.getElem?_set_ne (by decide)]; exact h0, _, by show ((env.set 12 none).set 12 (some x))[3]? = _; rw [List.getElem?_set_ne (by decide), List.getElem?_set_ne (by decide)]; exact h3, ?_⟩
      refine use_draw d.at (by omega) hkb.1 hkb.2 fun r S2 b1 b2 d2 => k1 _ _ ⟨qs ++ [r], by unfold rowD; rw [List.map_append]; rfl, by simp [hl], hi2, fun y hy => ?_, (d.trans d2).up (by omega)⟩
      rcases List.mem_append.mp hy with h | h
      · exact hq y h
      · rw [List.mem_singleton.mp h]; exact ⟨kinQ_draw hk2 b1 b2, b2⟩
    · rintro acc S' ⟨qs, rfl, hl, hi, hq, d⟩
      rw [hlen] at hl d
      exact ⟨trivial, kk qs S' hl hq d⟩
  refine ⟨by show 0 ≤ sizeLine; decide, fun r hr => ⟨_, rfl, small _ (by omega), ?_⟩⟩
  have dw0 : Dw c p S (sput S r (.lst [])) := (Dw.refl hS).put (hS.ne hr) hr
  have hrp : r ≠ p := hS.ne hr
  refine for_inv (fun i env S' => i ≤ size ∧ (∃ o5 o6 o7 o8 o9 o10 o11 o12, env = [some (.ref p), some (.int many), some (.int size), some (.int kinds), some (.ref r), o5, o6, o7, o8, o9, o10, o11, o12]) ∧ Dw (c + 200 * i) p S S' ∧
      ∃ rows : List (List Rat), S' r = some (.lst (rowsD rows)) ∧ rows.length = i ∧ ∀ row ∈ rows, row.length = many ∧ ∀ q ∈ row, kinQ kinds i q) ⟨Nat.zero_le _, ⟨_, _, _, _, _, _, _, _, rfl⟩, dw0, [], sput_same, rfl, by simp⟩ ?_ ?_
  · rintro i x env S1 K hx ⟨hi, ⟨o5, o6, o7, o8, o9, o10, o11, o12, rfl⟩, dw1, rows, hR, hrl, hrows⟩ hK
    obtain ⟨rfl, hi2⟩ := rngD_get hx
    have hi3 : i < size := by omega
    rw [Int.zero_add]
    refine ⟨trivial, _, rfl, small _ (by omega), by rw [hlen]; exact line _ (by omega), ?_⟩
    refine drawrow _ S1 (c + 200 * i) _ i rfl rfl dw1.1 (by omega) fun row S2 hl hrow d2 => ⟨_, rfl, ?_⟩
    have dw2 := dw1.dk d2
    refine ⟨_, rfl, use_next dw2.1 (by omega) (by decide) (by decide) fun way S3 a0 a1 d3 => ?_⟩
    have dw3 := dw2.dk d3
    have hR3 : S3 r = some (.lst (rowsD rows)) := by rw [d3.get hrp, d2.get hrp]; exact hR
    -- behind the ifs
    have last : ∀ (row : List Rat) (o8 o12 : Option D) (S4 : Store), row.length = many → (∀ q ∈ row, kinQ kinds (i + 1) q) → S4 r = some (.lst (rowsD rows)) → Dw (c + 200 * (i + 1)) p S S4 →
        (wDrop (wM oAppend (wVar 4) (wCons (wVar 6) wNil))) ⟨K, (fin Q).rt⟩ [some (.ref p), some (.int many), some (.int size), some (.int kinds), some (.ref r), some (.int (i : Nat)), some (.tup (rowD row)), some (.int way), o8, o9, o10, o11, o12] S4 := by
      intro row o8 o12 S4 hl hq hR4 dw4
      refine ⟨_, rfl, ⟨_, hR4⟩, _, rfl, _, _, hR4, rfl, ?_, fun b hb => ?_⟩
      · rw [rowsD_len, hrl]; exact Nat.lt_of_lt_of_le (show i < 1000 by omega) (by decide)
      cases hb
      refine hK _ _ ⟨hi3, ⟨_, _, _, _, _, _, _, _, rfl⟩, dw4.put hrp hr, rows ++ [row], ?_, by simp [hrl], fun s hs => ?_⟩
      · rw [sput_same]; unfold rowsD; rw [List.map_append]; rfl
      · rcases List.mem_append.mp hs with h | h
        · exact ⟨(hrows s h).1, fun q hq => ((hrows s h).2 q hq).up (Nat.le_succ _)⟩
        · rw [List.mem_singleton.mp h]; exact ⟨hl, hq⟩
    have second : ∀ (row : List Rat) (o8 o12 : Option D) (S4 : Store), row.length = many → (∀ q ∈ row, kinQ kinds (i + 1) q) → S4 r = some (.lst (rowsD rows)) → Dw (c + 200 * i + 150) p S S4 →
        (wSeq (wIfS (wAnd (wTst (w2 oGt (wVar 5) (wC (.int 0)))) (wTst (w2 oEq (wVar 7) (wC (.int 2))))) (wSet 6 (w2 oIx (wVar 4) (wCall m_law_next (wCons (wVar 0) (wCons (wVar 5) wNil))))) wNext)
          (wDrop (wM oAppend (wVar 4) (wCons (wVar 6) wNil)))) ⟨K, (fin Q).rt⟩ [some (.ref p), some (.int many), some (.int size), some (.int kinds), some (.ref r), some (.int (i : Nat)), some (.tup (rowD row)), some (.int way), o8, o9, o10, o11, o12] S4 := by
      intro row o8 o12 S4 hl hq hR4 dw4
      refine ⟨_, rfl, ite_nf (fun h0 => ⟨_, rfl, ite_nf (fun h2 => ?_) (fun _ => last row o8 o12 S4 hl hq hR4 (dw4.up (by omega)))⟩) (fun _ => last row o8 o12 S4 hl hq hR4 (dw4.up (by omega)))⟩
      refine ⟨_, rfl, _, rfl, _, rfl, use_next dw4.1 (by omega) (by omega) (by omega) fun y S5 y0 y1 d5 => ?_⟩
      obtain ⟨j, rfl⟩ := Int.eq_ofNat_of_zero_le y0
      have hj : j < rows.length := by omega
      have hR5 : S5 r = some (.lst (rowsD rows)) := by rw [d5.get hrp]; exact hR4
      refine ⟨_, _, hR5, rowsD_at hj, ?_⟩
      have hm2 := hrows _ (List.getElem_mem hj)
      exact last _ o8 o12 S5 hm2.1 (fun q hq => (hm2.2 q hq).up (Nat.le_succ _)) hR5 ((dw4.dk d5).up (by omega))
    have up1 : ∀ q ∈ row, kinQ kinds (i + 1) q := fun q hq => (hrow q hq).1.up (Nat.le_succ _)
    refine ⟨_, rfl, ite_nf (fun h7 => ⟨_, rfl, ite_nf (fun h1 => ⟨_, rfl, ite_nf (fun hw => ?_) (fun _ => second row _ _ S3 hl up1 hR3 (dw3.up (by omega)))⟩) (fun _ => second row _ _ S3 hl up1 hR3 (dw3.up (by omega)))⟩) (fun _ => second row _ _ S3 hl up1 hR3 (dw3.up (by omega)))⟩
    refine ⟨_, rfl, use_next dw3.1 (by omega) (by decide) (by decide) fun u S4 u0 u1 d4 => ⟨_, rfl, use_next d4.at (by omega) (by decide) (by decide) fun v S5 v0 v1 d5 => ⟨by show 2 ≤ sizeLine; decide, ?_⟩⟩⟩
    have dw5 := (dw3.dk d4).dk d5
    refine ⟨_, rfl, _, rfl, _, rfl, use_next dw5.1 (by omega) (by omega) (by omega) fun y S6 y0 y1 d6 => ?_⟩
    have dw6 := dw5.dk d6
    obtain ⟨j, rfl⟩ := Int.eq_ofNat_of_zero_le y0
    have hj : j < rows.length := by omega
    have hR6 : S6 r = some (.lst (rowsD rows)) := by rw [d6.get hrp, d5.get hrp, d4.get hrp]; exact hR3
    refine ⟨_, _, hR6, rowsD_at hj, _, rfl, _, rfl, _, rfl, use_next dw6.1 (by omega) (by omega) (by omega) fun z S7 z0 z1 d7 => ?_⟩
    have dw7 := dw6.dk d7
    obtain ⟨l, rfl⟩ := Int.eq_ofNat_of_zero_le z0
    have hl2 : l < rows.length := by omega
    have hR7 : S7 r = some (.lst (rowsD rows)) := by rw [d7.get hrp]; exact hR6
    refine ⟨_, _, hR7, rowsD_at hl2, _, rfl, _, _, rfl, rfl, _, rfl, _, _, rfl, rfl, ?_⟩
    refine use_fraction (by omega) (gok_of (n := 40) (by omega) (by omega)) ?_
    have hmj := hrows _ (List.getElem_mem hj)
    have hml := hrows _ (List.getElem_mem hl2)
    have kj : ∀ q ∈ rows[j], cq (360360 * 2 ^ i) (15 * 3 ^ i) q := fun q hq => by
      rcases hmj.2 q hq with h | h
      · omega
      · exact h.2
    have kl : ∀ q ∈ rows[l], cq (360360 * 2 ^ i) (15 * 3 ^ i) q := fun q hq => by
      rcases hml.2 q hq with h | h
      · omega
      · exact h.2
    have hcc : cq 2 2 (Rat.divInt (u - 2) (1 + v)) := by
      have h1 := divInt_mul (a := u - 2) (b := 1 + v) (by omega)
      by_cases hv : v = 0
      · subst hv
        refine ⟨(u - 2) * 2, ?_, by omega⟩
        rw [Rat.intCast_mul, ← h1]
        show _ * (2 : Rat) = _ * (1 : Rat) * (2 : Rat)
        rw [Rat.mul_one]
      · have hv : v = 1 := by omega
        subst hv
        exact ⟨u - 2, h1, by omega⟩
    have hp12 : i ≤ 12 := by omega
    have big : ∀ q, cq (360360 * 2 ^ i) (15 * 3 ^ i) q → bq 60 q := fun q h => kin12 (cq_up h (Nat.mul_dvd_mul_left _ (Nat.pow_dvd_pow 2 hp12)) (Nat.mul_le_mul_left _ (Nat.pow_le_pow_right (by decide) hp12)))
    show m_law_added [.tup (rowD rows[j]), .tup (rowD rows[l]), dQ (Rat.divInt (u - 2) (1 + v))] _ _
    unfold m_law_added
    refine ⟨_, _, _, 60, 60, 4, rfl, fun q hq => big q (kj q hq), fun q hq => big q (kl q hq), bq_divInt (by omega) (by omega) (by omega), by decide, by rw [hmj.1]; omega, ?_⟩
    refine second _ _ _ S7 (by rw [List.length_zipWith, hmj.1, hml.1, Nat.min_self]) (fun q hq => ?_) hR7 (dw7.up (by omega))
    obtain ⟨a, b, ha, hb, rfl⟩ := mem_zip hq
    refine .inr ⟨h7, ?_⟩
    have e1 : 360360 * 2 ^ i * 2 = 360360 * 2 ^ (i + 1) := by rw [Nat.pow_succ, Nat.mul_assoc]
    have e2 : 15 * 3 ^ i + 15 * 3 ^ i * 2 = 15 * 3 ^ (i + 1) := by rw [Nat.pow_succ]; omega
    have h2 := cq_mul hcc (kl b hb)
    rw [Nat.mul_comm 2, Nat.mul_comm 2] at h2
    rw [← e2, ← e1]
    exact cq_add (cq_up (kj a ha) (Nat.dvd_mul_right _ _) (Nat.le_refl _)) h2
  · rintro env S1 ⟨hi, ⟨o5, o6, o7, o8, o9, o10, o11, o12, rfl⟩, dw1, rows, hR, hrl, hrows⟩
    rw [hlens] at hrl hrows dw1
    refine ⟨trivial, ?_⟩
    -- behind the columns of nought
    have rest : ∀ (rows : List (List Rat)) (r2 : Addr) (o5 o6 o7 o9 o12 : Option D) (S2 : Store), rows.length = size → (∀ row ∈ rows, row.length = many ∧ ∀ q ∈ row, kinQ kinds size q) → S2 r2 = some (.lst (rowsD rows)) → r2 ≠ p → S r2 = none → Dw (c + 3000) p S S2 → 
        (wSeq (wSet 7 (wCall m_law_next (wCons (wVar 0) (wCons (wC (.int 4)) wNil))))
  (wSeq (wIfS (wOr (wTst (w2 oEq (wVar 7) (wC (.int 0)))) (wTst (w2 oGt (wVar 3) (wC (.int 6))))) (wRet (wFz (wLc (wSeqI (wVar 4)) (gN 6) wYes (wTup (wCons (wVar 6) (wCons (wCall m_law_fraction (wCons (wVar 0) (wCons (wVar 3) wNil))) wNil))) [6]))) wNext)
  (wSeq (wSet 10 (wLc (wRng1 (wVar 1)) (gN 12) wYes (wCall m_law_fraction (wCons (wVar 0) (wCons (wVar 3) wNil))) [12]))
  (wSeq (wSet 11 (wLcM (wSeqI (wVar 4)) (gN 6) wYes (wTup (wCons (wVar 6) (wCons (wCall m_law_product (wCons (wVar 6) (wCons (wVar 10) wNil))) wNil))) [6]))
  (wSeq (wIfS (wAnd (wTst (w2 oEq (wVar 7) (wC (.int 1)))) (wTst (w2 oGt (wVar 2) (wC (.int 0))))) (wSeq (wSet 9 (wCall m_law_next (wCons (wVar 0) (wCons (wVar 2) wNil))))
  (wAsg (wTup (wCons (w2 oIx (wVar 4) (wVar 9)) (wCons (wCall m_plus (wCons (w2 oIx (w2 oIx (wVar 11) (wVar 9)) (wC (.int 1))) (wCons (wTup (wCons (wC (.int 1)) (wCons (w2 oAdd (wC (.int 1)) (wCall m_law_next (wCons (wVar 0) (wCons (wC (.int 5)) wNil)))) wNil))) wNil))) wNil))) (gS (wVar 11) (wVar 9) oSet))) wNext)
  (wRet (wFz (wVar 11)))))))) (fin Q) [some (.ref p), some (.int many), some (.int size), some (.int kinds), some (.ref r2), o5, o6, o7, o8, o9, o10, o11, o12] S2 := by
      intro rows r2 o5 o6 o7 o9 o12 S2 hrl hrows hR hrp2 hrn dw2
      refine ⟨_, rfl, use_next dw2.1 (by omega) (by decide) (by decide) fun way S3 a0 a1 d3 => ?_⟩
      have dw3 := dw2.dk d3
      have hR3 : S3 r2 = some (.lst (rowsD rows)) := by rw [d3.get hrp2]; exact hR
      -- numbers drawn
      have drawn : (wRet (wFz (wLc (wSeqI (wVar 4)) (gN 6) wYes (wTup (wCons (wVar 6) (wCons (wCall m_law_fraction (wCons (wVar 0) (wCons (wVar 3) wNil))) wNil))) [6])) ) (fin Q) [some (.ref p), some (.int many), some (.int size), some (.int kinds), some (.ref r2), o5, o6, some (.int way), o8, o9, o10, o11, o12] S3 := by
        refine ⟨_, rfl, walkD_of (l := rowsD rows) hR3 ⟨by rw [rowsD_len, hrl]; exact line _ (by omega), ?_⟩⟩
        refine lc_inv (fun j acc S' => ∃ sys : Sys, acc = sys.map pairD ∧ sys.length = j ∧ (∀ x ∈ sys, x.1 ∈ rows ∧ kinQ kinds 0 x.2) ∧ Dk (c + 3001 + 9 * j) p S3 S') ⟨[], rfl, rfl, by simp, Dk.refl (dw3.1.up (by omega))⟩ ?_ ?_
        · rintro j x acc S4 K1 K2 hx ⟨sys, rfl, hsl, hsys, d4⟩ k1 k2
          obtain ⟨row, hrow, rfl⟩ := rowsD_get hx
          have hj : j < size := by have := (List.getElem?_eq_some_iff.mp hrow).1; omega
          have hR4 : S4 r2 = some (.lst (rowsD rows)) := by rw [d4.get hrp2]; exact hR3
          refine ⟨hR4, _, rfl, _, rfl, _, rfl, use_draw d4.at (by omega) hkb.1 hkb.2 fun y S5 b1 b2 d5 => ⟨by show 2 ≤ sizeLine; decide, k1 _ _ ⟨sys ++ [(row, y)], by rw [List.map_append]; rfl, by simp [hsl], fun x hx => ?_, (d4.trans d5).up (by omega)⟩⟩⟩
          rcases List.mem_append.mp hx with h | h
          · exact hsys x h
          · rw [List.mem_singleton.mp h]; exact ⟨List.mem_of_getElem? hrow, kinQ_draw hk2 b1 b2⟩
        · rintro acc S4 ⟨sys, rfl, hsl, hsys, d4⟩
          rw [rowsD_len, hrl] at hsl d4
          have hR4 : S4 r2 = some (.lst (rowsD rows)) := by rw [d4.get hrp2]; exact hR3
          obtain ⟨S5, sb, d5⟩ := (dw3.dk d4).end
          refine ⟨hR4, _, S5, sb, .same _, q sys S5 hsl ⟨fun x hx => (hrows _ (hsys x hx).1).1, ?_⟩ (d5.up (by omega))⟩
          rcases hk2 with h | h
          · refine .inl ⟨h, fun x hx => ⟨fun q hq => ?_, ?_⟩⟩
            · rcases (hrows _ (hsys x hx).1).2 q hq with h1 | h1
              · exact h1.2
              · omega
            · rcases (hsys x hx).2 with h1 | h1
              · exact h1.2
              · omega
          · refine .inr ⟨by omega, fun x hx => ⟨fun q hq => ?_, ?_⟩⟩
            · rcases (hrows _ (hsys x hx).1).2 q hq with h1 | h1
              · omega
              · exact cq_up h1.2 (Nat.mul_dvd_mul_left _ (Nat.pow_dvd_pow 2 hs)) (Nat.mul_le_mul_left _ (Nat.pow_le_pow_right (by decide) hs))
            · rcases (hsys x hx).2 with h1 | h1
              · omega
              · exact cq_up h1.2 (by decide) (by decide)
      refine ⟨_, rfl, ite_nf (fun _ => drawn) fun hw0 => ⟨_, rfl, ite_nf (fun _ => drawn) fun h6 => ?_⟩⟩
      have h6 : kinds < 7 := by omega
      refine ⟨_, rfl, small _ (by omega), by rw [hlen]; exact line _ (by omega), ?_⟩
      refine drawrow _ S3 (c + 3001) _ 0 rfl rfl (dw3.1.up (by omega)) (by omega) fun hid S4 hidl hhid d4 => ?_
      have dw4 := dw3.dk d4
      have hR4 : S4 r2 = some (.lst (rowsD rows)) := by rw [d4.get hrp2]; exact hR3
      have hh4 : ∀ q ∈ hid, bq 4 q := fun q hq => (hhid q hq).2 (by omega)
      have hrq : ∀ row ∈ rows, ∀ q ∈ row, cq (360360 * 2 ^ 12) (15 * 3 ^ 12) q := fun row hr q hq => by
        rcases (hrows _ hr).2 q hq with h1 | h1
        · omega
        · exact cq_up h1.2 (Nat.mul_dvd_mul_left _ (Nat.pow_dvd_pow 2 hs)) (Nat.mul_le_mul_left _ (Nat.pow_le_pow_right (by decide) hs))
      refine ⟨_, rfl, walkD_of (l := rowsD rows) hR4 ⟨by rw [rowsD_len, hrl]; exact line _ (by omega), ?_⟩⟩
      refine lc_mapA (fun r : List Rat => D.tup (rowD r)) pairD (fun r => (r, dot r hid)) rows hR4 (fun row K2 hrow k => ?_) ?_
      · refine ⟨_, rfl, _, rfl, _, rfl, ?_⟩
        have hrw := hrows row hrow
        refine use_law_product (as := row) (bs := hid) (n := 60) (m := 4) rfl rfl (by rw [hrw.1, hidl]) (fun q hq => kin12 (hrq row hrow q hq)) hh4 (by decide) (by decide) ?_ ⟨by show 2 ≤ sizeLine; decide, k⟩
        rw [hrw.1]
        have : 65 * (many + 1) ≤ 65 * 13 := Nat.mul_le_mul_left _ (by omega)
        omega
      intro t ht
      have htp := dw4.new ht
      have dw5 : Dw (c + 3001 + 9 * many) p S (sput S4 t (.lst ((rows.map fun r => (r, dot r hid)).map pairD))) := dw4.put htp.1 htp.2
      have hbase : ∀ x ∈ rows.map fun r => (r, dot r hid), x.1.length = many ∧ (∀ q ∈ x.1, cq (360360 * 2 ^ 12) (15 * 3 ^ 12) q) ∧ cq (360360 * 2 ^ 12 * 360360) (12 * (15 * 3 ^ 12 * 15)) x.2 := fun x hx => by
        obtain ⟨row, hrow, rfl⟩ := List.mem_map.mp hx
        refine ⟨(hrows _ hrow).1, hrq _ hrow, ?_⟩
        have := cq_dot (hrq _ hrow) fun q hq => small_cq (hh4 q hq)
        refine cq_up this (Nat.dvd_refl _) (Nat.mul_le_mul_right _ ?_)
        rw [(hrows _ hrow).1]; omega
      have finish : ∀ (sys : Sys) (o9 : Option D) (S6 : Store), S6 t = some (.lst (sys.map pairD)) → sys.length = size → (∀ x ∈ sys, x.1.length = many ∧ (∀ q ∈ x.1, cq (360360 * 2 ^ 12) (15 * 3 ^ 12) q) ∧ cq (360360 * 2 ^ 12 * 360360) (12 * (15 * 3 ^ 12 * 15) + 15) x.2) → Dw (c + 5000) p S S6 →
          (wRet (wFz (wVar 11))) (fin Q) [some (.ref p), some (.int many), some (.int size), some (.int kinds), some (.ref r2), o5, o6, some (.int way), o8, o9, some (.lst (rowD hid)), some (.ref t), o12] S6 := by
        intro sys o9 S6 hT hsl hsys dw6
        obtain ⟨S7, sb, d7⟩ := dw6.end
        exact ⟨_, rfl, _, S7, sb, .lst t _ hT (d7.none htp.1 htp.2), q sys S7 hsl ⟨fun x hx => (hsys x hx).1, .inr ⟨h6, fun x hx => (hsys x hx).2⟩⟩ d7⟩
      have plain : (wRet (wFz (wVar 11))) (fin Q) [some (.ref p), some (.int many), some (.int size), some (.int kinds), some (.ref r2), o5, o6, some (.int way), o8, o9, some (.lst (rowD hid)), some (.ref t), o12] (sput S4 t (.lst ((rows.map fun r => (r, dot r hid)).map pairD))) :=
        finish _ _ _ sput_same (by rw [List.length_map]; exact hrl) (fun x hx => ⟨(hbase x hx).1, (hbase x hx).2.1, cq_up (hbase x hx).2.2 (Nat.dvd_refl _) (by decide)⟩) (dw5.up (by omega))
      refine ⟨_, rfl, ite_nf (fun _ => ⟨_, rfl, ite_nf (fun hs0 => ?_) (fun _ => plain)⟩) (fun _ => plain)⟩
      refine ⟨_, rfl, _, rfl, use_next dw5.1 (by omega) (by omega) (by omega) fun y S6 y0 y1 d6 => ?_⟩
      have dw6 := dw5.dk d6
      obtain ⟨j, rfl⟩ := Int.eq_ofNat_of_zero_le y0
      have hj : j < rows.length := by omega
      have hjs : j < (rows.map fun r => (r, dot r hid)).length := by rw [List.length_map]; exact hj
      have htr : t ≠ r2 := fun e => by rw [e, hR4] at ht; cases ht
      have hR6 : S6 r2 = some (.lst (rowsD rows)) := by rw [d6.get hrp2, sput_ne fun e => htr e.symm]; exact hR4
      have hT6 : S6 t = some (.lst ((rows.map fun r => (r, dot r hid)).map pairD)) := by rw [d6.get htp.1, sput_same]
      refine ⟨_, rfl, _, rfl, _, _, hR6, rowsD_at hj, _, rfl, _, rfl, _, _, hT6, atI_nat (v := pairD (rows[j], dot rows[j] hid)) (by simp [hj]), _, _, rfl, rfl, ?_⟩
      refine ⟨_, rfl, use_next dw6.1 (by omega) (by decide) (by decide) fun z S7 z0 z1 d7 => ⟨by show 2 ≤ sizeLine; decide, ?_⟩⟩
      have dw7 := dw6.dk d7
      obtain ⟨l, rfl⟩ := Int.eq_ofNat_of_zero_le z0
      have hl5 : l < 5 := by omega
      have hT7 : S7 t = some (.lst ((rows.map fun r => (r, dot r hid)).map pairD)) := by rw [d7.get htp.1]; exact hT6
      have hfr : D.tup [.int 1, .int (1 + (l : Int))] = dQ (Rat.divInt 1 (1 + (l : Int))) := by
        rcases (show l = 0 ∨ l = 1 ∨ l = 2 ∨ l = 3 ∨ l = 4 by omega) with rfl | rfl | rfl | rfl | rfl <;> rfl
      have hb := hbase (rows[j], dot rows[j] hid) (List.mem_map.mpr ⟨_, List.getElem_mem hj, rfl⟩)
      have hb4 : bq 4 (Rat.divInt 1 (1 + (l : Int))) := bq_divInt (by omega) (by omega) (by omega)
      have hbn : bq 100 (dot rows[j] hid) := cq_bq (by decide) hb.2.2 (by decide) (by decide)
      rw [hfr]
      have hjl : ixN ((rows.map fun r => (r, dot r hid)).map pairD).length (j : Int) = some j := by
        unfold ixN
        rw [List.length_map, List.length_map, if_pos (by omega), if_pos (by omega)]
        rfl
      refine use_plus hbn hb4 (by decide) ⟨by show 2 ≤ sizeLine; decide, _, rfl, _, rfl, _, j, hT7, hjl, ?_⟩
      refine finish ((rows.map fun r => (r, dot r hid)).set j (rows[j], dot rows[j] hid + Rat.divInt 1 (1 + (l : Int)))) _ _ (by rw [sput_same, List.map_set]; rfl) (by rw [List.length_set, List.length_map]; exact hrl) (fun x hx => ?_) ((dw7.put htp.1 htp.2).up (by omega))
      rcases List.mem_or_eq_of_mem_set hx with h | rfl
      · exact ⟨(hbase x h).1, (hbase x h).2.1, cq_up (hbase x h).2.2 (Nat.dvd_refl _) (by decide)⟩
      · exact ⟨hb.1, hb.2.1, cq_add hb.2.2 (cq_up (small_cq hb4) (by decide) (Nat.le_refl _))⟩
    have hR1 : S1 r = some (.lst (rowsD rows)) := hR
    refine ⟨_, rfl, ite_nf (fun hm0 => ⟨_, rfl, use_next dw1.1 (by omega) (by decide) (by decide) fun y S2 y0 y1 d2 => ite_nf (fun h1 => ?_) (fun _ => rest rows r _ _ _ _ _ S2 hrl hrows (by rw [d2.get hrp]; exact hR) hrp hr ((dw1.dk d2).up (by omega)))⟩) (fun _ => rest rows r _ _ _ _ _ S1 hrl hrows hR hrp hr (dw1.up (by omega)))⟩
    have dw2 := dw1.dk d2
    have hR2 : S2 r = some (.lst (rowsD rows)) := by rw [d2.get hrp]; exact hR
    refine ⟨_, rfl, _, rfl, use_next dw2.1 (by omega) (by omega) (by omega) fun y S3 y0 y1 d3 => ?_⟩
    have dw3 := dw2.dk d3
    have hR3 : S3 r = some (.lst (rowsD rows)) := by rw [d3.get hrp]; exact hR2
    obtain ⟨j, rfl⟩ := Int.eq_ofNat_of_zero_le y0
    have hj : j < many := by omega
    refine ⟨_, rfl, walkD_of (l := rowsD rows) hR3 ⟨by rw [rowsD_len, hrl]; exact line _ (by omega), ?_⟩⟩
    refine lc_mapA (fun r : List Rat => D.tup (rowD r)) (fun r : List Rat => D.tup (rowD r)) (fun r => r.take j ++ [0] ++ r.drop (j + 1)) rows hR3 (fun row K2 hrow k => ?_) ?_
    · have hw := (hrows row hrow).1
      refine ⟨_, rfl, _, rfl, ?_⟩
      have e1 : cutD (rowD row) none (some (j : Int)) = rowD (row.take j) := by rw [cut_to, rowD_take]
      have e2 : cutD (rowD row) (some ((j : Int) + 1)) none = rowD (row.drop (j + 1)) := by
        rw [← rowD_drop]
        exact cut_from (k := j + 1)
      dsimp only [oSl]
      rw [e1]
      refine ⟨by show 2 ≤ sizeLine; decide, by show 1 ≤ sizeLine; decide, ?_⟩
      refine ⟨by rw [rowD_len, List.length_take]; show _ + 1 ≤ sizeLine; have : sizeLine = 2 ^ 24 := rfl; omega, _, rfl, _, rfl, ?_⟩
      show oAdd (D.tup (rowD (row.take j) ++ [dQ 0])) (.tup (cutD (rowD row) (some ((j : Int) + 1)) none)) _ _
      rw [e2]
      have e3 : rowD (row.take j) ++ [dQ 0] ++ rowD (row.drop (j + 1)) = rowD (row.take j ++ [0] ++ row.drop (j + 1)) := by
        rw [← rowD_app, ← rowD_app]; rfl
      refine ⟨?_, ?_⟩
      · rw [List.length_append, rowD_len, rowD_len, List.length_take, List.length_drop]
        have : sizeLine = 2 ^ 24 := rfl
        show _ + 1 + _ ≤ _
        omega
      · rw [e3]; exact k
    intro t ht
    have htp := dw3.new ht
    refine rest _ t _ _ _ _ _ _ (by rw [List.length_map]; exact hrl) (fun row hrow => ?_) sput_same htp.1 htp.2 ((dw3.put htp.1 htp.2).up (by omega))
    obtain ⟨row0, h0, rfl⟩ := List.mem_map.mp hrow
    have hr0 := hrows row0 h0
    refine ⟨?_, fun q hq => ?_⟩
    · simp only [List.length_append, List.length_take, List.length_drop, List.length_singleton]
      omega
    · rcases List.mem_append.mp hq with h | h
      · rcases List.mem_append.mp h with h | h
        · exact hr0.2 q (List.mem_of_mem_take h)
        · rw [List.mem_singleton.mp h]; exact kinQ_zero hk2
      · exact hr0.2 q (List.mem_of_mem_drop h)

end ND
set_option Elab.async false
set_option linter.all false
set_option maxRecDepth 100000
namespace ND
open PySem PySem.Spec PyProof.Rows L2
/-! ### the second family's draws -/
def SeedC (c : Nat) (cell : Cell) : Prop := ∃ (n f k x : Int), cell = .lst [.int n, .int f, .int k, .int x] ∧ 0 ≤ n ∧ 0 ≤ k ∧ k ≤ c ∧ 0 ≤ x ∧ x < 2 ^ 31
def Sk (c : Nat) (p : Addr) (S S' : Store) : Prop := ∃ cell, SeedC c cell ∧ S' = sput S p cell
def SkAt (c : Nat) (p : Addr) (S : Store) : Prop := ∃ cell, SeedC c cell ∧ S p = some cell
theorem SeedC.up {c c' : Nat} {cell : Cell} (h : SeedC c cell) (hc : c ≤ c') : SeedC c' cell := by
  obtain ⟨n, f, k, x, e, h1, h2, h3, h4⟩ := h
  exact ⟨n, f, k, x, e, h1, h2, by omega, h4⟩
theorem SkAt.up {c c' : Nat} {p : Addr} {S : Store} (h : SkAt c p S) (hc : c ≤ c') : SkAt c' p S := by
  obtain ⟨cell, a, e⟩ := h
  exact ⟨cell, a.up hc, e⟩
theorem Sk.at {c : Nat} {p : Addr} {S S' : Store} (h : Sk c p S S') : SkAt c p S' := by
  obtain ⟨cell, a, rfl⟩ := h
  exact ⟨cell, a, sput_same⟩
theorem Sk.trans {c c' : Nat} {p : Addr} {S S1 S2 : Store} (h : Sk c p S S1) (h' : Sk c' p S1 S2) : Sk c' p S S2 := by
  obtain ⟨u, _, rfl⟩ := h
  obtain ⟨v, b, rfl⟩ := h'
  exact ⟨v, b, sput_sput⟩
theorem Sk.up {c c' : Nat} {p : Addr} {S S1 : Store} (h : Sk c p S S1) (hc : c ≤ c') : Sk c' p S S1 := by
  obtain ⟨u, a, e⟩ := h
  exact ⟨u, a.up hc, e⟩
theorem Sk.refl {c : Nat} {p : Addr} {S : Store} (h : SkAt c p S) : Sk c p S S := by
  obtain ⟨cell, a, e⟩ := h
  refine ⟨cell, a, ?_⟩
  funext b
  unfold sput
  split
  · next hb => rw [hb, e]
  · rfl
theorem Sk.get {c : Nat} {p a : Addr} {S S' : Store} (h : Sk c p S S') (ha : a ≠ p) : S' a = S a := by
  obtain ⟨cell, _, rfl⟩ := h
  exact sput_ne ha
theorem SkAt.ne {c : Nat} {p f : Addr} {S : Store} (h : SkAt c p S) (n : S f = none) : f ≠ p := fun e => by
  obtain ⟨cell, _, e2⟩ := h
  rw [e, e2] at n
  cases n
theorem SkAt.put {c : Nat} {p f : Addr} {S : Store} {l : Cell} (h : SkAt c p S) (hf : f ≠ p) : SkAt c p (sput S f l) := by
  obtain ⟨cell, a, e⟩ := h
  exact ⟨cell, a, by rw [sput_ne fun z => hf z.symm]; exact e⟩
theorem Sk.none {c : Nat} {p f : Addr} {S0 S' : Store} (h : Sk c p S0 S') (hf : f ≠ p) (n : S0 f = none) : S' f = none := by rw [h.get hf]; exact n
/-- the store but for what is new -/
def Sw (c : Nat) (p : Addr) (S0 S : Store) : Prop := SkAt c p S ∧ ∀ a u, a ≠ p → S0 a = some u → S a = some u
theorem Sw.refl {c : Nat} {p : Addr} {S : Store} (h : SkAt c p S) : Sw c p S S := ⟨h, fun _ _ _ e => e⟩
theorem Sw.sk {c c' : Nat} {p : Addr} {S0 S S' : Store} (h : Sw c p S0 S) (d : Sk c' p S S') : Sw c' p S0 S' := ⟨d.at, fun a u n e => by rw [d.get n]; exact h.2 a u n e⟩
theorem Sw.trans {c c' : Nat} {p : Addr} {S0 S S' : Store} (h : Sw c p S0 S) (d : Sw c' p S S') : Sw c' p S0 S' := ⟨d.1, fun a u n e => d.2 a u n (h.2 a u n e)⟩
theorem Sw.up {c c' : Nat} {p : Addr} {S0 S : Store} (h : Sw c p S0 S) (hc : c ≤ c') : Sw c' p S0 S := ⟨h.1.up hc, h.2⟩
theorem Sw.put {c : Nat} {p f : Addr} {S0 S : Store} {l : Cell} (h : Sw c p S0 S) (hf : f ≠ p) (n : S0 f = none) : Sw c p S0 (sput S f l) :=
  ⟨h.1.put hf, fun a u na e => by rw [sput_ne fun z => by rw [z, n] at e; cases e]; exact h.2 a u na e⟩
theorem Sw.new {c : Nat} {p f : Addr} {S0 S : Store} (h : Sw c p S0 S) (n : S f = none) : f ≠ p ∧ S0 f = none := by
  have hf : f ≠ p := h.1.ne n
  refine ⟨hf, ?_⟩
  cases e : S0 f with
  | none => rfl
  | some u => rw [h.2 f u hf e] at n; cases n
theorem Sw.end {c : Nat} {p : Addr} {S0 S : Store} (h : Sw c p S0 S) : ∃ S', Sub S' S ∧ Sk c p S0 S' := by
  obtain ⟨⟨cell, hc, e⟩, k⟩ := h
  refine ⟨sput S0 p cell, fun a u ea => ?_, cell, hc, rfl⟩
  by_cases hp : a = p
  · subst hp; rw [sput_same] at ea; rw [e]; exact ea
  · rw [sput_ne hp] at ea; exact k a u hp ea
def w_s_seed : WS :=
  (wSeq (wSet 1 (wCall (oTwo max2) (wCons (wVar 0) (wCons (w2 oSub (wC (.int 0)) (wVar 0)) wNil))))
  (wRet (wLstM (wCons (wVar 1) (wCons (wCall oInt (wCons (w2 oGe (wVar 1) (w2 oPow (wC (.int 10)) (wC (.int 18)))) wNil)) (wCons (wC (.int 0)) (wCons (w2 oMod (wVar 0) (wC (.int 1999999913))) wNil)))))))
@[irreducible] def m_s_seed : On := fun ds S Q => ∃ c : Int, ds = [.int c] ∧ ∀ p S', S p = none → Sk 0 p S S' → Q (.ref p) S'
theorem in_s_seed {ds : List D} {S : Store} {Q : D → Store → Prop} (h : (fun ds S Q => ∃ c : Int, ds = [.int c] ∧ ∀ p S', S p = none → Sk 0 p S S' → Q (.ref p) S' : On) ds S Q) : m_s_seed ds S Q := by unfold m_s_seed; exact h
theorem l_s_seed (ds : List D) (S : Store) (Q : D → Store → Prop) (h : m_s_seed ds S Q) : ds.length = 1 := by unfold m_s_seed at h; obtain ⟨_, rfl, _⟩ := h; rfl
theorem v_s_seed (ds : List D) (S : Store) (Q : D → Store → Prop) (h : m_s_seed ds S Q) : w_s_seed (fin Q) (dst 2 ds) S := by
  unfold m_s_seed at h
  obtain ⟨c, rfl, q⟩ := h
  have hb := fmod_bds (x := c) (n := 1999999913) (by decide)
  refine ⟨_, rfl, _, rfl, _, rfl, _, rfl, ⟨by decide, by decide, by decide⟩, _, rfl, (by decide : (1999999913 : Int) ≠ 0), by show 4 ≤ sizeLine; decide, fun p hp => q p _ hp ⟨_, ⟨_, _, 0, _, rfl, ?_, Int.le_refl _, by omega, hb.1, by omega⟩, rfl⟩⟩
  show 0 ≤ max2 c (0 - c)
  unfold max2
  split <;> omega
def w_s_draw : WS :=
  (wSeq (wAsg (w2 oAdd (w2 oIx (wVar 0) (wC (.int 2))) (wC (.int 1))) (gS (wVar 0) (wC (.int 2)) oSet))
  (wSeq (wIfS (wAnd (wTst (w2 oEq (w2 oIx (wVar 0) (wC (.int 1))) (wC (.int 1)))) (wTst (w2 oGt (w2 oIx (wVar 0) (wC (.int 0))) (wC (.int 0))))) (wSeq (wSet 2 (w2 oMod (w2 oIx (wVar 0) (wC (.int 0))) (wVar 1)))
  (wSeq (wAsg (w2 oFdiv (w2 oIx (wVar 0) (wC (.int 0))) (wVar 1)) (gS (wVar 0) (wC (.int 0)) oSet))
  (wRet (wVar 2)))) wNext)
  (wSeq (wSet 3 (w2 oMod (w2 oMul (w2 oAdd (w2 oAdd (w2 oIx (wVar 0) (wC (.int 3))) (w2 oMul (wC (.int 6997)) (w2 oIx (wVar 0) (wC (.int 2))))) (wC (.int 11))) (wC (.int 48271))) (wC (.int 2147483647))))
  (wSeq (wSet 3 (w2 oMod (w2 oMul (w2 oMod (w2 oMul (wVar 3) (wVar 3)) (wC (.int 2147483629))) (wC (.int 40692))) (wC (.int 2147483399))))
  (wRet (w2 oMod (w2 oFdiv (wVar 3) (wC (.int 7))) (wVar 1)))))))
@[irreducible] def m_s_draw : On := fun ds S Q => ∃ (p : Addr) (most : Int) (c : Nat), ds = [.ref p, .int most] ∧ 0 < most ∧ c < 2 ^ 50 ∧ SkAt c p S ∧ ∀ r S', 0 ≤ r → r < most → Sk (c + 1) p S S' → Q (.int r) S'
theorem in_s_draw {ds : List D} {S : Store} {Q : D → Store → Prop} (h : (fun ds S Q => ∃ (p : Addr) (most : Int) (c : Nat), ds = [.ref p, .int most] ∧ 0 < most ∧ c < 2 ^ 50 ∧ SkAt c p S ∧ ∀ r S', 0 ≤ r → r < most → Sk (c + 1) p S S' → Q (.int r) S' : On) ds S Q) : m_s_draw ds S Q := by unfold m_s_draw; exact h
theorem l_s_draw (ds : List D) (S : Store) (Q : D → Store → Prop) (h : m_s_draw ds S Q) : ds.length = 2 := by unfold m_s_draw at h; obtain ⟨_, _, _, rfl, _⟩ := h; rfl
theorem use_sdraw {p : Addr} {most : Int} {c : Nat} {S : Store} {Q : D → Store → Prop} (h : SkAt c p S) (hc : c < 2 ^ 50) (hm : 0 < most) (k : ∀ r S', 0 ≤ r → r < most → Sk (c + 1) p S S' → Q (.int r) S') : m_s_draw [.ref p, .int most] S Q := by
  unfold m_s_draw; exact ⟨p, most, c, rfl, hm, hc, h, k⟩
theorem v_s_draw (ds : List D) (S : Store) (Q : D → Store → Prop) (h : m_s_draw ds S Q) : w_s_draw (fin Q) (dst 4 ds) S := by
  unfold m_s_draw at h
  obtain ⟨p, most, c, rfl, hm, hc, ⟨_, ⟨n, f, k, x, rfl, hn, hk0, hk, hx0, hx⟩, hS⟩, q⟩ := h
  refine ⟨_, rfl, _, _, hS, rfl, _, rfl, _, 2, hS, rfl, ?_⟩
  generalize hT : sput S p (.lst ([D.int n, .int f, .int k, .int x].set 2 (.int (k + 1)))) = T
  have hTp : T p = some (.lst [.int n, .int f, .int (k + 1), .int x]) := by rw [← hT]; exact sput_same
  have done : ∀ r n', 0 ≤ n' → 0 ≤ r → r < most → Q (.int r) (sput T p (.lst [.int n', .int f, .int (k + 1), .int x])) := fun r n' h0 h1 h2 => by
    rw [← hT, sput_sput]
    exact q r _ h1 h2 ⟨_, ⟨n', f, k + 1, x, rfl, h0, by omega, by omega, hx0, hx⟩, rfl⟩
  have same : ∀ r, 0 ≤ r → r < most → Q (.int r) T := fun r h1 h2 => q r T h1 h2 ⟨_, ⟨n, f, k + 1, x, rfl, hn, by omega, by omega, hx0, hx⟩, hT.symm⟩
  have fm : ∀ (x : Int), 0 ≤ x.fmod most ∧ x.fmod most < most := fun x => fmod_bds hm
  have rest : ∀ o2 o3, (wSeq (wSet 3 (w2 oMod (w2 oMul (w2 oAdd (w2 oAdd (w2 oIx (wVar 0) (wC (.int 3))) (w2 oMul (wC (.int 6997)) (w2 oIx (wVar 0) (wC (.int 2))))) (wC (.int 11))) (wC (.int 48271))) (wC (.int 2147483647))))
  (wSeq (wSet 3 (w2 oMod (w2 oMul (w2 oMod (w2 oMul (wVar 3) (wVar 3)) (wC (.int 2147483629))) (wC (.int 40692))) (wC (.int 2147483399))))
  (wRet (w2 oMod (w2 oFdiv (wVar 3) (wC (.int 7))) (wVar 1))))) (fin Q) [some (.ref p), some (.int most), o2, o3] T := by
    intro o2 o3
    have b1 := fmod_bds (x := (x + 6997 * (k + 1) + 11) * 48271) (n := 2147483647) (by decide)
    refine ⟨_, rfl, _, _, hTp, rfl, _, rfl, _, _, hTp, rfl, mulOk (a := 13) (b := 60) (by decide) (by omega), mulOk (a := 80) (b := 16) (by omega) (by decide), (by decide : (2147483647 : Int) ≠ 0), ?_⟩
    have b2 := fmod_bds (x := ((x + 6997 * (k + 1) + 11) * 48271).fmod 2147483647 * ((x + 6997 * (k + 1) + 11) * 48271).fmod 2147483647) (n := 2147483629) (by decide)
    refine ⟨_, rfl, _, rfl, mulOk (a := 31) (b := 31) (by omega) (by omega), (by decide : (2147483629 : Int) ≠ 0), mulOk (a := 31) (b := 16) (by omega) (by decide), (by decide : (2147483399 : Int) ≠ 0), ?_⟩
    refine ⟨_, rfl, (by decide : (7 : Int) ≠ 0), _, rfl, (by omega : most ≠ 0), ?_⟩
    exact same _ (fm _).1 (fm _).2
  refine ⟨_, rfl, _, _, hTp, rfl, ite_nf (fun h1 => ⟨_, rfl, _, _, hTp, rfl, ite_nf (fun h2 => ?_) (fun _ => rest _ _)⟩) (fun _ => rest _ _)⟩
  refine ⟨_, rfl, _, _, hTp, rfl, _, rfl, (by omega : most ≠ 0), _, rfl, _, _, hTp, rfl, _, rfl, (by omega : most ≠ 0), _, rfl, _, 0, hTp, rfl, _, rfl, ?_⟩
  refine done _ _ ?_ (fm _).1 (fm _).2
  rw [Int.fdiv_eq_ediv_of_nonneg _ (by omega)]
  exact Int.ediv_nonneg hn (by omega)
def w_s_fraction : WS :=
  (wSeq (wSet 2 (wCall (oTwo max2) (wCons (wVar 0) (wCons (w2 oSub (wC (.int 0)) (wVar 0)) wNil))))
  (wSeq (wSet 3 (wVar 1))
  (wSeq (whileS (wTst (w2 oGt (wVar 3) (wC (.int 0)))) (wPar 2 3 (wCons (wVar 3) (wCons (w2 oMod (wVar 2) (wVar 3)) wNil))))
  (wRet (wTup (wCons (w2 oFdiv (wVar 0) (wVar 2)) (wCons (w2 oFdiv (wVar 1) (wVar 2)) wNil)))))))
@[irreducible] def m_s_fraction : On := fun ds S Q => ∃ t b : Int, ds = [.int t, .int b] ∧ 0 < b ∧ Q (dQ (Rat.divInt t b)) S
theorem in_s_fraction {ds : List D} {S : Store} {Q : D → Store → Prop} (h : (fun ds S Q => ∃ t b : Int, ds = [.int t, .int b] ∧ 0 < b ∧ Q (dQ (Rat.divInt t b)) S : On) ds S Q) : m_s_fraction ds S Q := by unfold m_s_fraction; exact h
theorem l_s_fraction (ds : List D) (S : Store) (Q : D → Store → Prop) (h : m_s_fraction ds S Q) : ds.length = 2 := by unfold m_s_fraction at h; obtain ⟨_, _, rfl, _⟩ := h; rfl
theorem use_sfraction {t b : Int} {S : Store} {Q : D → Store → Prop} (hb : 0 < b) (k : Q (dQ (Rat.divInt t b)) S) : m_s_fraction [.int t, .int b] S Q := by unfold m_s_fraction; exact ⟨t, b, rfl, hb, k⟩
theorem v_s_fraction (ds : List D) (S : Store) (Q : D → Store → Prop) (h : m_s_fraction ds S Q) : w_s_fraction (fin Q) (dst 4 ds) S := by
  unfold m_s_fraction at h
  obtain ⟨t, b, rfl, hb, q⟩ := h
  have ha : max2 t (0 - t) = (t.natAbs : Int) := by unfold max2; split <;> omega
  have e0 : Int.gcd (t.natAbs : Int) b = Int.gcd t b := by simp [Int.gcd]
  refine ⟨_, rfl, _, rfl, _, rfl, ?_⟩
  refine ⟨fun m env S' => S' = S ∧ ∃ x y : Int, m = y.toNat ∧ env = [some (.int t), some (.int b), some (.int x), some (.int y)] ∧ 0 ≤ x ∧ 0 ≤ y ∧ Int.gcd x y = Int.gcd t b, ⟨_, rfl, _, _, rfl, rfl, by rw [ha]; omega, by omega, by rw [ha, e0]⟩, ?_⟩
  rintro m env S' ⟨rfl, x, y, rfl, rfl, hx, hy, e⟩
  refine ⟨_, rfl, ite_nf (fun c => ?_) (fun c => ?_)⟩
  · have e1 := fmod_bds (x := x) (n := y) c
    refine ⟨_, rfl, _, rfl, _, rfl, (by omega : y ≠ 0), _, (by omega : (x.fmod y).toNat < y.toNat), rfl, y, x.fmod y, rfl, rfl, hy, e1.1, ?_⟩
    rw [Int.fmod_eq_emod_of_nonneg _ hy, gcd_step hx hy, e]
  · have hy0 : y = 0 := by omega
    subst hy0
    have ex : x = (Int.gcd t b : Nat) := by rw [← e, Int.gcd_zero_right]; omega
    subst ex
    have hg : ((Int.gcd t b : Nat) : Int) ≠ 0 := by have := gcd_pos' (t := t) (b := b) (by omega); omega
    refine ⟨_, rfl, _, rfl, hg, _, rfl, _, rfl, hg, by show 2 ≤ sizeLine; decide, ?_⟩
    have e' : dQ (Rat.divInt t b) = D.tup [.int (t.fdiv (Int.gcd t b : Nat)), .int (b.fdiv (Int.gcd t b : Nat))] := by rw [frac_num hb rfl, frac_den hb rfl]; rfl
    show Q _ _
    rw [e'] at q
    exact q

end ND
set_option Elab.async false
set_option linter.all false
set_option maxRecDepth 100000
namespace ND
open PySem PySem.Spec PyProof.Rows L2
/-! ### the second family's reckoning -/
def w_s_plus (f1 : On) : WS :=
  (wRet (wCall f1 (wCons (w2 oAdd (w2 oMul (w2 oIx (wVar 0) (wC (.int 0))) (w2 oIx (wVar 1) (wC (.int 1)))) (w2 oMul (w2 oIx (wVar 1) (wC (.int 0))) (w2 oIx (wVar 0) (wC (.int 1))))) (wCons (w2 oMul (w2 oIx (wVar 0) (wC (.int 1))) (w2 oIx (wVar 1) (wC (.int 1)))) wNil))))
abbrev m_s_plus : On := m_plus
theorem l_s_plus (ds : List D) (S : Store) (Q : D → Store → Prop) (h : m_s_plus ds S Q) : ds.length = 2 := l_plus ds S Q h
theorem den_pos2 (a b : Rat) : 0 < ((a.den : Nat) : Int) * ((b.den : Nat) : Int) := Int.mul_pos (by have := a.den_pos; omega) (by have := b.den_pos; omega)
theorem v_s_plus (ds : List D) (S : Store) (Q : D → Store → Prop) (h : m_s_plus ds S Q) : w_s_plus m_s_fraction (fin Q) (dst 2 ds) S := by
  unfold m_s_plus m_plus at h
  obtain ⟨a, b, n, m, rfl, ha, hb, hnm, q⟩ := h
  have n0 := bq_pos ha
  have m0 := bq_pos hb
  refine ⟨_, rfl, _, _, rfl, rfl, _, rfl, _, _, rfl, rfl, mulOk ha.1 (den_abs hb) n0 m0 (by omega), _, rfl, _, _, rfl, rfl, _, rfl, _, _, rfl, rfl, mulOk hb.1 (den_abs ha) m0 n0 (by omega), _, rfl, _, _, rfl, rfl, _, rfl, _, _, rfl, rfl, mulOk (den_abs ha) (den_abs hb) n0 m0 (by omega), ?_⟩
  refine use_sfraction (den_pos2 a b) ?_
  rw [← Int.natCast_mul, Rat.divInt_ofNat, ← Rat.add_def']
  exact q
def w_s_times (f1 : On) : WS :=
  (wRet (wCall f1 (wCons (w2 oMul (w2 oIx (wVar 0) (wC (.int 0))) (w2 oIx (wVar 1) (wC (.int 0)))) (wCons (w2 oMul (w2 oIx (wVar 0) (wC (.int 1))) (w2 oIx (wVar 1) (wC (.int 1)))) wNil))))
abbrev m_s_times : On := m_times
theorem l_s_times (ds : List D) (S : Store) (Q : D → Store → Prop) (h : m_s_times ds S Q) : ds.length = 2 := l_times ds S Q h
theorem v_s_times (ds : List D) (S : Store) (Q : D → Store → Prop) (h : m_s_times ds S Q) : w_s_times m_s_fraction (fin Q) (dst 2 ds) S := by
  unfold m_s_times m_times at h
  obtain ⟨a, b, n, m, rfl, ha, hb, hnm, q⟩ := h
  have n0 := bq_pos ha
  have m0 := bq_pos hb
  refine ⟨_, rfl, _, _, rfl, rfl, _, rfl, _, _, rfl, rfl, mulOk ha.1 hb.1 n0 m0 (by omega), _, rfl, _, _, rfl, rfl, _, rfl, _, _, rfl, rfl, mulOk (den_abs ha) (den_abs hb) n0 m0 (by omega), ?_⟩
  refine use_sfraction (den_pos2 a b) ?_
  rw [← Int.natCast_mul, Rat.divInt_ofNat, ← Rat.mul_def']
  exact q
def w_s_less (f1 : On) : WS :=
  (wRet (wCall f1 (wCons (wVar 0) (wCons (wTup (wCons (w2 oSub (wC (.int 0)) (w2 oIx (wVar 1) (wC (.int 0)))) (wCons (w2 oIx (wVar 1) (wC (.int 1))) wNil))) wNil))))
abbrev m_s_less : On := m_less
theorem l_s_less (ds : List D) (S : Store) (Q : D → Store → Prop) (h : m_s_less ds S Q) : ds.length = 2 := l_less ds S Q h
theorem v_s_less (ds : List D) (S : Store) (Q : D → Store → Prop) (h : m_s_less ds S Q) : w_s_less m_s_plus (fin Q) (dst 2 ds) S := by
  unfold m_s_less m_less at h
  obtain ⟨a, b, n, m, rfl, ha, hb, hnm, q⟩ := h
  refine ⟨_, rfl, _, rfl, _, _, rfl, rfl, _, rfl, _, _, rfl, rfl, by show 2 ≤ sizeLine; decide, ?_⟩
  show m_plus [dQ a, .tup [.int (0 - b.num), .int ((b.den : Nat) : Int)]] _ _
  rw [neg_dQ]
  refine use_plus ha (bq_neg hb) hnm ?_
  rw [← Rat.sub_eq_add_neg]
  exact q
def w_s_product (f1 : On) (f2 : On) : WS :=
  (wSeq (wSet 2 (wTup (wCons (wC (.int 0)) (wCons (wC (.int 1)) wNil))))
  (wSeq (forS (wZipI (wCons (wVar 0) (wCons (wVar 1) wNil))) (gT 2 (gConss (gN 3) (gConss (gN 4) gNils))) (wSet 2 (wCall f2 (wCons (wVar 2) (wCons (wCall f1 (wCons (wVar 3) (wCons (wVar 4) wNil))) wNil)))))
  (wRet (wVar 2))))
abbrev m_s_product : On := m_law_product
theorem l_s_product (ds : List D) (S : Store) (Q : D → Store → Prop) (h : m_s_product ds S Q) : ds.length = 2 := l_law_product ds S Q h
theorem v_s_product (ds : List D) (S : Store) (Q : D → Store → Prop) (h : m_s_product ds S Q) : w_s_product m_s_times m_s_plus (fin Q) (dst 5 ds) S := by
  unfold m_s_product m_law_product at h
  obtain ⟨x, y, as, bs, n, m, N, rfl, hx, hy, hl, ha, hb, hN, hsz, hsN, q⟩ := h
  refine ⟨by show 2 ≤ sizeLine; decide, _, rfl, _, rfl, _, _, hx, hy, ?_⟩
  refine for_inv (fun i env S' => S' = S ∧ ∃ o3 o4 f, env = [some x, some y, some (dQ f), o3, o4] ∧ f = dot (as.take i) (bs.take i)) ⟨rfl, _, _, 0, rfl, by simp [dot]⟩ ?_ ?_
  · rintro i z env S' K hz ⟨rfl, o3, o4, f, rfl, hf⟩ hK
    obtain ⟨a, b, hae, hbe, rfl⟩ := zip_at hz
    have ba := ha a (List.mem_of_getElem? hae)
    have bb := hb b (List.mem_of_getElem? hbe)
    have hnew : dot (as.take (i + 1)) (bs.take (i + 1)) = dot (as.take i) (bs.take i) + a * b := by
      rw [List.take_add_one, List.take_add_one, hae, hbe]
      exact dot_snoc _ _ _ _ (by simp [hl])
    have hfb : bq N f := by rw [hf]; exact hN i
    refine ⟨⟨watch_same hx, watch_same hy⟩, _, rfl, rfl, _, rfl, _, rfl, _, rfl, use_times ba bb (by omega) (use_plus hfb (bq_mul ba bb) (by omega) (hK _ _ ⟨rfl, _, _, _, rfl, ?_⟩))⟩
    rw [hf, hnew]
  · rintro env S' ⟨rfl, o3, o4, f, rfl, hf⟩
    have len : (zipD (rowD as) (rowD bs)).length = as.length := by unfold zipD rowD; simp [hl]
    rw [len, List.take_length, hl, List.take_length] at hf
    subst hf
    exact ⟨⟨watch_same hx, watch_same hy⟩, _, rfl, q⟩
def lcQ (c : Rat) (a b : List Rat) : List Rat := List.zipWith (fun x y => x + c * y) a b
theorem zip_lineQ {a b : List Rat} (h : a.length ≤ 1000) : (zipD (rowD a) (rowD b)).length ≤ sizeLine := by
  have : (zipD (rowD a) (rowD b)).length = min a.length b.length := by unfold zipD rowD; simp
  rw [this]
  exact Nat.le_trans (Nat.min_le_left _ _) (Nat.le_trans h (by decide))
def w_s_sum (f1 : On) (f2 : On) : WS :=
  (wRet (wCall oTuple (wCons (wLc (wZipI (wCons (wVar 0) (wCons (wVar 2) wNil))) (gT 2 (gConss (gN 3) (gConss (gN 4) gNils))) wYes (wCall f2 (wCons (wVar 3) (wCons (wCall f1 (wCons (wVar 1) (wCons (wVar 4) wNil))) wNil))) [3, 4]) wNil)))
@[irreducible] def m_s_sum : On := fun ds S Q => ∃ (x y : D) (a b : List Rat) (c : Rat) (n m k : Nat), ds = [x, dQ c, y] ∧ SC S x (rowD a) ∧ SC S y (rowD b) ∧ (∀ q ∈ a, bq n q) ∧ (∀ q ∈ b, bq m q) ∧ bq k c ∧ n + (k + m) ≤ 900000 ∧ a.length ≤ 1000 ∧ Q (.tup (rowD (lcQ c a b))) S
theorem in_s_sum {ds : List D} {S : Store} {Q : D → Store → Prop} (h : (fun ds S Q => ∃ (x y : D) (a b : List Rat) (c : Rat) (n m k : Nat), ds = [x, dQ c, y] ∧ SC S x (rowD a) ∧ SC S y (rowD b) ∧ (∀ q ∈ a, bq n q) ∧ (∀ q ∈ b, bq m q) ∧ bq k c ∧ n + (k + m) ≤ 900000 ∧ a.length ≤ 1000 ∧ Q (.tup (rowD (lcQ c a b))) S : On) ds S Q) : m_s_sum ds S Q := by unfold m_s_sum; exact h
theorem l_s_sum (ds : List D) (S : Store) (Q : D → Store → Prop) (h : m_s_sum ds S Q) : ds.length = 3 := by unfold m_s_sum at h; obtain ⟨_, _, _, _, _, _, _, _, rfl, _⟩ := h; rfl
theorem use_ssum {x y : D} {a b : List Rat} {c : Rat} {n m k : Nat} {S : Store} {Q : D → Store → Prop} (hx : SC S x (rowD a)) (hy : SC S y (rowD b)) (ha : ∀ q ∈ a, bq n q) (hb : ∀ q ∈ b, bq m q) (hc : bq k c) (h : n + (k + m) ≤ 900000) (hl : a.length ≤ 1000) (q : Q (.tup (rowD (lcQ c a b))) S) : m_s_sum [x, dQ c, y] S Q := by
  unfold m_s_sum; exact ⟨x, y, a, b, c, n, m, k, rfl, hx, hy, ha, hb, hc, h, hl, q⟩
theorem v_s_sum (ds : List D) (S : Store) (Q : D → Store → Prop) (h : m_s_sum ds S Q) : w_s_sum m_s_times m_s_plus (fin Q) (dst 5 ds) S := by
  unfold m_s_sum at h
  obtain ⟨x, y, a, b, c, n, m, k, rfl, hx, hy, ha, hb, hc, hs, hl, q⟩ := h
  refine ⟨_, rfl, _, rfl, _, _, hx, hy, zip_lineQ hl, ?_⟩
  exact lc_zipQ (fun x y => x + c * y) ⟨watch_same hx, watch_same hy⟩ (fun u v K hu hv k' => ⟨_, rfl, rfl, _, rfl, _, rfl, _, rfl, use_times hc (hb v hv) (by omega) (use_plus (ha u hu) (bq_mul hc (hb v hv)) hs k')⟩) ⟨_, rfl, q⟩
def w_s_is_number (f1 : On) : WS :=
  (wSeq (wIfS (wOr (wNot (wTst (wIsi "tuple" (wVar 0)))) (wTst (w2 oNe (wCall oLen (wCons (wVar 0) wNil)) (wC (.int 2))))) (wRet (wC (.bl false))) wNext)
  (wSeq (forS (wSeqI (wVar 0)) (gN 1) (wIfS (wOr (wNot (wTst (wIsi "int" (wVar 1)))) (wTst (wIsi "bool" (wVar 1)))) (wRet (wC (.bl false))) wNext))
  (wRet (wAndV (w2 oGt (w2 oIx (wVar 0) (wC (.int 1))) (wC (.int 0))) (w2 oEq (wCall f1 (wCons (w2 oIx (wVar 0) (wC (.int 0))) (wCons (w2 oIx (wVar 0) (wC (.int 1))) wNil))) (wVar 0))))))
@[irreducible] def m_s_is_number : On := fun ds S Q => ∃ q : Rat, ds = [dQ q] ∧ Q (.bl true) S
theorem in_s_is_number {ds : List D} {S : Store} {Q : D → Store → Prop} (h : (fun ds S Q => ∃ q : Rat, ds = [dQ q] ∧ Q (.bl true) S : On) ds S Q) : m_s_is_number ds S Q := by unfold m_s_is_number; exact h
theorem l_s_is_number (ds : List D) (S : Store) (Q : D → Store → Prop) (h : m_s_is_number ds S Q) : ds.length = 1 := by unfold m_s_is_number at h; obtain ⟨_, rfl, _⟩ := h; rfl
theorem v_s_is_number (ds : List D) (S : Store) (Q : D → Store → Prop) (h : m_s_is_number ds S Q) : w_s_is_number m_s_fraction (fin Q) (dst 2 ds) S := by
  unfold m_s_is_number at h
  obtain ⟨r, rfl, q⟩ := h
  refine ⟨_, rfl, _, _, rfl, isi_tuple, _, rfl, _, rfl, ?_⟩
  refine ⟨_, rfl, walkD_of rfl ?_⟩
  refine ⟨trivial, _, rfl, _, _, rfl, isi_int_int, _, rfl, _, _, rfl, isi_int_bool, ?_⟩
  refine ⟨trivial, _, rfl, _, _, rfl, isi_int_int, _, rfl, _, _, rfl, isi_int_bool, ?_⟩
  refine ⟨trivial, ?_⟩
  refine ⟨_, rfl, _, _, rfl, rfl, ?_⟩
  show if decide (0 < ((r.den : Nat) : Int)) = true then _ else _
  rw [decide_eq_true (by have := r.den_pos; omega)]
  refine ⟨_, rfl, _, _, rfl, rfl, _, rfl, _, _, rfl, rfl, use_sfraction (by have := r.den_pos; omega) ⟨_, rfl, ?_⟩⟩
  refine eq_dQ (a := Rat.divInt r.num r.den) (b := r) ?_
  rw [Rat.num_divInt_den, decide_eq_true rfl]
  exact q
def w_s_are_numbers (f1 : On) : WS :=
  (wSeq (wIfS (wOr (wNot (wTst (wIsi "tuple" (wVar 0)))) (wTst (w2 oNe (wCall oLen (wCons (wVar 0) wNil)) (wVar 1)))) (wRet (wC (.bl false))) wNext)
  (wRet (w2 oEq (wLc (wSeqI (wVar 0)) (gN 2) (wNot (wTst (wCall f1 (wCons (wVar 2) wNil)))) (wVar 2) [2]) (wLst wNil))))
@[irreducible] def m_s_are_numbers : On := fun ds S Q => ∃ (a : List Rat) (k : Int), ds = [.tup (rowD a), .int k] ∧ (a.length : Int) = k ∧ a.length ≤ 1000 ∧ Q (.bl true) S
theorem in_s_are_numbers {ds : List D} {S : Store} {Q : D → Store → Prop} (h : (fun ds S Q => ∃ (a : List Rat) (k : Int), ds = [.tup (rowD a), .int k] ∧ (a.length : Int) = k ∧ a.length ≤ 1000 ∧ Q (.bl true) S : On) ds S Q) : m_s_are_numbers ds S Q := by unfold m_s_are_numbers; exact h
theorem l_s_are_numbers (ds : List D) (S : Store) (Q : D → Store → Prop) (h : m_s_are_numbers ds S Q) : ds.length = 2 := by unfold m_s_are_numbers at h; obtain ⟨_, _, rfl, _⟩ := h; rfl
theorem use_snums {a : List Rat} {k : Int} {S : Store} {Q : D → Store → Prop} (hk : (a.length : Int) = k) (hl : a.length ≤ 1000) (q : Q (.bl true) S) : m_s_are_numbers [.tup (rowD a), .int k] S Q := by unfold m_s_are_numbers; exact ⟨a, k, rfl, hk, hl, q⟩
theorem v_s_are_numbers (ds : List D) (S : Store) (Q : D → Store → Prop) (h : m_s_are_numbers ds S Q) : w_s_are_numbers m_s_is_number (fin Q) (dst 3 ds) S := by
  unfold m_s_are_numbers at h
  obtain ⟨a, k, rfl, hk, hl, q⟩ := h
  refine ⟨_, rfl, _, _, rfl, isi_tuple, _, rfl, _, rfl, _, rfl, ?_⟩
  show if (!decide (((rowD a).length : Int) = k)) = true then _ else _
  rw [rowD_len, decide_eq_true hk]
  refine ⟨_, rfl, _, rfl, row_line' hl, ?_⟩
  refine lc_none trivial (fun x K hx k' => ?_) ⟨by decide, eq_nilL q⟩
  obtain ⟨z, hz, rfl⟩ := mem_rowD hx
  exact ⟨_, rfl, in_s_is_number ⟨z, rfl, k' _⟩⟩
def colOf (rows : List (List Rat)) (k : Nat) : List Rat := rows.map fun r => r.getD k 0
def w_s_column : WS :=
  (wRet (wCall oTuple (wCons (wLc (wSeqI (w2 oIx (wVar 0) (wC (.int 1)))) (gN 2) wYes (w2 oIx (wVar 2) (wVar 1)) [2]) wNil)))
@[irreducible] def m_s_column : On := fun ds S Q => ∃ (nm wd : D) (rows : List (List Rat)) (k : Nat), ds = [.tup [nm, .tup (rowsD rows), wd], .int k] ∧ (∀ r ∈ rows, k < r.length) ∧ rows.length ≤ 1000 ∧ Q (.tup (rowD (colOf rows k))) S
theorem in_s_column {ds : List D} {S : Store} {Q : D → Store → Prop} (h : (fun ds S Q => ∃ (nm wd : D) (rows : List (List Rat)) (k : Nat), ds = [.tup [nm, .tup (rowsD rows), wd], .int k] ∧ (∀ r ∈ rows, k < r.length) ∧ rows.length ≤ 1000 ∧ Q (.tup (rowD (colOf rows k))) S : On) ds S Q) : m_s_column ds S Q := by unfold m_s_column; exact h
theorem l_s_column (ds : List D) (S : Store) (Q : D → Store → Prop) (h : m_s_column ds S Q) : ds.length = 2 := by unfold m_s_column at h; obtain ⟨_, _, _, _, rfl, _⟩ := h; rfl
theorem row_at {r : List Rat} {k : Nat} (h : k < r.length) : atI (rowD r) (k : Int) = some (dQ (r.getD k 0)) := by
  rw [rowD_at h]
  simp [List.getD, h]
theorem rows_lineQ {a : List (List Rat)} (h : a.length ≤ 1000) : (rowsD a).length ≤ sizeLine := by rw [rowsD_len]; exact Nat.le_trans h (by decide)
theorem v_s_column (ds : List D) (S : Store) (Q : D → Store → Prop) (h : m_s_column ds S Q) : w_s_column (fin Q) (dst 3 ds) S := by
  unfold m_s_column at h
  obtain ⟨nm, wd, rows, k, rfl, hk, hl, q⟩ := h
  refine ⟨_, rfl, _, _, rfl, rfl, _, rfl, rows_lineQ hl, ?_⟩
  exact lc_rowsQ (fun r => r.getD k 0) trivial (fun r K hr k' => ⟨_, rfl, _, rfl, _, _, rfl, row_at (hk r hr), k'⟩) ⟨_, rfl, q⟩
def w_s_left (f1 : On) (f2 : On) : WS :=
  (wRet (wCall oTuple (wCons (wLc (wZipI (wCons (w2 oIx (wVar 0) (wC (.int 1))) (wCons (w2 oIx (wVar 0) (wC (.int 2))) wNil))) (gT 2 (gConss (gN 2) (gConss (gN 3) gNils))) wYes (wCall f2 (wCons (wVar 3) (wCons (wCall f1 (wCons (wVar 2) (wCons (wVar 1) wNil))) wNil))) [2, 3]) wNil)))
@[irreducible] def m_s_left : On := fun ds S Q => ∃ (nm : D) (rows : List (List Rat)) (wish w : List Rat) (n m k N : Nat), ds = [.tup [nm, .tup (rowsD rows), .tup (rowD wish)], .tup (rowD w)] ∧ (∀ r ∈ rows, r.length = w.length ∧ (∀ q ∈ r, bq n q) ∧ ∀ i, bq N (dot (r.take i) (w.take i))) ∧ (∀ q ∈ w, bq m q) ∧ (∀ q ∈ wish, bq k q) ∧ N + (n + m) ≤ 900000 ∧ k + N ≤ 900000 ∧ rows.length ≤ 1000 ∧ Q (.tup (rowD (leftQ rows wish w))) S
theorem in_s_left {ds : List D} {S : Store} {Q : D → Store → Prop} (h : (fun ds S Q => ∃ (nm : D) (rows : List (List Rat)) (wish w : List Rat) (n m k N : Nat), ds = [.tup [nm, .tup (rowsD rows), .tup (rowD wish)], .tup (rowD w)] ∧ (∀ r ∈ rows, r.length = w.length ∧ (∀ q ∈ r, bq n q) ∧ ∀ i, bq N (dot (r.take i) (w.take i))) ∧ (∀ q ∈ w, bq m q) ∧ (∀ q ∈ wish, bq k q) ∧ N + (n + m) ≤ 900000 ∧ k + N ≤ 900000 ∧ rows.length ≤ 1000 ∧ Q (.tup (rowD (leftQ rows wish w))) S : On) ds S Q) : m_s_left ds S Q := by unfold m_s_left; exact h
theorem l_s_left (ds : List D) (S : Store) (Q : D → Store → Prop) (h : m_s_left ds S Q) : ds.length = 2 := by unfold m_s_left at h; obtain ⟨_, _, _, _, _, _, _, _, rfl, _⟩ := h; rfl
theorem lc_zipRQ {wt : Store → Prop} {g : WG} {te : WE} {env : Slots} {rows : List (List Rat)} {wish : List Rat} {S : Store} {Q : List D → Store → Prop} (f : List Rat → Rat → Rat) (hw : wt S)
    (step : ∀ r z (K : D → Store → Prop), r ∈ rows → z ∈ wish → K (dQ (f r z)) S → g (.tup [.tup (rowD r), dQ z]) env S fun env1 S1 => te env1 S1 K)
    (done : Q (rowD (List.zipWith f rows wish)) S) : lcW wt g wYes te env (zipD (rowsD rows) (rowD wish)) [] S Q := by
  refine lc_inv (fun i acc S' => S' = S ∧ acc = rowD (List.zipWith f (rows.take i) (wish.take i))) ⟨rfl, by simp [rowD]⟩ ?_ ?_
  · rintro i x acc S' K1 K2 hx ⟨rfl, rfl⟩ k1 k2
    obtain ⟨r, z, hr, hz, rfl⟩ := zip_rows hx
    refine ⟨hw, step r z K1 (List.mem_of_getElem? hr) (List.mem_of_getElem? hz) (k1 _ _ ⟨rfl, ?_⟩)⟩
    have h1 : i < rows.length := (List.getElem?_eq_some_iff.mp hr).1
    have h2 : i < wish.length := (List.getElem?_eq_some_iff.mp hz).1
    rw [List.take_add_one, List.take_add_one, hr, hz]
    show rowD _ ++ [dQ _] = rowD (List.zipWith f (rows.take i ++ [r]) (wish.take i ++ [z]))
    rw [List.zipWith_append (by simp [Nat.min_eq_left (Nat.le_of_lt h1), Nat.min_eq_left (Nat.le_of_lt h2)])]
    unfold rowD
    rw [List.map_append]
    rfl
  · rintro acc S' ⟨rfl, rfl⟩
    rw [zip_rows_len]
    have : List.zipWith f (rows.take (min rows.length wish.length)) (wish.take (min rows.length wish.length)) = List.zipWith f rows wish := by
      rw [← List.take_zipWith, List.take_of_length_le (by simp)]
    rw [this]
    exact ⟨hw, done⟩
theorem v_s_left (ds : List D) (S : Store) (Q : D → Store → Prop) (h : m_s_left ds S Q) : w_s_left m_s_product m_s_less (fin Q) (dst 4 ds) S := by
  unfold m_s_left at h
  obtain ⟨nm, rows, wish, w, n, m, k, N, rfl, hr, hw, hk, h1, h2, hl, q⟩ := h
  refine ⟨_, rfl, _, _, rfl, rfl, _, rfl, _, _, rfl, rfl, _, _, rfl, rfl, by rw [zip_rows_len]; exact Nat.le_trans (Nat.min_le_left _ _) (Nat.le_trans hl (by decide)), ?_⟩
  refine lc_zipRQ (fun r z => z - dot r w) ⟨trivial, trivial⟩ (fun r z K hr' hz k' => ?_) ⟨_, rfl, q⟩
  obtain ⟨a1, a2, a3⟩ := hr r hr'
  have hN : bq N (dot r w) := by
    have := a3 r.length
    rwa [List.take_length, a1, List.take_length] at this
  exact ⟨_, rfl, rfl, _, rfl, _, rfl, _, rfl, use_law_product' (as := r) (bs := w) rfl rfl a1 a2 hw a3 h1 (use_less (hk z hz) hN h2 k')⟩

end ND
set_option Elab.async false
set_option linter.all false
set_option maxRecDepth 100000
namespace ND
open PySem PySem.Spec PyProof.Rows L2
/-! ### the piles: draws of the third family -/
/-- the pile: the cells, how many are begun, what is left of one, what was mixed, how often (c at most) -/
def PileC (c : Nat) (cell : Cell) : Prop := ∃ (d : D) (ns : List Int) (i left mixed count : Int), cell = .lst [d, .int i, .int left, .int mixed, .int count] ∧ (d = .lst (ns.map D.int) ∨ d = .kls (ns.map D.int)) ∧ 0 ≤ i ∧ i ≤ ns.length ∧ 0 ≤ left ∧ 0 ≤ mixed ∧ mixed < 2147483629 ∧ 0 ≤ count ∧ count ≤ c
theorem PileC.up {c c' : Nat} {cell : Cell} (h : PileC c cell) (hc : c ≤ c') : PileC c' cell := by
  obtain ⟨d, ns, i, left, mixed, count, e, h1, h2, h3, h4, h5, h6, h7, h8⟩ := h
  exact ⟨d, ns, i, left, mixed, count, e, h1, h2, h3, h4, h5, h6, h7, by omega⟩
def Pk (c : Nat) (p : Addr) (S S' : Store) : Prop := ∃ cell, PileC c cell ∧ S' = sput S p cell
def PkAt (c : Nat) (p : Addr) (S : Store) : Prop := ∃ cell, PileC c cell ∧ S p = some cell
theorem PkAt.up {c c' : Nat} {p : Addr} {S : Store} (h : PkAt c p S) (hc : c ≤ c') : PkAt c' p S := by
  obtain ⟨cell, a, e⟩ := h
  exact ⟨cell, a.up hc, e⟩
theorem Pk.at {c : Nat} {p : Addr} {S S' : Store} (h : Pk c p S S') : PkAt c p S' := by
  obtain ⟨cell, a, rfl⟩ := h
  exact ⟨cell, a, sput_same⟩
theorem Pk.trans {c c' : Nat} {p : Addr} {S S1 S2 : Store} (h : Pk c p S S1) (h' : Pk c' p S1 S2) : Pk c' p S S2 := by
  obtain ⟨u, _, rfl⟩ := h
  obtain ⟨v, b, rfl⟩ := h'
  exact ⟨v, b, sput_sput⟩
theorem Pk.up {c c' : Nat} {p : Addr} {S S1 : Store} (h : Pk c p S S1) (hc : c ≤ c') : Pk c' p S S1 := by
  obtain ⟨u, a, e⟩ := h
  exact ⟨u, a.up hc, e⟩
theorem Pk.refl {c : Nat} {p : Addr} {S : Store} (h : PkAt c p S) : Pk c p S S := by
  obtain ⟨cell, a, e⟩ := h
  refine ⟨cell, a, ?_⟩
  funext b
  unfold sput
  split
  · next hb => rw [hb, e]
  · rfl
theorem Pk.get {c : Nat} {p a : Addr} {S S' : Store} (h : Pk c p S S') (ha : a ≠ p) : S' a = S a := by
  obtain ⟨cell, _, rfl⟩ := h
  exact sput_ne ha
theorem PkAt.ne {c : Nat} {p f : Addr} {S : Store} (h : PkAt c p S) (n : S f = none) : f ≠ p := fun e => by
  obtain ⟨cell, _, e2⟩ := h
  rw [e, e2] at n
  cases n
theorem PkAt.put {c : Nat} {p f : Addr} {S : Store} {l : Cell} (h : PkAt c p S) (hf : f ≠ p) : PkAt c p (sput S f l) := by
  obtain ⟨cell, a, e⟩ := h
  exact ⟨cell, a, by rw [sput_ne fun z => hf z.symm]; exact e⟩
theorem Pk.none {c : Nat} {p f : Addr} {S0 S' : Store} (h : Pk c p S0 S') (hf : f ≠ p) (n : S0 f = none) : S' f = none := by rw [h.get hf]; exact n
/-- the store but for what is new -/
def Pw (c : Nat) (p : Addr) (S0 S : Store) : Prop := PkAt c p S ∧ ∀ a u, a ≠ p → S0 a = some u → S a = some u
theorem Pw.refl {c : Nat} {p : Addr} {S : Store} (h : PkAt c p S) : Pw c p S S := ⟨h, fun _ _ _ e => e⟩
theorem Pw.sk {c c' : Nat} {p : Addr} {S0 S S' : Store} (h : Pw c p S0 S) (d : Pk c' p S S') : Pw c' p S0 S' := ⟨d.at, fun a u n e => by rw [d.get n]; exact h.2 a u n e⟩
theorem Pw.trans {c c' : Nat} {p : Addr} {S0 S S' : Store} (h : Pw c p S0 S) (d : Pw c' p S S') : Pw c' p S0 S' := ⟨d.1, fun a u n e => d.2 a u n (h.2 a u n e)⟩
theorem Pw.up {c c' : Nat} {p : Addr} {S0 S : Store} (h : Pw c p S0 S) (hc : c ≤ c') : Pw c' p S0 S := ⟨h.1.up hc, h.2⟩
theorem Pw.put {c : Nat} {p f : Addr} {S0 S : Store} {l : Cell} (h : Pw c p S0 S) (hf : f ≠ p) (n : S0 f = none) : Pw c p S0 (sput S f l) :=
  ⟨h.1.put hf, fun a u na e => by rw [sput_ne fun z => by rw [z, n] at e; cases e]; exact h.2 a u na e⟩
theorem Pw.new {c : Nat} {p f : Addr} {S0 S : Store} (h : Pw c p S0 S) (n : S f = none) : f ≠ p ∧ S0 f = none := by
  have hf : f ≠ p := h.1.ne n
  refine ⟨hf, ?_⟩
  cases e : S0 f with
  | none => rfl
  | some u => rw [h.2 f u hf e] at n; cases n
theorem Pw.end {c : Nat} {p : Addr} {S0 S : Store} (h : Pw c p S0 S) : ∃ S', Sub S' S ∧ Pk c p S0 S' := by
  obtain ⟨⟨cell, hc, e⟩, k⟩ := h
  refine ⟨sput S0 p cell, fun a u ea => ?_, cell, hc, rfl⟩
  by_cases hp : a = p
  · subst hp; rw [sput_same] at ea; rw [e]; exact ea
  · rw [sput_ne hp] at ea; exact k a u hp ea
def IsQP (N : Nat) (d : D) : Prop := ∃ q, d = dQ q ∧ bq N q
def IsRP (N m : Nat) (d : D) : Prop := ∃ r : List Rat, d = .tup (rowD r) ∧ r.length = m ∧ ∀ q ∈ r, bq N q
theorem isQ_ofP {N : Nat} {qs : List Rat} (h : ∀ q ∈ qs, bq N q) : ∀ d ∈ rowD qs, IsQP N d := fun d hd => by
  obtain ⟨q, hq, rfl⟩ := List.mem_map.mp hd
  exact ⟨q, rfl, h q hq⟩
theorem isQ_rowP {N : Nat} : ∀ {l : List D}, (∀ d ∈ l, IsQP N d) → ∃ qs, l = rowD qs ∧ qs.length = l.length ∧ ∀ q ∈ qs, bq N q
  | [], _ => ⟨[], rfl, rfl, by simp⟩
  | d :: l, h => by
    obtain ⟨qs, e, el, hq⟩ := isQ_rowP fun x hx => h x (List.mem_cons_of_mem _ hx)
    obtain ⟨q, rfl, hb⟩ := h d List.mem_cons_self
    refine ⟨q :: qs, by rw [e]; rfl, by simp [el], fun y hy => ?_⟩
    rcases List.mem_cons.mp hy with rfl | hy
    · exact hb
    · exact hq y hy
theorem isR_rowsP {N m : Nat} : ∀ {l : List D}, (∀ d ∈ l, IsRP N m d) → ∃ rs, l = rowsD rs ∧ rs.length = l.length ∧ ∀ r ∈ rs, r.length = m ∧ ∀ q ∈ r, bq N q
  | [], _ => ⟨[], rfl, rfl, by simp⟩
  | d :: l, h => by
    obtain ⟨qs, e, el, hq⟩ := isR_rowsP fun x hx => h x (List.mem_cons_of_mem _ hx)
    obtain ⟨q, rfl, hb⟩ := h d List.mem_cons_self
    refine ⟨q :: qs, by rw [e]; rfl, by simp [el], fun y hy => ?_⟩
    rcases List.mem_cons.mp hy with rfl | hy
    · exact hb
    · exact hq y hy
theorem ixN_coP {n i : Nat} (h : i < n) : ixN n (i : Int) = some i := by
  unfold ixN
  rw [if_pos (by omega), if_pos (by omega)]
  rfl
structure LpT where
  f : Addr
  n : Nat
  ok : D → Prop
def LpT.at (x : LpT) (S : Store) : Prop := ∃ l, S x.f = some (.lst l) ∧ l.length = x.n ∧ ∀ d ∈ l, x.ok d
structure Lp (S0 : Store) (p : Addr) (c : Nat) (L : List LpT) (S : Store) : Prop where
  sw : Pw c p S0 S
  nod : (L.map (·.f)).Nodup
  all : ∀ x ∈ L, x.f ≠ p ∧ S0 x.f = none ∧ x.at S
section
variable {S0 S S' : Store} {p f : Addr} {c c' : Nat} {L : List LpT} {x : LpT}
theorem Lp.nil (h : PkAt c p S) : Lp S p c [] S := ⟨.refl h, List.nodup_nil, by simp⟩
theorem Lp.up (h : Lp S0 p c L S) (hc : c ≤ c') : Lp S0 p c' L S := ⟨h.sw.up hc, h.nod, h.all⟩
theorem Lp.trans (h : Lp S0 p c L S) (d : Pw c' p S S') : Lp S0 p c' L S' := ⟨h.sw.trans d, h.nod, fun x hx => by
  obtain ⟨a, b, l, e, hl, ho⟩ := h.all x hx
  exact ⟨a, b, l, d.2 _ _ a e, hl, ho⟩⟩
theorem Lp.sk (h : Lp S0 p c L S) (d : Pk c' p S S') : Lp S0 p c' L S' := h.trans ((Pw.refl h.sw.1).sk d)
theorem Lp.at (h : Lp S0 p c L S) : PkAt c p S := h.sw.1
theorem Lp.put (h : Lp S0 p c L S) (hn : S f = none) {l : List D} {n : Nat} {ok : D → Prop} (hl : l.length = n) (ho : ∀ d ∈ l, ok d) : Lp S0 p c (⟨f, n, ok⟩ :: L) (sput S f (.lst l)) := by
  obtain ⟨hp, h0⟩ := h.sw.new hn
  have ne : ∀ x ∈ L, x.f ≠ f := fun x hx e => by
    obtain ⟨_, _, l, e2, _⟩ := h.all x hx
    rw [e, hn] at e2
    cases e2
  refine ⟨h.sw.put hp h0, ?_, fun x hx => ?_⟩
  · refine List.nodup_cons.mpr ⟨fun hm => ?_, h.nod⟩
    obtain ⟨x, hx, e⟩ := List.mem_map.mp hm
    exact ne x hx e
  · rcases List.mem_cons.mp hx with rfl | hx
    · exact ⟨hp, h0, l, sput_same, hl, ho⟩
    · obtain ⟨a, b, l2, e, k⟩ := h.all x hx
      exact ⟨a, b, l2, by rw [sput_ne (ne x hx)]; exact e, k⟩
/-- a list of a callee, new in the store -/
theorem Lp.got (h : Lp S0 p c L S) (d : Pw c' p S S') (hn : S f = none) {l : List D} {n : Nat} {ok : D → Prop} (e : S' f = some (.lst l)) (hl : l.length = n) (ho : ∀ d ∈ l, ok d) : Lp S0 p c' (⟨f, n, ok⟩ :: L) S' := by
  obtain ⟨hp, h0⟩ := h.sw.new hn
  have h2 := h.trans d
  refine ⟨h2.sw, ?_, fun x hx => ?_⟩
  · refine List.nodup_cons.mpr ⟨fun hm => ?_, h.nod⟩
    obtain ⟨x, hx, ex⟩ := List.mem_map.mp hm
    obtain ⟨_, _, l, e2, _⟩ := h.all x hx
    have ex2 : x.f = f := ex
    rw [ex2, hn] at e2
    cases e2
  · rcases List.mem_cons.mp hx with rfl | hx
    · exact ⟨hp, h0, l, e, hl, ho⟩
    · exact h2.all x hx
theorem ls_injP : ∀ {L : List LpT} {x y : LpT}, (L.map (·.f)).Nodup → x ∈ L → y ∈ L → y.f = x.f → y = x
  | a :: L, x, y, hn, hx, hy, e => by
    obtain ⟨h1, h2⟩ := List.nodup_cons.mp hn
    rcases List.mem_cons.mp hx with hx | hx <;> rcases List.mem_cons.mp hy with hy | hy
    · rw [hx, hy]
    · exact absurd (List.mem_map.mpr ⟨y, hy, by rw [e, hx]⟩) h1
    · exact absurd (List.mem_map.mpr ⟨x, hx, by rw [← e, hy]⟩) h1
    · exact ls_injP h2 hx hy e
theorem Lp.over (h : Lp S0 p c L S) (hx : x ∈ L) {l : List D} (hl : l.length = x.n) (ho : ∀ d ∈ l, x.ok d) : Lp S0 p c L (sput S x.f (.lst l)) := by
  obtain ⟨hp, h0, _⟩ := h.all x hx
  refine ⟨h.sw.put hp h0, h.nod, fun y hy => ?_⟩
  obtain ⟨a, b, l2, e, k⟩ := h.all y hy
  by_cases e2 : y.f = x.f
  · have : y = x := ls_injP h.nod hx hy e2
    subst this
    exact ⟨hp, h0, l, sput_same, hl, ho⟩
  · exact ⟨a, b, l2, by rw [sput_ne e2]; exact e, k⟩
theorem Lp.set (h : Lp S0 p c L S) (hx : x ∈ L) {k : Int} (k0 : 0 ≤ k) (hk : k < x.n) {d : D} (hd : x.ok d) {Q : Store → Prop} (q : ∀ S', Lp S0 p c L S' → Q S') : oSet (.ref x.f) (.int k) d S Q := by
  obtain ⟨_, _, l, e, hl, ho⟩ := h.all x hx
  obtain ⟨i, rfl⟩ := Int.eq_ofNat_of_zero_le k0
  refine ⟨l, i, e, ixN_coP (by omega), q _ (h.over hx (by rw [List.length_set]; exact hl) fun y hy => ?_)⟩
  rcases List.mem_or_eq_of_mem_set hy with hy | rfl
  · exact ho y hy
  · exact hd
theorem Lp.ix (h : Lp S0 p c L S) (hx : x ∈ L) {k : Int} (k0 : 0 ≤ k) (hk : k < x.n) {Q : D → Store → Prop} (q : ∀ d, x.ok d → Q d S) : oIx (.ref x.f) (.int k) S Q := by
  obtain ⟨_, _, l, e, hl, ho⟩ := h.all x hx
  obtain ⟨i, rfl⟩ := Int.eq_ofNat_of_zero_le k0
  have hi : i < l.length := by omega
  refine ⟨l, l[i], e, ?_, q _ (ho _ (List.getElem_mem hi))⟩
  unfold atI
  rw [ixN_coP hi]
  exact List.getElem?_eq_getElem hi
theorem Lp.nums (h : Lp S0 p c L S) (hx : x ∈ L) {N : Nat} (he : x.ok = IsQP N) : ∃ qs, S x.f = some (.lst (rowD qs)) ∧ qs.length = x.n ∧ ∀ q ∈ qs, bq N q := by
  obtain ⟨_, _, l, e, hl, ho⟩ := h.all x hx
  rw [he] at ho
  obtain ⟨qs, rfl, h2, h3⟩ := isQ_rowP ho
  exact ⟨qs, e, by rw [h2, hl], h3⟩
theorem Lp.rows (h : Lp S0 p c L S) (hx : x ∈ L) {N m : Nat} (he : x.ok = IsRP N m) : ∃ rs, S x.f = some (.lst (rowsD rs)) ∧ rs.length = x.n ∧ ∀ r ∈ rs, r.length = m ∧ ∀ q ∈ r, bq N q := by
  obtain ⟨_, _, l, e, hl, ho⟩ := h.all x hx
  rw [he] at ho
  obtain ⟨qs, rfl, h2, h3⟩ := isR_rowsP ho
  exact ⟨qs, e, by rw [h2, hl], h3⟩
/-- one more at the end -/
theorem Lp.app {n : Nat} {ok : D → Prop} (h : Lp S0 p c (⟨f, n, ok⟩ :: L) S) {d : D} (hd : ok d) (hn : n ≤ 1000) {Q : D → Store → Prop} (q : ∀ S', Lp S0 p c (⟨f, n + 1, ok⟩ :: L) S' → Q .non S') : oAppend (.ref f) [d] S Q := by
  obtain ⟨hp, h0, l, e, hl, ho⟩ := h.all _ List.mem_cons_self
  have hl : l.length = n := hl
  refine ⟨l, d, e, rfl, Nat.lt_of_le_of_lt (show l.length ≤ 1000 by omega) (by decide), fun b hb => ?_⟩
  cases hb
  refine q _ ⟨h.sw.put hp h0, h.nod, fun y hy => ?_⟩
  rcases List.mem_cons.mp hy with rfl | hy
  · refine ⟨hp, h0, _, sput_same, by simp [hl], fun z hz => ?_⟩
    rcases List.mem_append.mp hz with hz | hz
    · exact ho z hz
    · rw [List.mem_singleton.mp hz]; exact hd
  · obtain ⟨a, b, l2, e2, k⟩ := h.all y (List.mem_cons_of_mem _ hy)
    refine ⟨a, b, l2, ?_, k⟩
    rw [sput_ne fun z => ?_]
    · exact e2
    · have h9 := (List.nodup_cons.mp h.nod).1
      exact h9 (List.mem_map.mpr ⟨y, hy, z⟩)
theorem Lp.perm {L' : List LpT} (h : Lp S0 p c L S) (e : L.Perm L') : Lp S0 p c L' S := ⟨h.sw, (e.map _).nodup_iff.mp h.nod, fun x hx => h.all x (e.mem_iff.mpr hx)⟩
theorem IsRP.up {N M m : Nat} {d : D} (h : IsRP N m d) (hn : N ≤ M) : IsRP M m d := by
  obtain ⟨q, rfl, hl, hb⟩ := h
  exact ⟨q, rfl, hl, fun x hx => (hb x hx).mono hn⟩
theorem Lp.weak {n : Nat} {ok ok' : D → Prop} (h : Lp S0 p c (⟨f, n, ok⟩ :: L) S) (w : ∀ d, ok d → ok' d) : Lp S0 p c (⟨f, n, ok'⟩ :: L) S := ⟨h.sw, h.nod, fun y hy => by
  rcases List.mem_cons.mp hy with rfl | hy
  · obtain ⟨a, b, l, e, hl, ho⟩ := h.all _ List.mem_cons_self
    exact ⟨a, b, l, e, hl, fun d hd => w d (ho d hd)⟩
  · exact h.all y (List.mem_cons_of_mem _ hy)⟩
theorem IsQP.up {N M : Nat} {d : D} (h : IsQP N d) (hn : N ≤ M) : IsQP M d := by
  obtain ⟨q, rfl, hb⟩ := h
  exact ⟨q, rfl, hb.mono hn⟩
theorem Lp.drop (h : Lp S0 p c (x :: L) S) : Lp S0 p c L S := ⟨h.sw, (List.nodup_cons.mp h.nod).2, fun y hy => h.all y (List.mem_cons_of_mem _ hy)⟩
end
/-- a comprehension whose elements draw -/
theorem lc_drawP {α : Type} {wt : Store → Prop} {g : WG} {te : WE} {env : Slots} {items : List D} {p : Addr} {c : Nat} {S : Store} {Q : List D → Store → Prop} (ι : α → D) (P : α → Prop) (e : Nat) (hw : ∀ S', wt S') (hS : PkAt c p S)
    (step : ∀ x c' S' (K : D → Store → Prop), x ∈ items → c ≤ c' → c' ≤ c + e * items.length → Pk c' p S S' → (∀ a S'', P a → Pk (c' + e) p S' S'' → K (ι a) S'') → g x env S' fun env1 S1 => te env1 S1 K)
    (done : ∀ (as : List α) S', as.length = items.length → (∀ a ∈ as, P a) → Pk (c + e * items.length) p S S' → Q (as.map ι) S') : lcW wt g wYes te env items [] S Q := by
  refine lc_inv (fun i acc S' => i ≤ items.length ∧ ∃ as : List α, acc = as.map ι ∧ as.length = i ∧ (∀ a ∈ as, P a) ∧ Pk (c + e * i) p S S') ⟨Nat.zero_le _, [], rfl, rfl, by simp, Pk.refl hS⟩ ?_ ?_
  · rintro i x acc S' K1 K2 hx ⟨hi, as, rfl, hl, hP, d⟩ k1 k2
    have hi2 : i < items.length := (List.getElem?_eq_some_iff.mp hx).1
    refine ⟨hw _, step x (c + e * i) S' K1 (List.mem_of_getElem? hx) (Nat.le_add_right ..) (Nat.add_le_add_left (Nat.mul_le_mul_left _ hi) _) d fun a S'' ha d2 => k1 _ _ ⟨hi2, as ++ [a], by rw [List.map_append]; rfl, by simp [hl], fun y hy => ?_, (d.trans d2).up (by rw [Nat.mul_succ]; omega)⟩⟩
    rcases List.mem_append.mp hy with h | h
    · exact hP y h
    · rw [List.mem_singleton.mp h]; exact ha
  · rintro acc S' ⟨hi, as, rfl, hl, hP, d⟩
    exact ⟨hw _, done as S' hl hP d⟩

theorem Lp.sub {S0 S : Store} {p : Addr} {c : Nat} {L L' : List LpT} (h : Lp S0 p c L S) (e : L'.Sublist L) : Lp S0 p c L' S := ⟨h.sw, h.nod.sublist (e.map _), fun x hx => h.all x (e.mem hx)⟩
theorem wIf_andP {A B : WT} {a b : WS} {E : DEnds} {env : Slots} {S : Store} {pa pb : Bool} (hA : ∀ Q, Q pa S → A env S Q) (hB : pa = true → ∀ Q, Q pb S → B env S Q)
    (h1 : pa = true → pb = true → a E env S) (h2 : b E env S) : wIfS (wAnd A B) a b E env S := by
  refine hA _ ?_
  cases pa with
  | false => exact h2
  | true =>
    refine hB rfl _ ?_
    cases pb with
    | false => exact h2
    | true => exact h1 rfl rfl
theorem wIf_oneP {A : WT} {a b : WS} {E : DEnds} {env : Slots} {S : Store} {pa : Bool} (hA : ∀ Q, Q pa S → A env S Q)
    (h1 : pa = true → a E env S) (h2 : b E env S) : wIfS A a b E env S := by
  refine hA _ ?_
  cases pa with
  | false => exact h2
  | true => exact h1 rfl
theorem isQ_noughtP {N : Nat} (h : 0 < N) : IsQP N (.tup [.int 0, .int 1]) := ⟨0, rfl, bq_zero.mono h⟩
theorem isQ_oneP {N : Nat} (h : 0 < N) : IsQP N (.tup [.int 1, .int 1]) := ⟨1, rfl, (bq_int (n := 1) (by decide) (by decide) : bq 1 ((1 : Int) : Rat)).mono h⟩
theorem wNil_goP {env : Slots} {S : Store} {Q : List D → Store → Prop} (h : Q [] S) : wNil env S Q := h
theorem rot_rowP {r : List Rat} {k : Nat} : cutD (rowD r) (some (k : Int)) none ++ cutD (rowD r) none (some (k : Int)) = rowD (r.drop k ++ r.take k) := by
  unfold rowD
  rw [cut_from, cut_to, ← List.map_drop, ← List.map_take, ← List.map_append]
theorem mem_rotP {α : Type} {l : List α} {k : Nat} {x : α} (h : x ∈ l.drop k ++ l.take k) : x ∈ l := by
  rcases List.mem_append.mp h with h | h
  · exact List.mem_of_mem_drop h
  · exact List.mem_of_mem_take h
theorem len_rotP {α : Type} {l : List α} {k n : Nat} (h : l.length = n) : (l.drop k ++ l.take k).length = n := by
  rw [List.length_append, List.length_drop, List.length_take]; omega
theorem row_endCP {r : List Rat} {q : Rat} : atI (rowD (r ++ [q])) (-1) = some (dQ q) := by
  unfold rowD
  rw [List.map_append]
  exact atI_last _ _
theorem next_goP {E : DEnds} {env : Slots} {S : Store} (h : E.nx env S) : wNext E env S := h
theorem pick2P {x y la : Int} (h : la = 0 ∨ la = 1) : ∃ b, (b = x ∨ b = y) ∧ atI [D.int x, D.int y] la = some (.int b) := by
  rcases h with rfl | rfl
  · exact ⟨x, .inl rfl, rfl⟩
  · exact ⟨y, .inr rfl, rfl⟩
theorem pick3P {x y z la : Int} (h0 : 0 ≤ la) (h1 : la < 3) : ∃ b, (b = x ∨ b = y ∨ b = z) ∧ atI [D.int x, D.int y, D.int z] la = some (.int b) := by
  rcases (show la = 0 ∨ la = 1 ∨ la = 2 by omega) with rfl | rfl | rfl
  · exact ⟨x, .inl rfl, rfl⟩
  · exact ⟨y, .inr (.inl rfl), rfl⟩
  · exact ⟨z, .inr (.inr rfl), rfl⟩
theorem bit01P {b : Bool} : (if b = true then (1 : Int) else 0) = 0 ∨ (if b = true then (1 : Int) else 0) = 1 := by cases b <;> simp
theorem eq_emptyTP {xs : List Rat} {S : Store} {Q : D → Store → Prop} (q : Q (.bl (decide (xs.length = 0))) S) : oEqB false (.tup (rowD xs)) (.tup []) S Q := by
  have h1 := deep_rowD (qs := xs)
  refine eq_pure (x := .tup (rowD xs)) (y := .tup []) pure_rowD rfl (by show deepDs (rowD xs) + 1 ≤ 64; omega) (by decide) fun c hc => ?_
  have e : c = decide (xs.length = 0) := by
    cases xs with
    | nil => exact hc.mpr rfl
    | cons a l =>
      cases c with
      | true => have := hc.mp rfl; injection this with z; cases z
      | false => rfl
  show Q (.bl c) S
  rw [e]
  exact q
theorem eq_emptyP {xs : List Rat} {S : Store} {Q : D → Store → Prop} (q : Q (.bl (decide (xs.length = 0))) S) : oEqB false (.lst (rowD xs)) (.lst []) S Q := by
  have h1 := deep_rowD (qs := xs)
  refine eq_pure (x := .lst (rowD xs)) (y := .lst []) pure_rowD rfl (by show deepDs (rowD xs) + 1 ≤ 64; omega) (by decide) fun c hc => ?_
  have e : c = decide (xs.length = 0) := by
    cases xs with
    | nil => exact hc.mpr rfl
    | cons a l =>
      cases c with
      | true => have := hc.mp rfl; injection this with z; cases z
      | false => rfl
  show Q (.bl c) S
  rw [e]
  exact q

end ND
set_option Elab.async false
set_option linter.all false
set_option maxRecDepth 100000
namespace ND
open PySem PySem.Spec PyProof.Rows L2
def w_p_pile : WS :=
  (wRet (wLstM (wCons (wVar 0) (wCons (wC (.int 0)) (wCons (wC (.int 0)) (wCons (wC (.int 20261)) (wCons (wC (.int 0)) wNil)))))))
@[irreducible] def m_p_pile : On := fun ds S Q => ∃ (d : D) (ns : List Int), ds = [d] ∧ (d = .lst (ns.map D.int) ∨ d = .kls (ns.map D.int)) ∧ ∀ p S', S p = none → Pk 0 p S S' → Q (.ref p) S'
theorem in_p_pile {ds : List D} {S : Store} {Q : D → Store → Prop} (h : (fun ds S Q => ∃ (d : D) (ns : List Int), ds = [d] ∧ (d = .lst (ns.map D.int) ∨ d = .kls (ns.map D.int)) ∧ ∀ p S', S p = none → Pk 0 p S S' → Q (.ref p) S' : On) ds S Q) : m_p_pile ds S Q := by unfold m_p_pile; exact h
theorem l_p_pile (ds : List D) (S : Store) (Q : D → Store → Prop) (h : m_p_pile ds S Q) : ds.length = 1 := by unfold m_p_pile at h; obtain ⟨_, _, rfl, _⟩ := h; rfl
theorem v_p_pile (ds : List D) (S : Store) (Q : D → Store → Prop) (h : m_p_pile ds S Q) : w_p_pile (fin Q) (dst 1 ds) S := by
  unfold m_p_pile at h
  obtain ⟨d, ns, rfl, hd, q⟩ := h
  exact ⟨_, rfl, by show 5 ≤ sizeLine; decide, fun p hp => q p _ hp ⟨_, ⟨d, ns, 0, 0, 20261, 0, rfl, hd, by omega, by omega, by omega, by omega, by omega, by omega, by omega⟩, rfl⟩⟩
theorem ix_script {d : D} {ns : List Int} {i z : Int} {S : Store} {Q : D → Store → Prop} (hd : d = .lst (ns.map D.int) ∨ d = .kls (ns.map D.int)) (e : atI (ns.map D.int) i = some (.int z)) (q : Q (.int z) S) : oIx d (.int i) S Q := by
  rcases hd with rfl | rfl <;> exact ⟨_, _, rfl, e, q⟩
theorem len_script {d : D} {ns : List Int} {S : Store} {Q : D → Store → Prop} (hd : d = .lst (ns.map D.int) ∨ d = .kls (ns.map D.int)) (q : Q (.int (ns.length : Nat)) S) : oLen [d] S Q := by
  have e : ((ns.map D.int).length : Int) = ns.length := by rw [List.length_map]
  rcases hd with rfl | rfl
  · refine ⟨_, rfl, ?_⟩
    rw [e]; exact q
  · refine ⟨_, rfl, ?_⟩
    rw [e]; exact q
def w_p_next : WS :=
  (wSeq (wIfS (wTst (w2 oGt (w2 oIx (wVar 0) (wC (.int 2))) (wC (.int 0)))) (wSeq (wSet 2 (w2 oMod (w2 oIx (wVar 0) (wC (.int 2))) (wVar 1)))
  (wSeq (wAsg (w2 oFdiv (w2 oIx (wVar 0) (wC (.int 2))) (wVar 1)) (gS (wVar 0) (wC (.int 2)) oSet))
  (wRet (wVar 2)))) wNext)
  (wSeq (wIfS (wTst (w2 oLt (w2 oIx (wVar 0) (wC (.int 1))) (wCall oLen (wCons (w2 oIx (wVar 0) (wC (.int 0))) wNil)))) (wSeq (wSet 3 (w2 oIx (w2 oIx (wVar 0) (wC (.int 0))) (w2 oIx (wVar 0) (wC (.int 1)))))
  (wSeq (wAsg (w2 oAdd (w2 oIx (wVar 0) (wC (.int 1))) (wC (.int 1))) (gS (wVar 0) (wC (.int 1)) oSet))
  (wSeq (wAsg (w2 oMod (w2 oAdd (w2 oMul (w2 oIx (wVar 0) (wC (.int 3))) (wC (.int 69069))) (wVar 3)) (wC (.int 2147483629))) (gS (wVar 0) (wC (.int 3)) oSet))
  (wSeq (wIfS (wTst (w2 oGe (wCall oAbs (wCons (wVar 3) wNil)) (w2 oPow (wC (.int 10)) (wC (.int 18))))) (wSeq (wAsg (w2 oFdiv (wCall oAbs (wCons (wVar 3) wNil)) (wVar 1)) (gS (wVar 0) (wC (.int 2)) oSet))
  (wRet (w2 oMod (wCall oAbs (wCons (wVar 3) wNil)) (wVar 1)))) wNext)
  (wRet (w2 oMod (wVar 3) (wVar 1))))))) wNext)
  (wSeq (wAsg (w2 oAdd (w2 oIx (wVar 0) (wC (.int 4))) (wC (.int 1))) (gS (wVar 0) (wC (.int 4)) oSet))
  (wSeq (wAsg (w2 oMod (w2 oAdd (w2 oAdd (w2 oMul (w2 oIx (wVar 0) (wC (.int 3))) (w2 oIx (wVar 0) (wC (.int 3)))) (w2 oMul (wC (.int 40014)) (w2 oIx (wVar 0) (wC (.int 4))))) (wC (.int 977))) (wC (.int 2147483629))) (gS (wVar 0) (wC (.int 3)) oSet))
  (wRet (w2 oMod (w2 oFdiv (w2 oIx (wVar 0) (wC (.int 3))) (wC (.int 16))) (wVar 1)))))))
@[irreducible] def m_p_next : On := fun ds S Q => ∃ (p : Addr) (most : Int) (c : Nat), ds = [.ref p, .int most] ∧ 0 < most ∧ c < 2 ^ 50 ∧ PkAt c p S ∧ ∀ r S', 0 ≤ r → r < most → Pk (c + 1) p S S' → Q (.int r) S'
theorem in_p_next {ds : List D} {S : Store} {Q : D → Store → Prop} (h : (fun ds S Q => ∃ (p : Addr) (most : Int) (c : Nat), ds = [.ref p, .int most] ∧ 0 < most ∧ c < 2 ^ 50 ∧ PkAt c p S ∧ ∀ r S', 0 ≤ r → r < most → Pk (c + 1) p S S' → Q (.int r) S' : On) ds S Q) : m_p_next ds S Q := by unfold m_p_next; exact h
theorem l_p_next (ds : List D) (S : Store) (Q : D → Store → Prop) (h : m_p_next ds S Q) : ds.length = 2 := by unfold m_p_next at h; obtain ⟨_, _, _, rfl, _⟩ := h; rfl
theorem use_pnext {p : Addr} {most : Int} {c : Nat} {S : Store} {Q : D → Store → Prop} (h : PkAt c p S) (hc : c < 2 ^ 50) (hm : 0 < most) (k : ∀ r S', 0 ≤ r → r < most → Pk (c + 1) p S S' → Q (.int r) S') : m_p_next [.ref p, .int most] S Q := by
  unfold m_p_next; exact ⟨p, most, c, rfl, hm, hc, h, k⟩
theorem v_p_next (ds : List D) (S : Store) (Q : D → Store → Prop) (h : m_p_next ds S Q) : w_p_next (fin Q) (dst 4 ds) S := by
  unfold m_p_next at h
  obtain ⟨p, most, c, rfl, hm, hc, ⟨_, ⟨d, ns, i, left, mixed, count, rfl, hd, hi, hi2, hleft, hmix, hmix2, hct, hct2⟩, hS⟩, q⟩ := h
  have fm : ∀ (x : Int), 0 ≤ x.fmod most ∧ x.fmod most < most := fun x => fmod_bds hm
  have fd : ∀ x : Int, 0 ≤ x → 0 ≤ x.fdiv most := fun x hx => by
    rw [Int.fdiv_eq_ediv_of_nonneg _ (by omega)]
    exact Int.ediv_nonneg hx (by omega)
  have hm0 : most ≠ 0 := by omega
  have hsc : ∀ S' : Store, SC S' d (ns.map D.int) := fun S' => by rcases hd with rfl | rfl <;> rfl
  refine ⟨_, rfl, _, _, hS, rfl, ite_nf (fun h => ?_) (fun h => ?_)⟩
  · refine ⟨_, rfl, _, _, hS, rfl, _, rfl, hm0, _, rfl, _, _, hS, rfl, _, rfl, hm0, _, rfl, _, 2, hS, rfl, _, rfl, ?_⟩
    exact q _ _ (fm left).1 (fm left).2 ⟨_, ⟨d, ns, i, left.fdiv most, mixed, count, rfl, hd, hi, hi2, fd _ hleft, hmix, hmix2, hct, by omega⟩, rfl⟩
  have tail : ∀ o2 o3, (wSeq (wAsg (w2 oAdd (w2 oIx (wVar 0) (wC (.int 4))) (wC (.int 1))) (gS (wVar 0) (wC (.int 4)) oSet))
  (wSeq (wAsg (w2 oMod (w2 oAdd (w2 oAdd (w2 oMul (w2 oIx (wVar 0) (wC (.int 3))) (w2 oIx (wVar 0) (wC (.int 3)))) (w2 oMul (wC (.int 40014)) (w2 oIx (wVar 0) (wC (.int 4))))) (wC (.int 977))) (wC (.int 2147483629))) (gS (wVar 0) (wC (.int 3)) oSet))
  (wRet (w2 oMod (w2 oFdiv (w2 oIx (wVar 0) (wC (.int 3))) (wC (.int 16))) (wVar 1))))) (fin Q) [some (.ref p), some (.int most), o2, o3] S := by
    intro o2 o3
    have b1 := fmod_bds (x := mixed * mixed + 40014 * (count + 1) + 977) (n := 2147483629) (by decide)
    refine ⟨_, rfl, _, _, hS, rfl, _, rfl, _, 4, hS, rfl, ?_⟩
    refine ⟨_, rfl, _, _, sput_same, rfl, _, rfl, _, _, sput_same, rfl, mulOk (a := 31) (b := 31) (by omega) (by omega), _, rfl, _, _, sput_same, rfl, mulOk (a := 16) (b := 51) (by decide) (by show (count + 1).natAbs < 2 ^ 51; omega), (by decide : (2147483629 : Int) ≠ 0), _, rfl, _, 3, sput_same, rfl, ?_⟩
    refine ⟨_, rfl, _, _, sput_same, rfl, (by decide : (16 : Int) ≠ 0), _, rfl, hm0, ?_⟩
    exact q _ _ (fm _).1 (fm _).2 ⟨_, ⟨d, ns, i, left, _, count + 1, rfl, hd, hi, hi2, hleft, b1.1, b1.2, by omega, by omega⟩, by rw [sput_sput]; rfl⟩
  refine ⟨_, rfl, _, _, hS, rfl, _, rfl, _, _, hS, rfl, len_script hd ?_⟩
  refine ite_nf (fun h1 => ?_) (fun h1 => tail _ _)
  have hat : ∃ z : Int, atI (ns.map D.int) i = some (.int z) := by
    obtain ⟨z, _, e⟩ := atI_int (ns := ns) hi (by omega)
    exact ⟨z, e⟩
  obtain ⟨z, hat⟩ := hat
  refine ⟨_, rfl, _, _, hS, rfl, _, rfl, _, _, hS, rfl, ix_script hd hat ?_⟩
  have b1 := fmod_bds (x := mixed * 69069 + z) (n := 2147483629) (by decide)
  refine ⟨_, rfl, _, _, hS, rfl, _, rfl, _, 1, hS, rfl, ?_⟩
  refine ⟨_, rfl, _, _, sput_same, rfl, mulOk (a := 31) (b := 17) (by omega) (by decide), _, rfl, (by decide : (2147483629 : Int) ≠ 0), _, rfl, _, 3, sput_same, rfl, ?_⟩
  refine ⟨_, rfl, ⟨by decide, by decide, by decide⟩, ?_⟩
  refine ite_nf (fun h2 => ?_) fun h2 => ?_
  · refine ⟨_, rfl, _, rfl, hm0, _, rfl, _, 2, sput_same, rfl, _, rfl, _, rfl, hm0, ?_⟩
    refine q _ _ (fm _).1 (fm _).2 ⟨_, ⟨d, ns, i + 1, _, _, count, rfl, hd, by omega, by omega, fd _ ?_, b1.1, b1.2, hct, by omega⟩, by rw [sput_sput, sput_sput]; rfl⟩
    split <;> omega
  · refine ⟨_, rfl, _, rfl, hm0, ?_⟩
    exact q _ _ (fm _).1 (fm _).2 ⟨_, ⟨d, ns, i + 1, left, _, count, rfl, hd, by omega, by omega, hleft, b1.1, b1.2, hct, by omega⟩, by rw [sput_sput]; rfl⟩
def w_p_fraction : WS :=
  (wSeq (wIfS (wTst (w2 oLt (wVar 1) (wC (.int 0)))) (wSeq (wSet 0 (w2 oSub (wC (.int 0)) (wVar 0)))
  (wSet 1 (w2 oSub (wC (.int 0)) (wVar 1)))) wNext)
  (wSeq (wSet 2 (wCall oAbs (wCons (wVar 0) wNil)))
  (wSeq (wSet 3 (wVar 1))
  (wSeq (whileS (wTst (w2 oGt (wVar 3) (wC (.int 0)))) (wPar 2 3 (wCons (wVar 3) (wCons (w2 oMod (wVar 2) (wVar 3)) wNil))))
  (wRet (wTup (wCons (w2 oFdiv (wVar 0) (wVar 2)) (wCons (w2 oFdiv (wVar 1) (wVar 2)) wNil))))))))
abbrev m_p_fraction : On := m_s_fraction
theorem l_p_fraction (ds : List D) (S : Store) (Q : D → Store → Prop) (h : m_p_fraction ds S Q) : ds.length = 2 := l_s_fraction ds S Q h
theorem v_p_fraction (ds : List D) (S : Store) (Q : D → Store → Prop) (h : m_p_fraction ds S Q) : w_p_fraction (fin Q) (dst 4 ds) S := by
  unfold m_p_fraction m_s_fraction at h
  obtain ⟨t, b, rfl, hb, q⟩ := h
  have ha : (if t < 0 then -t else t) = (t.natAbs : Int) := by split <;> omega
  have e0 : Int.gcd (t.natAbs : Int) b = Int.gcd t b := by simp [Int.gcd]
  refine ⟨_, rfl, ite_nf (fun h => absurd h (by omega)) fun _ => ?_⟩
  refine ⟨_, rfl, _, rfl, ?_⟩
  refine ⟨fun m env S' => S' = S ∧ ∃ x y : Int, m = y.toNat ∧ env = [some (.int t), some (.int b), some (.int x), some (.int y)] ∧ 0 ≤ x ∧ 0 ≤ y ∧ Int.gcd x y = Int.gcd t b, ⟨_, rfl, _, _, rfl, rfl, by rw [ha]; omega, by omega, by rw [ha, e0]⟩, ?_⟩
  rintro m env S' ⟨rfl, x, y, rfl, rfl, hx, hy, e⟩
  refine ⟨_, rfl, ite_nf (fun c => ?_) (fun c => ?_)⟩
  · have e1 := fmod_bds (x := x) (n := y) c
    refine ⟨_, rfl, _, rfl, _, rfl, (by omega : y ≠ 0), _, (by omega : (x.fmod y).toNat < y.toNat), rfl, y, x.fmod y, rfl, rfl, hy, e1.1, ?_⟩
    rw [Int.fmod_eq_emod_of_nonneg _ hy, gcd_step hx hy, e]
  · have hy0 : y = 0 := by omega
    subst hy0
    have ex : x = (Int.gcd t b : Nat) := by rw [← e, Int.gcd_zero_right]; omega
    subst ex
    have hg : ((Int.gcd t b : Nat) : Int) ≠ 0 := by have := gcd_pos' (t := t) (b := b) (by omega); omega
    refine ⟨_, rfl, _, rfl, hg, _, rfl, _, rfl, hg, by show 2 ≤ sizeLine; decide, ?_⟩
    have e' : dQ (Rat.divInt t b) = D.tup [.int (t.fdiv (Int.gcd t b : Nat)), .int (b.fdiv (Int.gcd t b : Nat))] := by rw [frac_num hb rfl, frac_den hb rfl]; rfl
    show Q _ _
    rw [e'] at q
    exact q

end ND
set_option Elab.async false
set_option linter.all false
set_option maxRecDepth 100000
namespace ND
open PySem PySem.Spec PyProof.Rows L2
def w_p_plus (f1 : On) : WS :=
  (wRet (wCall f1 (wCons (w2 oAdd (w2 oMul (w2 oIx (wVar 0) (wC (.int 0))) (w2 oIx (wVar 1) (wC (.int 1)))) (w2 oMul (w2 oIx (wVar 1) (wC (.int 0))) (w2 oIx (wVar 0) (wC (.int 1))))) (wCons (w2 oMul (w2 oIx (wVar 0) (wC (.int 1))) (w2 oIx (wVar 1) (wC (.int 1)))) wNil))))
abbrev m_p_plus : On := m_plus
theorem l_p_plus (ds : List D) (S : Store) (Q : D → Store → Prop) (h : m_p_plus ds S Q) : ds.length = 2 := l_plus ds S Q h
theorem v_p_plus (ds : List D) (S : Store) (Q : D → Store → Prop) (h : m_p_plus ds S Q) : w_p_plus m_p_fraction (fin Q) (dst 2 ds) S := v_s_plus ds S Q h
def w_p_times (f1 : On) : WS :=
  (wRet (wCall f1 (wCons (w2 oMul (w2 oIx (wVar 0) (wC (.int 0))) (w2 oIx (wVar 1) (wC (.int 0)))) (wCons (w2 oMul (w2 oIx (wVar 0) (wC (.int 1))) (w2 oIx (wVar 1) (wC (.int 1)))) wNil))))
abbrev m_p_times : On := m_times
theorem l_p_times (ds : List D) (S : Store) (Q : D → Store → Prop) (h : m_p_times ds S Q) : ds.length = 2 := l_times ds S Q h
theorem v_p_times (ds : List D) (S : Store) (Q : D → Store → Prop) (h : m_p_times ds S Q) : w_p_times m_p_fraction (fin Q) (dst 2 ds) S := v_s_times ds S Q h
def w_p_less (f1 : On) : WS :=
  (wRet (wCall f1 (wCons (w2 oSub (w2 oMul (w2 oIx (wVar 0) (wC (.int 0))) (w2 oIx (wVar 1) (wC (.int 1)))) (w2 oMul (w2 oIx (wVar 1) (wC (.int 0))) (w2 oIx (wVar 0) (wC (.int 1))))) (wCons (w2 oMul (w2 oIx (wVar 0) (wC (.int 1))) (w2 oIx (wVar 1) (wC (.int 1)))) wNil))))
abbrev m_p_less : On := m_less
theorem l_p_less (ds : List D) (S : Store) (Q : D → Store → Prop) (h : m_p_less ds S Q) : ds.length = 2 := l_less ds S Q h
theorem v_p_less (ds : List D) (S : Store) (Q : D → Store → Prop) (h : m_p_less ds S Q) : w_p_less m_p_fraction (fin Q) (dst 2 ds) S := by
  unfold m_p_less m_less at h
  obtain ⟨a, b, n, m, rfl, ha, hb, hnm, q⟩ := h
  have n0 := bq_pos ha
  have m0 := bq_pos hb
  refine ⟨_, rfl, _, _, rfl, rfl, _, rfl, _, _, rfl, rfl, mulOk ha.1 (den_abs hb) n0 m0 (by omega), _, rfl, _, _, rfl, rfl, _, rfl, _, _, rfl, rfl, mulOk hb.1 (den_abs ha) m0 n0 (by omega), _, rfl, _, _, rfl, rfl, _, rfl, _, _, rfl, rfl, mulOk (den_abs ha) (den_abs hb) n0 m0 (by omega), ?_⟩
  refine use_sfraction (den_pos2 a b) ?_
  rw [← Int.natCast_mul, Rat.divInt_ofNat, ← Rat.sub_def']
  exact q
def w_p_product (f1 : On) (f2 : On) : WS :=
  (wSeq (wSet 2 (wTup (wCons (wC (.int 0)) (wCons (wC (.int 1)) wNil))))
  (wSeq (forS (wZipI (wCons (wVar 0) (wCons (wVar 1) wNil))) (gT 2 (gConss (gN 3) (gConss (gN 4) gNils))) (wSet 2 (wCall f2 (wCons (wVar 2) (wCons (wCall f1 (wCons (wVar 3) (wCons (wVar 4) wNil))) wNil)))))
  (wRet (wVar 2))))
abbrev m_p_product : On := m_law_product
theorem l_p_product (ds : List D) (S : Store) (Q : D → Store → Prop) (h : m_p_product ds S Q) : ds.length = 2 := l_law_product ds S Q h
theorem v_p_product (ds : List D) (S : Store) (Q : D → Store → Prop) (h : m_p_product ds S Q) : w_p_product m_p_times m_p_plus (fin Q) (dst 5 ds) S := v_s_product ds S Q h
def w_p_number (f1 : On) (f2 : On) : WS :=
  (wSeq (wSet 2 (wCall f1 (wCons (wVar 0) (wCons (wC (.int 8)) wNil))))
  (wSeq (wIfS (wTst (w2 oLt (wVar 2) (wC (.int 4)))) (wRet (wTup (wCons (w2 oSub (wCall f1 (wCons (wVar 0) (wCons (wC (.int 7)) wNil))) (wC (.int 3))) (wCons (wC (.int 1)) wNil)))) wNext)
  (wSeq (wIfS (wTst (w2 oEq (wVar 2) (wC (.int 4)))) (wRet (wTup (wCons (wC (.int 0)) (wCons (wC (.int 1)) wNil)))) wNext)
  (wSeq (wIfS (wAnd (wTst (w2 oEq (wVar 2) (wC (.int 7)))) (wTst (wVar 1))) (wRet (wCall f2 (wCons (w2 oAdd (w2 oSub (wCall f1 (wCons (wVar 0) (wCons (w2 oSub (w2 oMul (wC (.int 2)) (w2 oPow (wC (.int 10)) (wC (.int 12)))) (wC (.int 1))) wNil))) (w2 oPow (wC (.int 10)) (wC (.int 12)))) (wC (.int 1))) (wCons (w2 oAdd (wC (.int 1)) (wCall f1 (wCons (wVar 0) (wCons (w2 oSub (w2 oPow (wC (.int 10)) (wC (.int 12))) (wC (.int 1))) wNil)))) wNil)))) wNext)
  (wRet (wCall f2 (wCons (w2 oSub (wCall f1 (wCons (wVar 0) (wCons (wC (.int 41)) wNil))) (wC (.int 20))) (wCons (w2 oAdd (wC (.int 1)) (wCall f1 (wCons (wVar 0) (wCons (wC (.int 12)) wNil)))) wNil))))))))
@[irreducible] def m_p_number : On := fun ds S Q => ∃ (p : Addr) (g : Bool) (c : Nat), ds = [.ref p, .bl g] ∧ c < 2 ^ 48 ∧ PkAt c p S ∧ ∀ q S', bq 42 q → (g = false → bq 6 q) → Pk (c + 3) p S S' → Q (dQ q) S'
theorem in_p_number {ds : List D} {S : Store} {Q : D → Store → Prop} (h : (fun ds S Q => ∃ (p : Addr) (g : Bool) (c : Nat), ds = [.ref p, .bl g] ∧ c < 2 ^ 48 ∧ PkAt c p S ∧ ∀ q S', bq 42 q → (g = false → bq 6 q) → Pk (c + 3) p S S' → Q (dQ q) S' : On) ds S Q) : m_p_number ds S Q := by unfold m_p_number; exact h
theorem l_p_number (ds : List D) (S : Store) (Q : D → Store → Prop) (h : m_p_number ds S Q) : ds.length = 2 := by unfold m_p_number at h; obtain ⟨_, _, _, rfl, _⟩ := h; rfl
theorem p10_12 : ((10 : Int) ^ (12 : Int).toNat) = 1000000000000 := by decide
theorem v_p_number (ds : List D) (S : Store) (Q : D → Store → Prop) (h : m_p_number ds S Q) : w_p_number m_p_next m_p_fraction (fin Q) (dst 3 ds) S := by
  unfold m_p_number at h
  obtain ⟨p, g, c, rfl, hc, hS, q⟩ := h
  unfold w_p_number
  (repeat first | refine ⟨_, rfl, ?_⟩ | refine ⟨_, _, rfl, (rfl : atI _ _ = some _), ?_⟩ | refine ⟨_, _, rfl, isi_tuple, ?_⟩ | refine ⟨trivial, ?_⟩ | refine ⟨rfl, ?_⟩ | refine ⟨by show _ ≤ sizeLine; decide, ?_⟩)
  refine use_pnext hS (by omega) (by decide) fun way S1 a0 a1 d1 => ?_
  dsimp only
  refine wIf_oneP (pa := decide (way < 4)) (fun Q k => ⟨_, rfl, k⟩) (fun h1 => ?_) (next_goP ?_)
  · (repeat first | refine ⟨_, rfl, ?_⟩ | refine ⟨_, _, rfl, (rfl : atI _ _ = some _), ?_⟩ | refine ⟨_, _, rfl, isi_tuple, ?_⟩ | refine ⟨trivial, ?_⟩ | refine ⟨rfl, ?_⟩ | refine ⟨by show _ ≤ sizeLine; decide, ?_⟩)
    refine use_pnext d1.at (by omega) (by decide) fun r S2 b0 b1 d2 => ?_
    refine ⟨by show 2 ≤ sizeLine; decide, ?_⟩
    exact q ((r - 3 : Int) : Rat) S2 (bq_int (by omega) (by decide)) (fun _ => bq_int (by omega) (by decide)) ((d1.trans d2).up (by omega))
  dsimp only
  refine wIf_oneP (pa := decide (way = 4)) (fun Q k => ⟨_, rfl, k⟩) (fun h1 => ?_) (next_goP ?_)
  · refine ⟨by show 2 ≤ sizeLine; decide, ?_⟩
    exact q 0 S1 (bq_zero.mono (by decide)) (fun _ => bq_zero.mono (by decide)) (d1.up (by omega))
  dsimp only
  refine wIf_andP (pa := decide (way = 7)) (pb := g) (fun Q k => ⟨_, rfl, k⟩) (fun _ Q k => ⟨_, rfl, k⟩) (fun h1 h2 => ?_) (next_goP ?_)
  · refine ⟨_, rfl, ⟨by decide, by decide, by decide⟩, mulOk (a := 2) (b := 41) (by decide) (by rw [p10_12]; decide), use_pnext d1.at (by omega) (by rw [p10_12]; decide) fun r S2 b0 b1 d2 => ⟨⟨by decide, by decide, by decide⟩, _, rfl, ⟨by decide, by decide, by decide⟩, use_pnext d2.at (by omega) (by rw [p10_12]; decide) fun u S3 c0 c1 d3 => use_sfraction (by omega) ?_⟩⟩
    rw [p10_12] at b1 c1
    exact q _ S3 (bq_divInt (by omega) (by rw [p10_12]; omega) (by omega)) (fun hg => by rw [h2] at hg; cases hg) (((d1.trans d2).trans d3).up (by omega))
  dsimp only
  (repeat first | refine ⟨_, rfl, ?_⟩ | refine ⟨_, _, rfl, (rfl : atI _ _ = some _), ?_⟩ | refine ⟨_, _, rfl, isi_tuple, ?_⟩ | refine ⟨trivial, ?_⟩ | refine ⟨rfl, ?_⟩ | refine ⟨by show _ ≤ sizeLine; decide, ?_⟩)
  refine use_pnext d1.at (by omega) (by decide) fun r S2 b0 b1 d2 => ⟨_, rfl, use_pnext d2.at (by omega) (by decide) fun u S3 c0 c1 d3 => use_sfraction (by omega) ?_⟩
  exact q _ S3 (bq_divInt (by omega) (by omega) (by omega)) (fun _ => bq_divInt (by omega) (by omega) (by omega)) (((d1.trans d2).trans d3).up (by omega))
def w_p_row (f1 : On) : WS :=
  (wRet (wCall oTuple (wCons (wLc (wRng1 (wVar 1)) (gN 3) wYes (wCall f1 (wCons (wVar 0) (wCons (wVar 2) wNil))) [3]) wNil)))
@[irreducible] def m_p_row : On := fun ds S Q => ∃ (p : Addr) (g : Bool) (many c : Nat), ds = [.ref p, .int many, .bl g] ∧ many ≤ 1000 ∧ c < 2 ^ 47 ∧ PkAt c p S ∧ ∀ qs S', qs.length = many → (∀ q ∈ qs, bq 42 q) → (g = false → ∀ q ∈ qs, bq 6 q) → Pk (c + 3 * many) p S S' → Q (.tup (rowD qs)) S'
theorem in_p_row {ds : List D} {S : Store} {Q : D → Store → Prop} (h : (fun ds S Q => ∃ (p : Addr) (g : Bool) (many c : Nat), ds = [.ref p, .int many, .bl g] ∧ many ≤ 1000 ∧ c < 2 ^ 47 ∧ PkAt c p S ∧ ∀ qs S', qs.length = many → (∀ q ∈ qs, bq 42 q) → (g = false → ∀ q ∈ qs, bq 6 q) → Pk (c + 3 * many) p S S' → Q (.tup (rowD qs)) S' : On) ds S Q) : m_p_row ds S Q := by unfold m_p_row; exact h
theorem l_p_row (ds : List D) (S : Store) (Q : D → Store → Prop) (h : m_p_row ds S Q) : ds.length = 3 := by unfold m_p_row at h; obtain ⟨_, _, _, _, rfl, _⟩ := h; rfl
theorem v_p_row (ds : List D) (S : Store) (Q : D → Store → Prop) (h : m_p_row ds S Q) : w_p_row m_p_number (fin Q) (dst 4 ds) S := by
  unfold m_p_row at h
  obtain ⟨p, g, many, c, rfl, hm, hc, hS, q⟩ := h
  have hlen : (rngD 0 (many : Int)).length = many := by rw [rngD_len]; omega
  refine ⟨_, rfl, ⟨by omega, by omega⟩, by rw [hlen]; exact Nat.le_trans hm (by decide), ?_⟩
  refine lc_drawP dQ (fun q => bq 42 q ∧ (g = false → bq 6 q)) 3 (fun _ => trivial) hS (fun x c' S' K hx h1 h2 d K1 => ?_) ?_
  · rw [hlen] at h2
    exact ⟨_, rfl, _, rfl, in_p_number ⟨p, g, c', rfl, by omega, d.at, fun q S'' hq hq2 d2 => K1 q S'' ⟨hq, hq2⟩ d2⟩⟩
  rw [hlen]
  intro qs S' hl hP d
  exact ⟨_, rfl, q qs S' hl (fun q hq => (hP q hq).1) (fun hg q hq => (hP q hq).2 hg) d⟩
def w_p_gap (f1 : On) (f2 : On) : WS :=
  (wRet (wCall f2 (wCons (w2 oAdd (wC (.int 1)) (wCall f1 (wCons (wVar 0) (wCons (wC (.int 9)) wNil)))) (wCons (w2 oAdd (wC (.int 1)) (wCall f1 (wCons (wVar 0) (wCons (wC (.int 12)) wNil)))) wNil))))
@[irreducible] def m_p_gap : On := fun ds S Q => ∃ (p : Addr) (c : Nat), ds = [.ref p] ∧ c < 2 ^ 48 ∧ PkAt c p S ∧ ∀ q S', bq 5 q → 0 < q → Pk (c + 2) p S S' → Q (dQ q) S'
theorem in_p_gap {ds : List D} {S : Store} {Q : D → Store → Prop} (h : (fun ds S Q => ∃ (p : Addr) (c : Nat), ds = [.ref p] ∧ c < 2 ^ 48 ∧ PkAt c p S ∧ ∀ q S', bq 5 q → 0 < q → Pk (c + 2) p S S' → Q (dQ q) S' : On) ds S Q) : m_p_gap ds S Q := by unfold m_p_gap; exact h
theorem l_p_gap (ds : List D) (S : Store) (Q : D → Store → Prop) (h : m_p_gap ds S Q) : ds.length = 1 := by unfold m_p_gap at h; obtain ⟨_, _, rfl, _⟩ := h; rfl
theorem divI_gtP {t b : Int} (h : 0 < t) (hb : 0 < b) : 0 < Rat.divInt t b := by
  have h1 : 0 ≤ Rat.divInt t b := (Rat.divInt_nonneg_iff_of_pos_right hb).mpr (by omega)
  have h2 : Rat.divInt t b ≠ 0 := fun e => by
    have h3 := divInt_mul (a := t) (b := b) (by omega)
    rw [e, Rat.zero_mul] at h3
    have h4 : ((0 : Int) : Rat) = (t : Rat) := h3
    have := Rat.intCast_inj.mp h4
    omega
  grind
theorem v_p_gap (ds : List D) (S : Store) (Q : D → Store → Prop) (h : m_p_gap ds S Q) : w_p_gap m_p_next m_p_fraction (fin Q) (dst 1 ds) S := by
  unfold m_p_gap at h
  obtain ⟨p, c, rfl, hc, hS, q⟩ := h
  refine ⟨_, rfl, use_pnext hS (by omega) (by decide) fun r S2 b0 b1 d2 => ⟨_, rfl, use_pnext d2.at (by omega) (by decide) fun u S3 c0 c1 d3 => use_sfraction (by omega) ?_⟩⟩
  exact q _ S3 (bq_divInt (by omega) (by omega) (by omega)) (divI_gtP (by omega) (by omega)) (d2.trans d3)

end ND
set_option Elab.async false
set_option linter.all false
set_option maxRecDepth 100000
namespace ND
open PySem PySem.Spec PyProof.Rows L2
theorem rows_at0 {r0 : List Rat} {rest : List (List Rat)} : atI (rowsD (r0 :: rest)) 0 = some (.tup (rowD r0)) := by
  have e := atI_nat (xs := rowsD (r0 :: rest)) (j := 0) (v := .tup (rowD r0)) (by unfold rowsD; rfl)
  exact e
theorem c_go4P {d : D} {env : Slots} {S : Store} {Q : D → Store → Prop} (h : Q d S) : wC d env S Q := h
theorem ix_goP {x : D} {l : List D} {i : Int} {d : D} {S : Store} {Q : D → Store → Prop} (hx : SC S x l) (h : atI l i = some d) (q : Q d S) : oIx x (.int i) S Q := by
  cases x with
  | str z => exact False.elim hx
  | _ => exact ⟨l, d, hx, h, q⟩
def w_p_sum (f1 : On) : WS :=
  (wRet (wCall oTuple (wCons (wLc (wRng1 (wCall oLen (wCons (w2 oIx (wVar 0) (wC (.int 0))) wNil))) (gN 2) wYes (wCall f1 (wCons (wLc (wSeqI (wVar 0)) (gN 3) wYes (w2 oIx (wVar 3) (wVar 2)) [3]) (wCons (wVar 1) wNil))) [2]) wNil)))
@[irreducible] def m_p_sum : On := fun ds S Q => ∃ (x y : D) (pts : List (List Rat)) (ws : List Rat) (n m size : Nat), ds = [x, y] ∧ SC S x (rowsD pts) ∧ SC S y (rowD ws) ∧ 0 < pts.length ∧ pts.length ≤ 20 ∧ size ≤ 100 ∧ (∀ r ∈ pts, r.length = size ∧ ∀ q ∈ r, bq n q) ∧ ws.length = pts.length ∧ (∀ q ∈ ws, bq m q) ∧ 0 < n ∧ 0 < m ∧ n + m ≤ 10000 ∧ Q (.tup (rowD ((List.range size).map fun k => dot (pts.map fun r => r.getD k 0) ws))) S
theorem in_p_sum {ds : List D} {S : Store} {Q : D → Store → Prop} (h : (fun ds S Q => ∃ (x y : D) (pts : List (List Rat)) (ws : List Rat) (n m size : Nat), ds = [x, y] ∧ SC S x (rowsD pts) ∧ SC S y (rowD ws) ∧ 0 < pts.length ∧ pts.length ≤ 20 ∧ size ≤ 100 ∧ (∀ r ∈ pts, r.length = size ∧ ∀ q ∈ r, bq n q) ∧ ws.length = pts.length ∧ (∀ q ∈ ws, bq m q) ∧ 0 < n ∧ 0 < m ∧ n + m ≤ 10000 ∧ Q (.tup (rowD ((List.range size).map fun k => dot (pts.map fun r => r.getD k 0) ws))) S : On) ds S Q) : m_p_sum ds S Q := by unfold m_p_sum; exact h
theorem l_p_sum (ds : List D) (S : Store) (Q : D → Store → Prop) (h : m_p_sum ds S Q) : ds.length = 2 := by unfold m_p_sum at h; obtain ⟨_, _, _, _, _, _, _, rfl, _⟩ := h; rfl
abbrev sumP (pts : List (List Rat)) (ws : List Rat) (size : Nat) : List Rat := (List.range size).map fun k => dot (pts.map fun r => r.getD k 0) ws
theorem sumP_len {pts : List (List Rat)} {ws : List Rat} {size : Nat} : (sumP pts ws size).length = size := by simp
theorem sumP_bq {pts : List (List Rat)} {ws : List Rat} {size n m N : Nat} (h : ∀ r ∈ pts, r.length = size ∧ ∀ q ∈ r, bq n q) (hw : ∀ q ∈ ws, bq m q) (hN : (n + m + 1) * pts.length + 1 ≤ N) : ∀ q ∈ sumP pts ws size, bq N q := fun q hq => by
  obtain ⟨k, hk, rfl⟩ := List.mem_map.mp hq
  have hk := List.mem_range.mp hk
  refine (bq_dot (n := n) (m := m) (as := pts.map fun r => r.getD k 0) (fun a ha => ?_) hw).mono (by rw [List.length_map]; exact hN)
  obtain ⟨r, hr, rfl⟩ := List.mem_map.mp ha
  obtain ⟨h1, h2⟩ := h r hr
  rw [List.getD_eq_getElem?_getD, List.getElem?_eq_getElem (by omega)]
  exact h2 _ (List.getElem_mem _)
theorem v_p_sum (ds : List D) (S : Store) (Q : D → Store → Prop) (h : m_p_sum ds S Q) : w_p_sum m_p_product (fin Q) (dst 4 ds) S := by
  unfold m_p_sum at h
  obtain ⟨x, y, pts, ws, n, m, size, rfl, hx, hy, hp0, hp, hs, hpt, hwl, hwb, n0, m0, hnm, q⟩ := h
  have hlen : (rngD 0 (size : Int)).length = size := by rw [rngD_len]; omega
  have hb := Nat.mul_le_mul (show n + m + 1 ≤ 10001 by omega) (show pts.length + 1 ≤ 21 by omega)
  cases pts with
  | nil => exact absurd hp0 (by simp)
  | cons r0 rest =>
    have h0 := (hpt r0 List.mem_cons_self).1
    unfold w_p_sum
    (repeat first | refine ⟨_, rfl, ?_⟩ | refine ⟨_, _, rfl, (rfl : atI _ _ = some _), ?_⟩ | refine ⟨_, _, rfl, isi_tuple, ?_⟩ | refine ⟨trivial, ?_⟩ | refine ⟨rfl, ?_⟩ | refine ⟨by show _ ≤ sizeLine; decide, ?_⟩)
    refine c_go4P ?_
    refine ix_goP hx rows_at0 ?_
    (repeat first | refine ⟨_, rfl, ?_⟩ | refine ⟨_, _, rfl, (rfl : atI _ _ = some _), ?_⟩ | refine ⟨_, _, rfl, isi_tuple, ?_⟩ | refine ⟨trivial, ?_⟩ | refine ⟨rfl, ?_⟩ | refine ⟨by show _ ≤ sizeLine; decide, ?_⟩)
    rw [rowD_len, h0]
    refine ⟨⟨by omega, by omega⟩, by rw [hlen]; exact Nat.le_trans hs (by decide), ?_⟩
    have rng : rngD 0 (size : Int) = (List.range size).map fun k : Nat => D.int (k : Nat) := by
      unfold rngD
      rw [Int.sub_zero, Int.toNat_natCast]
      exact List.map_congr_left fun k _ => by rw [Int.zero_add]
    rw [rng]
    refine lc_mapA (fun k : Nat => D.int (k : Nat)) dQ (fun k => dot ((r0 :: rest).map fun r => r.getD k 0) ws) (List.range size) trivial (fun k K hk k' => ?_) ?_
    · have hk := List.mem_range.mp hk
      (repeat first | refine ⟨_, rfl, ?_⟩ | refine ⟨_, _, rfl, (rfl : atI _ _ = some _), ?_⟩ | refine ⟨_, _, rfl, isi_tuple, ?_⟩ | refine ⟨trivial, ?_⟩ | refine ⟨rfl, ?_⟩ | refine ⟨by show _ ≤ sizeLine; decide, ?_⟩)
      refine walkD_of hx ⟨rows_lineQ (by omega), ?_⟩
      refine lc_mapA (fun r : List Rat => D.tup (rowD r)) dQ (fun r => r.getD k 0) (r0 :: rest) (watch_same hx) (fun r K2 hr k2 => ?_) ?_
      · (repeat first | refine ⟨_, rfl, ?_⟩ | refine ⟨_, _, rfl, (rfl : atI _ _ = some _), ?_⟩ | refine ⟨_, _, rfl, isi_tuple, ?_⟩ | refine ⟨trivial, ?_⟩ | refine ⟨rfl, ?_⟩ | refine ⟨by show _ ≤ sizeLine; decide, ?_⟩)
        exact ⟨_, _, rfl, row_at (by rw [(hpt r hr).1]; exact hk), k2⟩
      (repeat first | refine ⟨_, rfl, ?_⟩ | refine ⟨_, _, rfl, (rfl : atI _ _ = some _), ?_⟩ | refine ⟨_, _, rfl, isi_tuple, ?_⟩ | refine ⟨trivial, ?_⟩ | refine ⟨rfl, ?_⟩ | refine ⟨by show _ ≤ sizeLine; decide, ?_⟩)
      refine use_law_product (n := n) (m := m) rfl hy (by rw [List.length_map, hwl]) (fun q hq => ?_) hwb n0 m0 (by rw [List.length_map]; exact Nat.le_trans hb (by decide)) k'
      obtain ⟨r, hr, rfl⟩ := List.mem_map.mp hq
      obtain ⟨h1, h2⟩ := hpt r hr
      rw [List.getD_eq_getElem?_getD, List.getElem?_eq_getElem (by omega)]
      exact h2 _ (List.getElem_mem _)
    (repeat first | refine ⟨_, rfl, ?_⟩ | refine ⟨_, _, rfl, (rfl : atI _ _ = some _), ?_⟩ | refine ⟨_, _, rfl, isi_tuple, ?_⟩ | refine ⟨trivial, ?_⟩ | refine ⟨rfl, ?_⟩ | refine ⟨by show _ ≤ sizeLine; decide, ?_⟩)
    exact q
def w_p_away (f1 : On) : WS :=
  (wRet (wCall oTuple (wCons (wLc (wZipI (wCons (wVar 0) (wCons (wVar 1) wNil))) (gT 2 (gConss (gN 2) (gConss (gN 3) gNils))) wYes (wCall f1 (wCons (wVar 2) (wCons (wVar 3) wNil))) [2, 3]) wNil)))
@[irreducible] def m_p_away : On := fun ds S Q => ∃ (a b : List Rat) (n m : Nat), ds = [.tup (rowD a), .tup (rowD b)] ∧ a.length = b.length ∧ a.length ≤ 1000 ∧ (∀ q ∈ a, bq n q) ∧ (∀ q ∈ b, bq m q) ∧ n + m ≤ 900000 ∧ Q (.tup (rowD (subQ a b))) S
theorem in_p_away {ds : List D} {S : Store} {Q : D → Store → Prop} (h : (fun ds S Q => ∃ (a b : List Rat) (n m : Nat), ds = [.tup (rowD a), .tup (rowD b)] ∧ a.length = b.length ∧ a.length ≤ 1000 ∧ (∀ q ∈ a, bq n q) ∧ (∀ q ∈ b, bq m q) ∧ n + m ≤ 900000 ∧ Q (.tup (rowD (subQ a b))) S : On) ds S Q) : m_p_away ds S Q := by unfold m_p_away; exact h
theorem l_p_away (ds : List D) (S : Store) (Q : D → Store → Prop) (h : m_p_away ds S Q) : ds.length = 2 := by unfold m_p_away at h; obtain ⟨_, _, _, _, rfl, _⟩ := h; rfl
theorem v_p_away (ds : List D) (S : Store) (Q : D → Store → Prop) (h : m_p_away ds S Q) : w_p_away m_p_less (fin Q) (dst 4 ds) S := by
  unfold m_p_away at h
  obtain ⟨a, b, n, m, rfl, hl, hl2, ha, hb, hnm, q⟩ := h
  unfold w_p_away
  (repeat first | refine ⟨_, rfl, ?_⟩ | refine ⟨_, _, rfl, (rfl : atI _ _ = some _), ?_⟩ | refine ⟨_, _, rfl, isi_tuple, ?_⟩ | refine ⟨trivial, ?_⟩ | refine ⟨rfl, ?_⟩ | refine ⟨by show _ ≤ sizeLine; decide, ?_⟩)
  refine ⟨_, _, rfl, rfl, zip_lineQ hl2, ?_⟩
  exact lc_zipQ (fun x y => x - y) ⟨trivial, trivial⟩ (fun u v K hu hv k' => ⟨_, rfl, rfl, _, rfl, _, rfl, use_less (ha u hu) (hb v hv) hnm k'⟩) ⟨_, rfl, q⟩

end ND
set_option Elab.async false
set_option linter.all false
set_option maxRecDepth 100000
namespace ND
open PySem PySem.Spec PyProof.Rows L2
theorem add_goP {i j : Int} {S : Store} {Q : D → Store → Prop} (h : Q (.int (i + j)) S) : oAdd (.int i) (.int j) S Q := h
theorem wIf_orP {A B : WT} {a b : WS} {E : DEnds} {env : Slots} {S : Store} {pa pb : Bool} (hA : ∀ Q, Q pa S → A env S Q) (hB : ∀ Q, Q pb S → B env S Q)
    (h1 : a E env S) (h2 : b E env S) : wIfS (wOr A B) a b E env S := by
  refine hA _ ?_
  cases pa with
  | true => exact h1
  | false =>
    refine hB _ ?_
    cases pb with
    | false => exact h2
    | true => exact h1
/-- none below nought, their sum 1 -/
def WtsQ (qs : List Rat) : Prop := (∀ q ∈ qs, 0 ≤ q) ∧ dot qs (List.replicate qs.length 1) = 1
theorem dot_divs {s : Int} (hs : s ≠ 0) : ∀ {js : List Int}, dot (js.map fun a => Rat.divInt a s) (List.replicate js.length 1) = Rat.divInt js.sum s
  | [] => by show (0 : Rat) = Rat.divInt 0 s; rw [Rat.zero_divInt]
  | a :: js => by
    rw [List.map_cons, List.length_cons, List.replicate_succ, List.sum_cons, divInt_add_same hs, ← dot_divs hs (js := js)]
    show Rat.divInt a s * 1 + _ = _
    rw [Rat.mul_one]
def w_p_weights (f1 : On) (f2 : On) : WS :=
  (wSeq (wSet 2 (wLcM (wRng1 (wVar 1)) (gN 3) wYes (wCall f1 (wCons (wVar 0) (wCons (wC (.int 4)) wNil))) [3]))
  (wSeq (wAsg (w2 oAdd (wC (.int 1)) (wCall f1 (wCons (wVar 0) (wCons (wC (.int 3)) wNil)))) (gS (wVar 2) (wCall f1 (wCons (wVar 0) (wCons (wVar 1) wNil))) oSet))
  (wRet (wFz (wCall oTuple (wCons (wLc (wSeqI (wVar 2)) (gN 4) wYes (wCall f2 (wCons (wVar 4) (wCons (wCall oSum (wCons (wVar 2) wNil)) wNil))) [4]) wNil))))))
@[irreducible] def m_p_weights : On := fun ds S Q => ∃ (p : Addr) (many c : Nat), ds = [.ref p, .int many] ∧ 0 < many ∧ many ≤ 20 ∧ c < 2 ^ 47 ∧ PkAt c p S ∧ ∀ qs S', qs.length = many → (∀ q ∈ qs, bq 7 q) → WtsQ qs → Pw (c + 50) p S S' → Q (.tup (rowD qs)) S'
theorem in_p_weights {ds : List D} {S : Store} {Q : D → Store → Prop} (h : (fun ds S Q => ∃ (p : Addr) (many c : Nat), ds = [.ref p, .int many] ∧ 0 < many ∧ many ≤ 20 ∧ c < 2 ^ 47 ∧ PkAt c p S ∧ ∀ qs S', qs.length = many → (∀ q ∈ qs, bq 7 q) → WtsQ qs → Pw (c + 50) p S S' → Q (.tup (rowD qs)) S' : On) ds S Q) : m_p_weights ds S Q := by unfold m_p_weights; exact h
theorem l_p_weights (ds : List D) (S : Store) (Q : D → Store → Prop) (h : m_p_weights ds S Q) : ds.length = 2 := by unfold m_p_weights at h; obtain ⟨_, _, _, rfl, _⟩ := h; rfl
theorem isum_le {l : List Int} {b : Int} (h : ∀ x ∈ l, 0 ≤ x ∧ x ≤ b) : 0 ≤ l.sum ∧ l.sum ≤ b * l.length := by
  induction l with
  | nil => simp
  | cons a l ih =>
    obtain ⟨h1, h2⟩ := ih fun x hx => h x (List.mem_cons_of_mem _ hx)
    obtain ⟨h3, h4⟩ := h a List.mem_cons_self
    rw [List.sum_cons, List.length_cons]
    have : b * ((l.length + 1 : Nat) : Int) = b * (l.length : Int) + b := by rw [Int.natCast_add, Int.mul_add]; simp
    omega
theorem isum_nn {l : List Int} (h : ∀ x ∈ l, 0 ≤ x) : 0 ≤ l.sum := by
  induction l with
  | nil => simp
  | cons a l ih =>
    have := h a List.mem_cons_self
    have := ih fun x hx => h x (List.mem_cons_of_mem _ hx)
    rw [List.sum_cons]; omega
theorem isum_pos {l : List Int} {x : Int} (h : ∀ x ∈ l, 0 ≤ x) (hx : x ∈ l) (h0 : 0 < x) : 0 < l.sum := by
  induction l with
  | nil => cases hx
  | cons a l ih =>
    have ha := h a List.mem_cons_self
    have hl : 0 ≤ l.sum := isum_nn (fun y hy => h y (List.mem_cons_of_mem _ hy))
    rw [List.sum_cons]
    rcases List.mem_cons.mp hx with rfl | hx
    · omega
    · have := ih (fun y hy => h y (List.mem_cons_of_mem _ hy)) hx
      omega
theorem v_p_weights (ds : List D) (S : Store) (Q : D → Store → Prop) (h : m_p_weights ds S Q) : w_p_weights m_p_next m_p_fraction (fin Q) (dst 5 ds) S := by
  unfold m_p_weights at h
  obtain ⟨p, many, c, rfl, hm0, hm, hc, hS, q⟩ := h
  have hlen : (rngD 0 (many : Int)).length = many := by rw [rngD_len]; omega
  unfold w_p_weights
  (repeat first | refine ⟨_, rfl, ?_⟩ | refine ⟨_, _, rfl, (rfl : atI _ _ = some _), ?_⟩ | refine ⟨_, _, rfl, isi_tuple, ?_⟩ | refine ⟨trivial, ?_⟩ | refine ⟨rfl, ?_⟩ | refine ⟨by show _ ≤ sizeLine; decide, ?_⟩)
  refine ⟨⟨by omega, by omega⟩, by rw [hlen]; exact Nat.le_trans hm (by decide), ?_⟩
  refine lc_drawP D.int (fun i => 0 ≤ i ∧ i ≤ 3) 1 (fun _ => trivial) hS (fun x c' S' K hx h1 h2 d K1 => ?_) ?_
  · exact ⟨_, rfl, use_pnext d.at (by omega) (by decide) fun r S2 a0 a1 d2 => K1 r S2 ⟨a0, by omega⟩ d2⟩
  rw [hlen]
  intro is S1 hl hP d1 f hf
  have w1 := ((Pw.refl hS).sk d1)
  obtain ⟨hfp, hfS⟩ := w1.new hf
  have w2 := w1.put (l := .lst (is.map D.int)) hfp hfS
  (repeat first | refine ⟨_, rfl, ?_⟩ | refine ⟨_, _, rfl, (rfl : atI _ _ = some _), ?_⟩ | refine ⟨_, _, rfl, isi_tuple, ?_⟩ | refine ⟨trivial, ?_⟩ | refine ⟨rfl, ?_⟩ | refine ⟨by show _ ≤ sizeLine; decide, ?_⟩)
  refine use_pnext w2.1 (by omega) (by decide) fun v S2 b0 b1 d2 => ?_
  (repeat first | refine ⟨_, rfl, ?_⟩ | refine ⟨_, _, rfl, (rfl : atI _ _ = some _), ?_⟩ | refine ⟨_, _, rfl, isi_tuple, ?_⟩ | refine ⟨trivial, ?_⟩ | refine ⟨rfl, ?_⟩ | refine ⟨by show _ ≤ sizeLine; decide, ?_⟩)
  refine use_pnext d2.at (by omega) (by omega) fun k S3 c0 c1 d3 => ?_
  obtain ⟨k, rfl⟩ := Int.eq_ofNat_of_zero_le c0
  have hF : S3 f = some (.lst (is.map D.int)) := by rw [d3.get hfp, d2.get hfp, sput_same]
  have hk : k < is.length := by omega
  refine ⟨is.map D.int, k, hF, ixN_coP (by rw [List.length_map]; exact hk), ?_⟩
  have w3 := ((w2.sk d2).sk d3).put (l := .lst ((is.map D.int).set k (.int (1 + v)))) hfp hfS
  have eset : (is.map D.int).set k (.int (1 + v)) = (is.set k (1 + v)).map D.int := by rw [List.map_set]
  rw [eset] at w3 ⊢
  have hP2 : ∀ x ∈ is.set k (1 + v), 0 ≤ x ∧ x ≤ 3 := fun x hx => by
    rcases List.mem_or_eq_of_mem_set hx with h | rfl
    · exact hP x h
    · omega
  have hl2 : (is.set k (1 + v)).length = many := by rw [List.length_set]; exact hl
  have hs0 := isum_pos (fun x hx => (hP2 x hx).1) (List.mem_set hk _) (by omega : 0 < 1 + v)
  have hs1 := (isum_le hP2).2
  rw [hl2] at hs1
  generalize is.set k (1 + v) = js at *
  (repeat first | refine ⟨_, rfl, ?_⟩ | refine ⟨_, _, rfl, (rfl : atI _ _ = some _), ?_⟩ | refine ⟨_, _, rfl, isi_tuple, ?_⟩ | refine ⟨trivial, ?_⟩ | refine ⟨rfl, ?_⟩ | refine ⟨by show _ ≤ sizeLine; decide, ?_⟩)
  refine ⟨_, sput_same, by rw [List.length_map, hl2]; exact Nat.le_trans hm (by decide), ?_⟩
  refine lc_mapA D.int dQ (fun a => Rat.divInt a js.sum) js sput_same (fun a K ha k' => ?_) ?_
  · refine ⟨_, rfl, _, rfl, js, sput_same, use_sfraction hs0 k'⟩
  (repeat first | refine ⟨_, rfl, ?_⟩ | refine ⟨_, _, rfl, (rfl : atI _ _ = some _), ?_⟩ | refine ⟨_, _, rfl, isi_tuple, ?_⟩ | refine ⟨trivial, ?_⟩ | refine ⟨rfl, ?_⟩ | refine ⟨by show _ ≤ sizeLine; decide, ?_⟩)
  refine ⟨_, _, Sub.refl _, .same _, q (js.map fun a => Rat.divInt a js.sum) _ (by rw [List.length_map]; exact hl2) (fun r hr => ?_) ⟨fun r hr => ?_, ?_⟩ (w3.up (by omega))⟩
  rotate_left
  · obtain ⟨a, ha, rfl⟩ := List.mem_map.mp hr
    exact (Rat.divInt_nonneg_iff_of_pos_right hs0).mpr (hP2 a ha).1
  · rw [List.length_map, dot_divs (by omega), Rat.divInt_self' (by omega)]
  obtain ⟨a, ha, rfl⟩ := List.mem_map.mp hr
  have := hP2 a ha
  exact bq_divInt (by omega) (by omega) (by omega)
def w_p_sizes (f1 : On) : WS :=
  (wSeq (wSet 1 (wCall f1 (wCons (wVar 0) (wCons (wC (.int 16)) wNil))))
  (wSeq (wSet 2 (w2 oAdd (wC (.int 1)) (wCall f1 (wCons (wVar 0) (wCons (wC (.int 4)) wNil)))))
  (wSeq (wSet 3 (w2 oAdd (wC (.int 1)) (wCall f1 (wCons (wVar 0) (wCons (wC (.int 3)) wNil)))))
  (wSeq (wIfS (wOr (wTst (w2 oEq (wVar 1) (wC (.int 1)))) (wTst (w2 oEq (wVar 1) (wC (.int 3))))) (wSet 2 (w2 oAdd (wC (.int 5)) (wCall f1 (wCons (wVar 0) (wCons (wC (.int 4)) wNil))))) wNext)
  (wSeq (wIfS (wOr (wTst (w2 oEq (wVar 1) (wC (.int 2)))) (wTst (w2 oEq (wVar 1) (wC (.int 3))))) (wSet 3 (w2 oAdd (wC (.int 4)) (wCall f1 (wCons (wVar 0) (wCons (wC (.int 3)) wNil))))) wNext)
  (wRet (wTup (wCons (wVar 2) (wCons (wVar 3) wNil)))))))))
@[irreducible] def m_p_sizes : On := fun ds S Q => ∃ (p : Addr) (c : Nat), ds = [.ref p] ∧ c < 2 ^ 48 ∧ PkAt c p S ∧ ∀ (many size : Nat) S', 0 < many → many ≤ 8 → 0 < size → size ≤ 6 → Pk (c + 5) p S S' → Q (.tup [.int many, .int size]) S'
theorem in_p_sizes {ds : List D} {S : Store} {Q : D → Store → Prop} (h : (fun ds S Q => ∃ (p : Addr) (c : Nat), ds = [.ref p] ∧ c < 2 ^ 48 ∧ PkAt c p S ∧ ∀ (many size : Nat) S', 0 < many → many ≤ 8 → 0 < size → size ≤ 6 → Pk (c + 5) p S S' → Q (.tup [.int many, .int size]) S' : On) ds S Q) : m_p_sizes ds S Q := by unfold m_p_sizes; exact h
theorem l_p_sizes (ds : List D) (S : Store) (Q : D → Store → Prop) (h : m_p_sizes ds S Q) : ds.length = 1 := by unfold m_p_sizes at h; obtain ⟨_, _, rfl, _⟩ := h; rfl
theorem v_p_sizes (ds : List D) (S : Store) (Q : D → Store → Prop) (h : m_p_sizes ds S Q) : w_p_sizes m_p_next (fin Q) (dst 4 ds) S := by
  unfold m_p_sizes at h
  obtain ⟨p, c, rfl, hc, hS, q⟩ := h
  unfold w_p_sizes
  (repeat first | refine ⟨_, rfl, ?_⟩ | refine ⟨_, _, rfl, (rfl : atI _ _ = some _), ?_⟩ | refine ⟨_, _, rfl, isi_tuple, ?_⟩ | refine ⟨trivial, ?_⟩ | refine ⟨rfl, ?_⟩ | refine ⟨by show _ ≤ sizeLine; decide, ?_⟩)
  refine use_pnext hS (by omega) (by decide) fun way S1 a0 a1 d1 => ?_
  (repeat first | refine ⟨_, rfl, ?_⟩ | refine ⟨_, _, rfl, (rfl : atI _ _ = some _), ?_⟩ | refine ⟨_, _, rfl, isi_tuple, ?_⟩ | refine ⟨trivial, ?_⟩ | refine ⟨rfl, ?_⟩ | refine ⟨by show _ ≤ sizeLine; decide, ?_⟩)
  refine use_pnext d1.at (by omega) (by decide) fun r1 S2 b0 b1 d2 => ?_
  (repeat first | refine ⟨_, rfl, ?_⟩ | refine ⟨_, _, rfl, (rfl : atI _ _ = some _), ?_⟩ | refine ⟨_, _, rfl, isi_tuple, ?_⟩ | refine ⟨trivial, ?_⟩ | refine ⟨rfl, ?_⟩ | refine ⟨by show _ ≤ sizeLine; decide, ?_⟩)
  refine use_pnext d2.at (by omega) (by decide) fun r2 S3 e0 e1 d3 => ?_
  refine add_goP ?_
  dsimp only
  have d3' := (d1.trans d2).trans d3
  refine wSeq_cut (fun env S' => ∃ many : Int, env = [some (.ref p), some (.int way), some (.int many), some (.int (1 + r2))] ∧ 0 < many ∧ many ≤ 8 ∧ Pk (c + 4) p S S') (fun env S4 hP => ?_) (fun nx hnx => ?_)
  rotate_left
  · refine wIf_orP (pa := decide (way = 1)) (pb := decide (way = 3)) (fun Q k => ⟨_, rfl, k⟩) (fun Q k => ⟨_, rfl, k⟩) ?_ (hnx _ _ ⟨_, rfl, by omega, by omega, d3'.up (by omega)⟩)
    refine ⟨_, rfl, use_pnext d3'.at (by omega) (by decide) fun r S5 f0 f1 d5 => hnx _ _ ⟨_, rfl, by omega, by omega, (d3'.trans d5).up (by omega)⟩⟩
  obtain ⟨many, rfl, hm0, hm8, d4⟩ := hP
  refine wSeq_cut (fun env S' => ∃ size : Int, env = [some (.ref p), some (.int way), some (.int many), some (.int size)] ∧ 0 < size ∧ size ≤ 6 ∧ Pk (c + 5) p S S') (fun env S5 hP => ?_) (fun nx hnx => ?_)
  rotate_left
  · refine wIf_orP (pa := decide (way = 2)) (pb := decide (way = 3)) (fun Q k => ⟨_, rfl, k⟩) (fun Q k => ⟨_, rfl, k⟩) ?_ (hnx _ _ ⟨_, rfl, by omega, by omega, d4.up (by omega)⟩)
    refine ⟨_, rfl, use_pnext d4.at (by omega) (by decide) fun r S6 f0 f1 d6 => hnx _ _ ⟨_, rfl, by omega, by omega, (d4.trans d6).up (by omega)⟩⟩
  obtain ⟨size, rfl, hs0, hs6, d5⟩ := hP
  obtain ⟨many, rfl⟩ := Int.eq_ofNat_of_zero_le (Int.le_of_lt hm0)
  obtain ⟨size, rfl⟩ := Int.eq_ofNat_of_zero_le (Int.le_of_lt hs0)
  (repeat first | refine ⟨_, rfl, ?_⟩ | refine ⟨_, _, rfl, (rfl : atI _ _ = some _), ?_⟩ | refine ⟨_, _, rfl, isi_tuple, ?_⟩ | refine ⟨trivial, ?_⟩ | refine ⟨rfl, ?_⟩ | refine ⟨by show _ ≤ sizeLine; decide, ?_⟩)
  exact ⟨by show 2 ≤ sizeLine; decide, q many size S5 (by omega) (by omega) (by omega) (by omega) d5⟩

end ND
set_option Elab.async false
set_option linter.all false
set_option maxRecDepth 100000
namespace ND
open PySem PySem.Spec PyProof.Rows L2
def w_p_short : WS :=
  (wRet (w2 oEq (wLc (wSeqI (wVar 0)) (gN 1) (wOr (wTst (w2 oGe (wCall oAbs (wCons (w2 oIx (wVar 1) (wC (.int 0))) wNil)) (w2 oPow (wC (.int 10)) (wC (.int 12))))) (wTst (w2 oGe (w2 oIx (wVar 1) (wC (.int 1))) (w2 oPow (wC (.int 10)) (wC (.int 12)))))) (wVar 1) [1]) (wLst wNil)))
@[irreducible] def m_p_short : On := fun ds S Q => ∃ (a : List Rat), ds = [.tup (rowD a)] ∧ a.length ≤ 1000 ∧ (∀ b : Bool, Q (.bl b) S) 
theorem in_p_short {ds : List D} {S : Store} {Q : D → Store → Prop} (h : (fun ds S Q => ∃ (a : List Rat), ds = [.tup (rowD a)] ∧ a.length ≤ 1000 ∧ (∀ b : Bool, Q (.bl b) S)  : On) ds S Q) : m_p_short ds S Q := by unfold m_p_short; exact h
theorem l_p_short (ds : List D) (S : Store) (Q : D → Store → Prop) (h : m_p_short ds S Q) : ds.length = 1 := by unfold m_p_short at h; obtain ⟨_, rfl, _⟩ := h; rfl
theorem v_p_short (ds : List D) (S : Store) (Q : D → Store → Prop) (h : m_p_short ds S Q) : w_p_short (fin Q) (dst 2 ds) S := by
  unfold m_p_short at h
  obtain ⟨a, rfl, hl, q⟩ := h
  unfold w_p_short
  have cp : CPow 10 12 := ⟨by decide, by decide, by decide⟩
  (repeat first | refine ⟨_, rfl, ?_⟩ | refine ⟨_, _, rfl, (rfl : atI _ _ = some _), ?_⟩ | refine ⟨_, _, rfl, isi_tuple, ?_⟩ | refine ⟨trivial, ?_⟩ | refine ⟨rfl, ?_⟩ | refine ⟨by show _ ≤ sizeLine; decide, ?_⟩)
  refine ⟨by rw [rowD_len]; exact Nat.le_trans hl (by decide), ?_⟩
  refine lc_filterQ (fun q => decide ((if q.num < 0 then -q.num else q.num) ≥ (10 : Int) ^ (12 : Int).toNat) || decide (((q.den : Nat) : Int) ≥ (10 : Int) ^ (12 : Int).toNat)) trivial (fun r K K2 hr k k2 => ?_) ?_
  · (repeat first | refine ⟨_, rfl, ?_⟩ | refine ⟨_, _, rfl, (rfl : atI _ _ = some _), ?_⟩ | refine ⟨_, _, rfl, isi_tuple, ?_⟩ | refine ⟨trivial, ?_⟩ | refine ⟨rfl, ?_⟩ | refine ⟨by show _ ≤ sizeLine; decide, ?_⟩)
    refine ⟨cp, ite_nf (fun h1 => ?_) fun h1 => ?_⟩
    · exact ⟨_, rfl, k (by rw [decide_eq_true h1]; rfl)⟩
    · (repeat first | refine ⟨_, rfl, ?_⟩ | refine ⟨_, _, rfl, (rfl : atI _ _ = some _), ?_⟩ | refine ⟨_, _, rfl, isi_tuple, ?_⟩ | refine ⟨trivial, ?_⟩ | refine ⟨rfl, ?_⟩ | refine ⟨by show _ ≤ sizeLine; decide, ?_⟩)
      refine ⟨cp, ite_nf (fun h2 => ?_) fun h2 => ?_⟩
      · exact ⟨_, rfl, k (by rw [decide_eq_true h2]; exact Bool.or_true _)⟩
      · exact k2 (by rw [decide_eq_false h1, decide_eq_false h2]; rfl)
  (repeat first | refine ⟨_, rfl, ?_⟩ | refine ⟨_, _, rfl, (rfl : atI _ _ = some _), ?_⟩ | refine ⟨_, _, rfl, isi_tuple, ?_⟩ | refine ⟨trivial, ?_⟩ | refine ⟨rfl, ?_⟩ | refine ⟨by show _ ≤ sizeLine; decide, ?_⟩)
  refine eq_emptyP ?_
  exact q _
theorem wIf_and3P {A B C : WT} {a b : WS} {E : DEnds} {env : Slots} {S : Store} {pa pb pc : Bool} (hA : ∀ Q, Q pa S → A env S Q) (hB : pa = true → ∀ Q, Q pb S → B env S Q) (hC : pa = true → pb = true → ∀ Q, Q pc S → C env S Q)
    (h1 : pa = true → pb = true → pc = true → a E env S) (h2 : b E env S) : wIfS (wAnd A (wAnd B C)) a b E env S := by
  refine hA _ ?_
  cases pa with
  | false => exact h2
  | true =>
    refine hB rfl _ ?_
    cases pb with
    | false => exact h2
    | true =>
      refine hC rfl rfl _ ?_
      cases pc with
      | false => exact h2
      | true => exact h1 rfl rfl rfl
theorem rows_lastP {rows : List (List Rat)} {r : List Rat} : atI (rowsD (rows ++ [r])) (-1) = some (.tup (rowD r)) := by
  unfold rowsD
  rw [List.map_append]
  exact atI_last _ _
theorem half_num : (1 / 2 : Rat).num = 1 := by decide +kernel
theorem half_den : (1 / 2 : Rat).den = 2 := by decide +kernel
theorem half_dQ : D.tup [.int 1, .int 2] = dQ (1 / 2 : Rat) := by
  unfold dQ
  rw [half_num, half_den]
  rfl
theorem half_bq : bq 2 (1 / 2 : Rat) := ⟨by rw [half_num]; decide, by rw [half_den]; decide⟩
def w_p_body (f1 : On) (f2 : On) (f3 : On) (f4 : On) : WS :=
  (wSeq (wSet 4 (wLstM wNil))
  (wSeq (forS (wRng1 (wVar 1)) (gN 5) (wSeq (wSet 6 (wCall f1 (wCons (wVar 0) (wCons (wC (.int 7)) wNil))))
  (wSeq (wSet 7 (wCall f2 (wCons (wVar 0) (wCons (wVar 2) (wCons (wVar 3) wNil)))))
  (wSeq (wIfS (wAnd (wTst (w2 oEq (wVar 6) (wC (.int 0)))) (wTst (w2 oNe (wVar 4) (wLst wNil)))) (wSet 7 (w2 oIx (wVar 4) (wCall f1 (wCons (wVar 0) (wCons (wCall oLen (wCons (wVar 4) wNil)) wNil))))) wNext)
  (wSeq (wIfS (wAnd (wTst (w2 oEq (wVar 6) (wC (.int 1)))) (wAnd (wTst (w2 oGt (wCall oLen (wCons (wVar 4) wNil)) (wC (.int 1)))) (wNot (wTst (wVar 3))))) (wSet 7 (wCall oTuple (wCons (wLc (wZipI (wCons (w2 oIx (wVar 4) (wC (.int 0))) (wCons (w2 oIx (wVar 4) (w1 oNeg (wC (.int 1)))) wNil))) (gT 2 (gConss (gN 8) (gConss (gN 9) gNils))) wYes (wCall f4 (wCons (wTup (wCons (wC (.int 1)) (wCons (wC (.int 2)) wNil))) (wCons (wCall f3 (wCons (wVar 8) (wCons (wVar 9) wNil))) wNil))) [8, 9]) wNil))) wNext)
  (wDrop (wM oAppend (wVar 4) (wCons (wVar 7) wNil))))))))
  (wRet (wFz (wCall oTuple (wCons (wVar 4) wNil))))))
@[irreducible] def m_p_body : On := fun ds S Q => ∃ (p : Addr) (g : Bool) (many size c : Nat), ds = [.ref p, .int many, .int size, .bl g] ∧ many ≤ 8 ∧ size ≤ 6 ∧ c < 2 ^ 46 ∧ PkAt c p S ∧ ∀ (pts : List (List Rat)) S', pts.length = many → (∀ r ∈ pts, r.length = size ∧ ∀ q ∈ r, bq 500 q) → Pw (c + 300) p S S' → Q (.tup (rowsD pts)) S'
theorem in_p_body {ds : List D} {S : Store} {Q : D → Store → Prop} (h : (fun ds S Q => ∃ (p : Addr) (g : Bool) (many size c : Nat), ds = [.ref p, .int many, .int size, .bl g] ∧ many ≤ 8 ∧ size ≤ 6 ∧ c < 2 ^ 46 ∧ PkAt c p S ∧ ∀ (pts : List (List Rat)) S', pts.length = many → (∀ r ∈ pts, r.length = size ∧ ∀ q ∈ r, bq 500 q) → Pw (c + 300) p S S' → Q (.tup (rowsD pts)) S' : On) ds S Q) : m_p_body ds S Q := by unfold m_p_body; exact h
theorem l_p_body (ds : List D) (S : Store) (Q : D → Store → Prop) (h : m_p_body ds S Q) : ds.length = 4 := by unfold m_p_body at h; obtain ⟨_, _, _, _, _, rfl, _⟩ := h; rfl
set_option maxHeartbeats 4000000 in
theorem v_p_body (ds : List D) (S : Store) (Q : D → Store → Prop) (h : m_p_body ds S Q) : w_p_body m_p_next m_p_row m_p_plus m_p_times (fin Q) (dst 10 ds) S := by
  unfold m_p_body at h
  obtain ⟨p, g, many, size, c, rfl, hm, hs, hc, hS, q⟩ := h
  have hlen : (rngD 0 (many : Int)).length = many := by rw [rngD_len]; omega
  unfold w_p_body
  refine ⟨by show 0 ≤ sizeLine; decide, fun f hf => ?_⟩
  have hfp := hS.ne hf
  (repeat first | refine ⟨_, rfl, ?_⟩ | refine ⟨_, _, rfl, (rfl : atI _ _ = some _), ?_⟩ | refine ⟨_, _, rfl, isi_tuple, ?_⟩ | refine ⟨trivial, ?_⟩ | refine ⟨rfl, ?_⟩ | refine ⟨by show _ ≤ sizeLine; decide, ?_⟩)
  refine ⟨⟨by omega, by omega⟩, ?_⟩
  refine for_inv (fun i env S' => i ≤ many ∧ ∃ (o5 o6 o7 : Option D) (pts : List (List Rat)), env = [some (.ref p), some (.int many), some (.int size), some (.bl g), some (.ref f), o5, o6, o7, none, none] ∧ pts.length = i ∧ (∀ r ∈ pts, r.length = size ∧ ∀ q ∈ r, bq (42 + 45 * i) q) ∧ (∀ r0 rest, pts = r0 :: rest → ∀ q ∈ r0, bq 42 q) ∧ S' f = some (.lst (rowsD pts)) ∧ Pw (c + 30 * i) p S S')
    ⟨Nat.zero_le _, _, _, _, [], rfl, rfl, by simp, by simp, sput_same, (Pw.refl hS).put hfp hf⟩ ?_ ?_
  · rintro i x env S1 K hx ⟨hi, o5, o6, o7, pts, rfl, hl, hpb, hp0, hF, w⟩ hK
    have hi2 : i < many := by have := (List.getElem?_eq_some_iff.mp hx).1; omega
    refine ⟨trivial, ?_⟩
    (repeat first | refine ⟨_, rfl, ?_⟩ | refine ⟨_, _, rfl, (rfl : atI _ _ = some _), ?_⟩ | refine ⟨_, _, rfl, isi_tuple, ?_⟩ | refine ⟨trivial, ?_⟩ | refine ⟨rfl, ?_⟩ | refine ⟨by show _ ≤ sizeLine; decide, ?_⟩)
    refine use_pnext w.1 (by omega) (by decide) fun way S2 a0 a1 d2 => ?_
    (repeat first | refine ⟨_, rfl, ?_⟩ | refine ⟨_, _, rfl, (rfl : atI _ _ = some _), ?_⟩ | refine ⟨_, _, rfl, isi_tuple, ?_⟩ | refine ⟨trivial, ?_⟩ | refine ⟨rfl, ?_⟩ | refine ⟨by show _ ≤ sizeLine; decide, ?_⟩)
    refine in_p_row ⟨p, g, size, _, rfl, by omega, by omega, d2.at, fun r S3 hrl hrb _ d3 => ?_⟩
    have w3 := (w.sk d2).sk d3
    have hF3 : S3 f = some (.lst (rowsD pts)) := by rw [d3.get hfp, d2.get hfp]; exact hF
    dsimp only
    refine wSeq_cut (fun env S' => ∃ pt : List Rat, env = [some (.ref p), some (.int many), some (.int size), some (.bl g), some (.ref f), some x, some (.int way), some (.tup (rowD pt)), none, none] ∧ pt.length = size ∧ (∀ q ∈ pt, bq (42 + 45 * i) q) ∧ (pts = [] → ∀ q ∈ pt, bq 42 q) ∧ S' f = some (.lst (rowsD pts)) ∧ Pw (c + 30 * i + 25) p S S') (fun env S4 hP => ?_) (fun nx hnx => ?_)
    rotate_left
    · have keep := hnx _ _ ⟨r, rfl, hrl, fun q hq => (hrb q hq).mono (by omega), fun _ => hrb, hF3, w3.up (by omega)⟩
      refine ⟨_, rfl, ite_nf (fun h1 => ?_) fun _ => keep⟩
      refine ⟨_, rfl, by show 0 ≤ sizeLine; decide, ?_⟩
      refine eq_cell hF3 pure_rowsD (Nat.le_trans deep_rowsD (by decide)) rfl (by decide) rfl fun e he => ?_
      cases e with
      | true => exact keep
      | false =>
        have h0 : 0 < pts.length := by
          rcases Nat.eq_zero_or_pos pts.length with h | h
          · have : pts = [] := List.length_eq_zero_iff.mp h
            rw [this] at he
            exact absurd (he.mpr rfl) (by decide)
          · exact h
        refine ⟨_, rfl, _, rfl, _, rfl, _, hF3, ?_⟩
        rw [rowsD_len]
        refine use_pnext w3.1 (by omega) (by omega) fun k S5 b0 b1 d5 => ?_
        obtain ⟨k, rfl⟩ := Int.eq_ofNat_of_zero_le b0
        have hk : k < pts.length := by omega
        have hF5 : S5 f = some (.lst (rowsD pts)) := by rw [d5.get hfp]; exact hF3
        obtain ⟨g1, g2⟩ := hpb _ (List.getElem_mem hk)
        exact ⟨_, _, hF5, rowsD_at hk, hnx _ _ ⟨pts[k], rfl, g1, g2, fun hn => by rw [hn] at h0; exact absurd h0 (by simp), hF5, (w3.sk d5).up (by omega)⟩⟩
    obtain ⟨pt, rfl, hptl, hptb, hpt0, hF4, w4⟩ := hP
    refine wSeq_cut (fun env S' => ∃ pt : List Rat, env = [some (.ref p), some (.int many), some (.int size), some (.bl g), some (.ref f), some x, some (.int way), some (.tup (rowD pt)), none, none] ∧ pt.length = size ∧ (∀ q ∈ pt, bq (42 + 45 * (i + 1)) q) ∧ (pts = [] → ∀ q ∈ pt, bq 42 q) ∧ S' f = some (.lst (rowsD pts)) ∧ Pw (c + 30 * i + 25) p S S') (fun env S5 hP => ?_) (fun nx hnx => ?_)
    rotate_left
    · refine wIf_and3P (pa := decide (way = 1)) (pb := decide (((rowsD pts).length : Int) > 1)) (pc := !g) (fun Q k => ⟨_, rfl, k⟩) (fun _ Q k => ⟨_, rfl, _, hF4, k⟩) (fun _ _ Q k => ⟨_, rfl, k⟩) (fun h1 h2 h3 => ?_) (hnx _ _ ⟨pt, rfl, hptl, fun q hq => (hptb q hq).mono (by omega), hpt0, hF4, w4⟩)
      have h2 := of_decide_eq_true h2
      rw [rowsD_len] at h2
      obtain ⟨ini, lst, e1⟩ : ∃ ini lst, pts = ini ++ [lst] := by
        rcases List.eq_nil_or_concat pts with h | ⟨x, y, h⟩
        · subst h; exact absurd h2 (by decide)
        · exact ⟨x, y, by rw [h]; simp⟩
      obtain ⟨r0, rest, e0⟩ : ∃ r0 rest, pts = r0 :: rest := by
        cases pts with
        | nil => exact absurd h2 (by decide)
        | cons a b => exact ⟨a, b, rfl⟩
      have b0 := hp0 _ _ e0
      have bl := hpb lst (by rw [e1]; simp)
      have bf := hpb r0 (by rw [e0]; simp)
      have at0 : atI (rowsD pts) 0 = some (.tup (rowD r0)) := by rw [e0]; exact rows_at0
      have atl : atI (rowsD pts) (-1) = some (.tup (rowD lst)) := by rw [e1]; exact rows_lastP
      refine ⟨_, rfl, _, _, hF4, at0, ?_⟩
      refine ⟨_, rfl, _, _, hF4, atl, ?_⟩
      refine ⟨_, _, rfl, rfl, zip_lineQ (by omega), ?_⟩
      refine lc_zipQ (fun x y => (1 / 2 : Rat) * (x + y)) ⟨trivial, trivial⟩ (fun u v K hu hv k' => ⟨_, rfl, rfl, by show 2 ≤ sizeLine; decide, ?_⟩) ⟨_, rfl, ?_⟩
      · refine ⟨_, rfl, _, rfl, use_plus (b0 u hu) (bl.2 v hv) (by omega) ?_⟩
        rw [half_dQ]
        exact use_times (n := 2) (m := _) half_bq (bq_add (b0 u hu) (bl.2 v hv)) (by omega) k'
      · refine hnx _ _ ⟨_, rfl, ?_, fun q hq => ?_, (fun hn => by rw [hn] at e0; cases e0), hF4, w4⟩
        · rw [List.length_zipWith, bf.1, bl.1]; omega
        · obtain ⟨k, hk, rfl⟩ := List.getElem_of_mem hq
          rw [List.length_zipWith] at hk
          rw [List.getElem_zipWith]
          exact (bq_mul (n := 2) half_bq (bq_add (b0 _ (List.getElem_mem _)) (bl.2 _ (List.getElem_mem _)))).mono (by omega)
    obtain ⟨pt, rfl, hptl, hptb, hpt0, hF5, w5⟩ := hP
    (repeat first | refine ⟨_, rfl, ?_⟩ | refine ⟨_, _, rfl, (rfl : atI _ _ = some _), ?_⟩ | refine ⟨_, _, rfl, isi_tuple, ?_⟩ | refine ⟨trivial, ?_⟩ | refine ⟨rfl, ?_⟩ | refine ⟨by show _ ≤ sizeLine; decide, ?_⟩)
    refine ⟨⟨_, hF5⟩, ?_⟩
    (repeat first | refine ⟨_, rfl, ?_⟩ | refine ⟨_, _, rfl, (rfl : atI _ _ = some _), ?_⟩ | refine ⟨_, _, rfl, isi_tuple, ?_⟩ | refine ⟨trivial, ?_⟩ | refine ⟨rfl, ?_⟩ | refine ⟨by show _ ≤ sizeLine; decide, ?_⟩)
    refine ⟨_, _, hF5, rfl, Nat.lt_of_le_of_lt (show _ ≤ 8 by rw [rowsD_len]; omega) (by decide), fun b hb => ?_⟩
    cases hb
    refine hK _ _ ⟨hi2, _, _, _, pts ++ [pt], rfl, by simp [hl], fun r hr => ?_, fun r0 rest e => ?_, ?_, (w5.put hfp hf).up (by omega)⟩
    · rcases List.mem_append.mp hr with h | h
      · exact ⟨(hpb r h).1, fun q hq => ((hpb r h).2 q hq).mono (by omega)⟩
      · rw [List.mem_singleton.mp h]; exact ⟨hptl, hptb⟩
    · cases pts with
      | nil =>
        have e : [pt] = r0 :: rest := e
        injection e with e1 e2
        rw [← e1]
        exact hpt0 rfl
      | cons a b =>
        have e : a :: (b ++ [pt]) = r0 :: rest := e
        injection e with e1 e2
        rw [← e1]
        exact hp0 a b rfl
    · rw [sput_same]; unfold rowsD; rw [List.map_append]; rfl
  · rintro env S1 ⟨_, o5, o6, o7, pts, rfl, hl, hpb, hp0, hF, w⟩
    rw [hlen] at hl hpb w
    refine ⟨trivial, ?_⟩
    (repeat first | refine ⟨_, rfl, ?_⟩ | refine ⟨_, _, rfl, (rfl : atI _ _ = some _), ?_⟩ | refine ⟨_, _, rfl, isi_tuple, ?_⟩ | refine ⟨trivial, ?_⟩ | refine ⟨rfl, ?_⟩ | refine ⟨by show _ ≤ sizeLine; decide, ?_⟩)
    refine ⟨_, hF, ?_⟩
    exact ⟨_, _, Sub.refl _, .same _, q pts S1 hl (fun r hr => ⟨(hpb r hr).1, fun q hq => ((hpb r hr).2 q hq).mono (by omega)⟩) (w.up (by omega))⟩

end ND
set_option Elab.async false
set_option linter.all false
set_option maxRecDepth 100000
namespace ND
open PySem PySem.Spec PyProof.Rows L2
/-! ### a body's points: what is looked at -/
/-- a loop of tests over a list: all hold, or the first that fails ends it -/
theorem for_allP {α : Type} {ι : α → D} {a : List α} {g : WG} {b : WS} {E : DEnds} {wt : Store → Prop} {env : Slots} {S : Store} (P : α → Prop) (J : Slots → Prop) (h0 : J env) (hw : wt S)
    (step : ∀ x env (K : Slots → Store → Prop), x ∈ a → J env → (P x → ∀ env2, J env2 → K env2 S) → (¬ P x → ¬ (∀ y ∈ a, P y)) → g (ι x) env S fun env1 S1 => b ⟨K, E.rt⟩ env1 S1)
    (done : ∀ env, J env → (∀ y ∈ a, P y) → E.nx env S) : forW wt g b (a.map ι) E env S := by
  refine for_inv (fun i env S' => S' = S ∧ J env ∧ ∀ y ∈ a.take i, P y) ⟨rfl, h0, by simp⟩ ?_ ?_
  · rintro i x env S' K hx ⟨rfl, hJ, hP⟩ hK
    rw [List.getElem?_map] at hx
    cases e : a[i]? with
    | none => rw [e] at hx; cases hx
    | some y =>
      rw [e] at hx
      cases hx
      refine ⟨hw, step y env K (List.mem_of_getElem? e) hJ (fun py env2 h2 => hK _ _ ⟨rfl, h2, fun z hz => ?_⟩) fun np hall => np (hall y (List.mem_of_getElem? e))⟩
      rw [List.take_add_one, e] at hz
      rcases List.mem_append.mp hz with h | h
      · exact hP z h
      · have : z = y := by simpa using h
        rw [this]; exact py
  · rintro env S' ⟨rfl, hJ, hP⟩
    rw [List.length_map, List.take_of_length_le (Nat.le_refl _)] at hP
    exact ⟨hw, done env hJ hP⟩
theorem all_blsP {a : List Rat} {p : Rat → Bool} {S : Store} {Q : D → Store → Prop} (q : Q (.bl (a.all p)) S) : oAll [.lst (a.map fun x => D.bl (p x))] S Q := by
  refine ⟨a.map p, by show _ = (a.map p).map D.bl; rw [List.map_map]; rfl, ?_⟩
  rw [List.all_map]
  exact q
def wtsB (ws : List Rat) : Bool := ws.all (fun q => decide (0 ≤ q.num)) && decide (dot ws (List.replicate ws.length 1) = 1)
def nearB (pts : List (List Rat)) (asked ws : List Rat) (size : Nat) : Bool := wtsB ws && pts.all fun r => decide (0 ≤ (dot (subQ (sumP pts ws size) asked) (subQ r (sumP pts ws size))).num)
theorem bq_oneP : bq 1 (1 : Rat) := ⟨by decide, by decide⟩
theorem bq_repP {n : Nat} : ∀ q ∈ List.replicate n (1 : Rat), bq 1 q := fun q hq => by rw [(List.mem_replicate.mp hq).2]; exact bq_oneP
theorem one_flat {n : Nat} : (List.replicate n [D.tup [.int 1, .int 1]]).flatten = rowD (List.replicate n 1) := by
  induction n with
  | zero => rfl
  | succ n ih =>
    rw [List.replicate_succ, List.flatten_cons, ih, List.replicate_succ]
    rfl
theorem all_falseP {α : Type} {l : List α} {p : α → Bool} {x : α} (h : x ∈ l) (hx : p x = false) : l.all p = false := by
  rw [List.all_eq_false]
  exact ⟨x, h, by rw [hx]; exact Bool.false_ne_true⟩
theorem dot_ones {ws : List Rat} {m i : Nat} (h : ∀ q ∈ ws, bq m q) (hi : i ≤ ws.length) : bq ((m + 2) * i + 1) (dot (ws.take i) (List.replicate i 1)) := by
  have := bq_dot (as := ws.take i) (bs := List.replicate i (1 : Rat)) (n := m) (m := 1) (fun q hq => h q (List.mem_of_mem_take hq)) bq_repP
  rw [List.length_take, Nat.min_eq_left hi] at this
  exact this
def w_p_are_weights (f1 : On) : WS :=
  (wSeq (wSet 1 (wTup (wCons (wC (.int 0)) (wCons (wC (.int 1)) wNil))))
  (wSeq (forS (wSeqI (wVar 0)) (gN 2) (wSeq (wIfS (wTst (w2 oLt (w2 oIx (wVar 2) (wC (.int 0))) (wC (.int 0)))) (wRet (wC (.bl false))) wNext)
  (wSet 1 (wCall f1 (wCons (wVar 1) (wCons (wVar 2) wNil))))))
  (wRet (w2 oEq (wVar 1) (wTup (wCons (wC (.int 1)) (wCons (wC (.int 1)) wNil)))))))
@[irreducible] def m_p_are_weights : On := fun ds S Q => ∃ (ws : List Rat) (m : Nat), ds = [.tup (rowD ws)] ∧ ws.length ≤ 20 ∧ (∀ q ∈ ws, bq m q) ∧ m ≤ 1000 ∧ Q (.bl (wtsB ws)) S
theorem in_p_are_weights {ds : List D} {S : Store} {Q : D → Store → Prop} (h : (fun ds S Q => ∃ (ws : List Rat) (m : Nat), ds = [.tup (rowD ws)] ∧ ws.length ≤ 20 ∧ (∀ q ∈ ws, bq m q) ∧ m ≤ 1000 ∧ Q (.bl (wtsB ws)) S : On) ds S Q) : m_p_are_weights ds S Q := by unfold m_p_are_weights; exact h
theorem l_p_are_weights (ds : List D) (S : Store) (Q : D → Store → Prop) (h : m_p_are_weights ds S Q) : ds.length = 1 := by unfold m_p_are_weights at h; obtain ⟨_, _, rfl, _⟩ := h; rfl
theorem v_p_are_weights (ds : List D) (S : Store) (Q : D → Store → Prop) (h : m_p_are_weights ds S Q) : w_p_are_weights m_p_plus (fin Q) (dst 3 ds) S := by
  unfold m_p_are_weights at h
  obtain ⟨ws, m, rfl, hl, hb, hm, q⟩ := h
  unfold w_p_are_weights
  (repeat first | refine ⟨_, rfl, ?_⟩ | refine ⟨_, _, rfl, (rfl : atI _ _ = some _), ?_⟩ | refine ⟨_, _, rfl, isi_tuple, ?_⟩ | refine ⟨trivial, ?_⟩ | refine ⟨rfl, ?_⟩ | refine ⟨by show _ ≤ sizeLine; decide, ?_⟩)
  refine for_inv (fun i env S' => S' = S ∧ i ≤ ws.length ∧ (∀ q ∈ ws.take i, 0 ≤ q.num) ∧ ∃ o2, env = [some (.tup (rowD ws)), some (dQ (dot (ws.take i) (List.replicate i 1))), o2]) ⟨rfl, Nat.zero_le _, by simp, _, rfl⟩ ?_ ?_
  · rintro i x env S' K hx ⟨rfl, hi, hP, o2, rfl⟩ hK
    obtain ⟨r, hr, rfl⟩ := rowD_get hx
    have hi2 : i < ws.length := (List.getElem?_eq_some_iff.mp hr).1
    have hrm := List.mem_of_getElem? hr
    have h1 := dot_ones hb hi
    have h2 := Nat.mul_le_mul (show m + 2 ≤ 1002 by omega) (show i ≤ 20 by omega)
    refine ⟨trivial, ?_⟩
    (repeat first | refine ⟨_, rfl, ?_⟩ | refine ⟨_, _, rfl, (rfl : atI _ _ = some _), ?_⟩ | refine ⟨_, _, rfl, isi_tuple, ?_⟩ | refine ⟨trivial, ?_⟩ | refine ⟨rfl, ?_⟩ | refine ⟨by show _ ≤ sizeLine; decide, ?_⟩)
    refine ite_nf (fun h0 => ?_) fun h0 => ?_
    · have e : wtsB ws = false := by
        unfold wtsB
        rw [all_falseP hrm (decide_eq_false (by omega))]
        rfl
      rw [e] at q
      exact q
    · (repeat first | refine ⟨_, rfl, ?_⟩ | refine ⟨_, _, rfl, (rfl : atI _ _ = some _), ?_⟩ | refine ⟨_, _, rfl, isi_tuple, ?_⟩ | refine ⟨trivial, ?_⟩ | refine ⟨rfl, ?_⟩ | refine ⟨by show _ ≤ sizeLine; decide, ?_⟩)
      refine use_plus h1 (hb r hrm) (by omega) ?_
      refine hK _ _ ⟨rfl, hi2, fun y hy => ?_, some (dQ r), ?_⟩
      · rw [List.take_add_one, hr] at hy
        rcases List.mem_append.mp hy with h | h
        · exact hP y h
        · have : y = r := by simpa using h
          rw [this]; omega
      · have : dot (ws.take (i + 1)) (List.replicate (i + 1) 1) = dot (ws.take i) (List.replicate i 1) + r := by
          rw [List.take_add_one, hr, List.replicate_succ']
          show dot (ws.take i ++ [r]) _ = _
          rw [dot_snoc _ _ _ _ (by simp; omega), Rat.mul_one]
        rw [this]
        rfl
  · rintro env S' ⟨rfl, _, hP, o2, rfl⟩
    rw [rowD_len, List.take_length] at hP ⊢
    refine ⟨trivial, ?_⟩
    (repeat first | refine ⟨_, rfl, ?_⟩ | refine ⟨_, _, rfl, (rfl : atI _ _ = some _), ?_⟩ | refine ⟨_, _, rfl, isi_tuple, ?_⟩ | refine ⟨trivial, ?_⟩ | refine ⟨rfl, ?_⟩ | refine ⟨by show _ ≤ sizeLine; decide, ?_⟩)
    refine eq_dQ (a := dot ws (List.replicate ws.length 1)) (b := 1) ?_
    have e : wtsB ws = decide (dot ws (List.replicate ws.length 1) = 1) := by
      unfold wtsB
      rw [List.all_eq_true.mpr fun y hy => decide_eq_true (hP y hy), Bool.true_and]
    rw [e] at q
    exact q
def w_p_point_holds (f1 : On) (f2 : On) (f3 : On) (f4 : On) : WS :=
  (wSeq (wIfS (wNot (wTst (wCall f1 (wCons (wVar 2) wNil)))) (wRet (wC (.bl false))) wNext)
  (wSeq (wSet 3 (wCall f2 (wCons (wVar 0) (wCons (wVar 2) wNil))))
  (wSeq (wSet 4 (wCall f3 (wCons (wVar 3) (wCons (wVar 1) wNil))))
  (wSeq (forS (wSeqI (wVar 0)) (gN 5) (wIfS (wTst (w2 oLt (w2 oIx (wCall f4 (wCons (wVar 4) (wCons (wCall f3 (wCons (wVar 5) (wCons (wVar 3) wNil))) wNil))) (wC (.int 0))) (wC (.int 0)))) (wRet (wC (.bl false))) wNext))
  (wRet (wC (.bl true)))))))
@[irreducible] def m_p_point_holds : On := fun ds S Q => ∃ (pts : List (List Rat)) (asked ws : List Rat) (n m a size : Nat), ds = [.tup (rowsD pts), .tup (rowD asked), .tup (rowD ws)] ∧ 0 < pts.length ∧ pts.length ≤ 8 ∧ size ≤ 6 ∧ (∀ r ∈ pts, r.length = size ∧ ∀ q ∈ r, bq n q) ∧ ws.length = pts.length ∧ (∀ q ∈ ws, bq m q) ∧ asked.length = size ∧ (∀ q ∈ asked, bq a q) ∧ 0 < n ∧ 0 < m ∧ n ≤ 500 ∧ m ≤ 100 ∧ a ≤ 5000 ∧ Q (.bl (nearB pts asked ws size)) S
theorem in_p_point_holds {ds : List D} {S : Store} {Q : D → Store → Prop} (h : (fun ds S Q => ∃ (pts : List (List Rat)) (asked ws : List Rat) (n m a size : Nat), ds = [.tup (rowsD pts), .tup (rowD asked), .tup (rowD ws)] ∧ 0 < pts.length ∧ pts.length ≤ 8 ∧ size ≤ 6 ∧ (∀ r ∈ pts, r.length = size ∧ ∀ q ∈ r, bq n q) ∧ ws.length = pts.length ∧ (∀ q ∈ ws, bq m q) ∧ asked.length = size ∧ (∀ q ∈ asked, bq a q) ∧ 0 < n ∧ 0 < m ∧ n ≤ 500 ∧ m ≤ 100 ∧ a ≤ 5000 ∧ Q (.bl (nearB pts asked ws size)) S : On) ds S Q) : m_p_point_holds ds S Q := by unfold m_p_point_holds; exact h
theorem l_p_point_holds (ds : List D) (S : Store) (Q : D → Store → Prop) (h : m_p_point_holds ds S Q) : ds.length = 3 := by unfold m_p_point_holds at h; obtain ⟨_, _, _, _, _, _, _, rfl, _⟩ := h; rfl
theorem v_p_point_holds (ds : List D) (S : Store) (Q : D → Store → Prop) (h : m_p_point_holds ds S Q) : w_p_point_holds m_p_are_weights m_p_sum m_p_away m_p_product (fin Q) (dst 6 ds) S := by
  unfold m_p_point_holds at h
  obtain ⟨pts, asked, ws, n, m, a, size, rfl, hp0, hp, hs, hpt, hwl, hwb, hal, hab, n0, m0, hn, hm, ha, q⟩ := h
  unfold w_p_point_holds
  (repeat first | refine ⟨_, rfl, ?_⟩ | refine ⟨_, _, rfl, (rfl : atI _ _ = some _), ?_⟩ | refine ⟨_, _, rfl, isi_tuple, ?_⟩ | refine ⟨trivial, ?_⟩ | refine ⟨rfl, ?_⟩ | refine ⟨by show _ ≤ sizeLine; decide, ?_⟩)
  refine in_p_are_weights ⟨ws, m, rfl, by omega, hwb, by omega, ?_⟩
  cases hw : wtsB ws with
  | false =>
    have e : nearB pts asked ws size = false := by unfold nearB; rw [hw]; rfl
    rw [e] at q
    exact q
  | true =>
    have hN := Nat.mul_le_mul (show n + m + 1 ≤ 601 by omega) hp
    have hb := sumP_bq (N := 5000) hpt hwb (by omega)
    (repeat first | refine ⟨_, rfl, ?_⟩ | refine ⟨_, _, rfl, (rfl : atI _ _ = some _), ?_⟩ | refine ⟨_, _, rfl, isi_tuple, ?_⟩ | refine ⟨trivial, ?_⟩ | refine ⟨rfl, ?_⟩ | refine ⟨by show _ ≤ sizeLine; decide, ?_⟩)
    refine in_p_sum ⟨_, _, pts, ws, n, m, size, rfl, rfl, rfl, hp0, by omega, by omega, hpt, hwl, hwb, n0, m0, by omega, ?_⟩
    (repeat first | refine ⟨_, rfl, ?_⟩ | refine ⟨_, _, rfl, (rfl : atI _ _ = some _), ?_⟩ | refine ⟨_, _, rfl, isi_tuple, ?_⟩ | refine ⟨trivial, ?_⟩ | refine ⟨rfl, ?_⟩ | refine ⟨by show _ ≤ sizeLine; decide, ?_⟩)
    refine in_p_away ⟨_, _, 5000, a, rfl, by rw [sumP_len, hal], by rw [sumP_len]; omega, hb, hab, by omega, ?_⟩
    have hw2 := bq_subQ hb hab
    (repeat first | refine ⟨_, rfl, ?_⟩ | refine ⟨_, _, rfl, (rfl : atI _ _ = some _), ?_⟩ | refine ⟨_, _, rfl, isi_tuple, ?_⟩ | refine ⟨trivial, ?_⟩ | refine ⟨rfl, ?_⟩ | refine ⟨by show _ ≤ sizeLine; decide, ?_⟩)
    refine for_allP (fun r : List Rat => 0 ≤ (dot (subQ (sumP pts ws size) asked) (subQ r (sumP pts ws size))).num) (fun env => ∃ o5, env = [some (.tup (rowsD pts)), some (.tup (rowD asked)), some (.tup (rowD ws)), some (.tup (rowD (sumP pts ws size))), some (.tup (rowD (subQ (sumP pts ws size) asked))), o5]) ⟨_, rfl⟩ trivial ?_ ?_
    · rintro r env K hr ⟨o5, rfl⟩ hK hNo
      obtain ⟨r1, r2⟩ := hpt r hr
      (repeat first | refine ⟨_, rfl, ?_⟩ | refine ⟨_, _, rfl, (rfl : atI _ _ = some _), ?_⟩ | refine ⟨_, _, rfl, isi_tuple, ?_⟩ | refine ⟨trivial, ?_⟩ | refine ⟨rfl, ?_⟩ | refine ⟨by show _ ≤ sizeLine; decide, ?_⟩)
      refine in_p_away ⟨_, _, n, 5000, rfl, by rw [sumP_len, r1], by omega, r2, hb, by omega, ?_⟩
      have hw3 := bq_subQ r2 hb
      have hl1 : (subQ (sumP pts ws size) asked).length = size := by unfold subQ; rw [List.length_zipWith, sumP_len, hal]; omega
      have hl2 : (subQ r (sumP pts ws size)).length = size := by unfold subQ; rw [List.length_zipWith, sumP_len, r1]; omega
      have hM := Nat.mul_le_mul (show 5000 + a + 1 + (n + 5000 + 1) + 1 ≤ 20000 by omega) (show size + 1 ≤ 7 by omega)
      refine use_law_product (n := 5000 + a + 1) (m := n + 5000 + 1) rfl rfl (by rw [hl1, hl2]) hw2 hw3 (by omega) (by omega) (by rw [hl1]; omega) ?_
      (repeat first | refine ⟨_, rfl, ?_⟩ | refine ⟨_, _, rfl, (rfl : atI _ _ = some _), ?_⟩ | refine ⟨_, _, rfl, isi_tuple, ?_⟩ | refine ⟨trivial, ?_⟩ | refine ⟨rfl, ?_⟩ | refine ⟨by show _ ≤ sizeLine; decide, ?_⟩)
      refine ite_nf (fun h0 => ?_) fun h0 => hK (by omega) _ ⟨_, rfl⟩
      have e : nearB pts asked ws size = false := by
        unfold nearB
        rw [all_falseP hr (decide_eq_false (by omega)), Bool.and_false]
      rw [e] at q
      exact q
    · rintro env ⟨o5, rfl⟩ hall
      have e : nearB pts asked ws size = true := by
        unfold nearB
        rw [hw, List.all_eq_true.mpr fun y hy => decide_eq_true (hall y hy)]
        rfl
      rw [e] at q
      exact q
theorem c_goP {d : D} {env : Slots} {S : Store} {Q : D → Store → Prop} (h : Q d S) : wC d env S Q := h
def w_are_let (f1 : On) : WS :=
  (wSeq (wSet 1 (wCall f1 (wCons (wVar 0) (wCons (w2 oMul (wTup (wCons (wC (.tup [(.int 1), (.int 1)])) wNil)) (wCall oLen (wCons (wVar 0) wNil))) wNil))))
  (wRet (wAndV (w2 oEq (wVar 1) (wC (.tup [(.int 1), (.int 1)]))) (wCall oAll (wCons (wLc (wSeqI (wVar 0)) (gN 2) wYes (w2 oGe (w2 oIx (wVar 2) (wC (.int 0))) (wC (.int 0))) [2]) wNil)))))
@[irreducible] def m_are_let : On := fun ds S Q => ∃ (ws : List Rat) (m : Nat), ds = [.tup (rowD ws)] ∧ ws.length ≤ 20 ∧ (∀ q ∈ ws, bq m q) ∧ 0 < m ∧ m ≤ 1000 ∧ Q (.bl (wtsB ws)) S
theorem in_are_let {ds : List D} {S : Store} {Q : D → Store → Prop} (h : (fun ds S Q => ∃ (ws : List Rat) (m : Nat), ds = [.tup (rowD ws)] ∧ ws.length ≤ 20 ∧ (∀ q ∈ ws, bq m q) ∧ 0 < m ∧ m ≤ 1000 ∧ Q (.bl (wtsB ws)) S : On) ds S Q) : m_are_let ds S Q := by unfold m_are_let; exact h
theorem l_are_let (ds : List D) (S : Store) (Q : D → Store → Prop) (h : m_are_let ds S Q) : ds.length = 1 := by unfold m_are_let at h; obtain ⟨_, _, rfl, _⟩ := h; rfl
theorem v_are_let (ds : List D) (S : Store) (Q : D → Store → Prop) (h : m_are_let ds S Q) : w_are_let m_product (fin Q) (dst 3 ds) S := by
  unfold m_are_let at h
  obtain ⟨ws, m, rfl, hl, hb, m0, hm, q⟩ := h
  have h2 := Nat.mul_le_mul (show m + 1 + 1 ≤ 1002 by omega) hl
  unfold w_are_let
  (repeat first | refine ⟨_, rfl, ?_⟩ | refine ⟨_, _, rfl, (rfl : atI _ _ = some _), ?_⟩ | refine ⟨_, _, rfl, isi_tuple, ?_⟩ | refine ⟨trivial, ?_⟩ | refine ⟨rfl, ?_⟩ | refine ⟨by show _ ≤ sizeLine; decide, ?_⟩)
  rw [rowD_len]
  refine ⟨by omega, by omega, .inr ⟨by omega, by decide⟩, ?_⟩
  rw [Int.toNat_natCast, one_flat]
  refine use_product2 (n := m) (m := 1) rfl rfl (by simp) hb bq_repP m0 (by decide) (by omega) ?_
  refine ⟨_, rfl, ?_⟩
  dsimp only
  refine c_goP ?_
  refine eq_dQ (a := dot ws (List.replicate ws.length 1)) (b := 1) ?_
  by_cases h : dot ws (List.replicate ws.length 1) = 1
  · have e : wtsB ws = ws.all fun q => decide (0 ≤ q.num) := by unfold wtsB; rw [decide_eq_true h, Bool.and_true]
    rw [e] at q
    rw [decide_eq_true h]
    (repeat first | refine ⟨_, rfl, ?_⟩ | refine ⟨_, _, rfl, (rfl : atI _ _ = some _), ?_⟩ | refine ⟨_, _, rfl, isi_tuple, ?_⟩ | refine ⟨trivial, ?_⟩ | refine ⟨rfl, ?_⟩ | refine ⟨by show _ ≤ sizeLine; decide, ?_⟩)
    refine ⟨by rw [rowD_len]; exact Nat.le_trans hl (by decide), ?_⟩
    refine lc_mapA dQ D.bl (fun q => decide (0 ≤ q.num)) ws trivial (fun r K hr k => ?_) ?_
    · (repeat first | refine ⟨_, rfl, ?_⟩ | refine ⟨_, _, rfl, (rfl : atI _ _ = some _), ?_⟩ | refine ⟨_, _, rfl, isi_tuple, ?_⟩ | refine ⟨trivial, ?_⟩ | refine ⟨rfl, ?_⟩ | refine ⟨by show _ ≤ sizeLine; decide, ?_⟩)
      exact k
    · rw [List.map_map]
      exact all_blsP q
  · have e : wtsB ws = false := by unfold wtsB; rw [decide_eq_false h, Bool.and_false]
    rw [e] at q
    rw [decide_eq_false h]
    exact q
def w_sum_of (f1 : On) : WS :=
  (wSeq (wSet 2 (wLstM wNil))
  (wSeq (forS (wRng1 (wCall oLen (wCons (w2 oIx (wVar 0) (wC (.int 0))) wNil))) (gN 3) (wDrop (wM oAppend (wVar 2) (wCons (wCall f1 (wCons (wCall oTuple (wCons (wLc (wSeqI (wVar 0)) (gN 4) wYes (w2 oIx (wVar 4) (wVar 3)) [4]) wNil)) (wCons (wVar 1) wNil))) wNil))))
  (wRet (wFz (wCall oTuple (wCons (wVar 2) wNil))))))
@[irreducible] def m_sum_of : On := fun ds S Q => ∃ (pts : List (List Rat)) (ws : List Rat) (n m size : Nat), ds = [.tup (rowsD pts), .tup (rowD ws)] ∧ 0 < pts.length ∧ pts.length ≤ 20 ∧ size ≤ 100 ∧ (∀ r ∈ pts, r.length = size ∧ ∀ q ∈ r, bq n q) ∧ ws.length = pts.length ∧ (∀ q ∈ ws, bq m q) ∧ 0 < n ∧ 0 < m ∧ n + m ≤ 10000 ∧ ∀ S', Sub S S' → Q (.tup (rowD (sumP pts ws size))) S'
theorem in_sum_of {ds : List D} {S : Store} {Q : D → Store → Prop} (h : (fun ds S Q => ∃ (pts : List (List Rat)) (ws : List Rat) (n m size : Nat), ds = [.tup (rowsD pts), .tup (rowD ws)] ∧ 0 < pts.length ∧ pts.length ≤ 20 ∧ size ≤ 100 ∧ (∀ r ∈ pts, r.length = size ∧ ∀ q ∈ r, bq n q) ∧ ws.length = pts.length ∧ (∀ q ∈ ws, bq m q) ∧ 0 < n ∧ 0 < m ∧ n + m ≤ 10000 ∧ ∀ S', Sub S S' → Q (.tup (rowD (sumP pts ws size))) S' : On) ds S Q) : m_sum_of ds S Q := by unfold m_sum_of; exact h
theorem l_sum_of (ds : List D) (S : Store) (Q : D → Store → Prop) (h : m_sum_of ds S Q) : ds.length = 2 := by unfold m_sum_of at h; obtain ⟨_, _, _, _, _, rfl, _⟩ := h; rfl
theorem v_sum_of (ds : List D) (S : Store) (Q : D → Store → Prop) (h : m_sum_of ds S Q) : w_sum_of m_product (fin Q) (dst 5 ds) S := by
  unfold m_sum_of at h
  obtain ⟨pts, ws, n, m, size, rfl, hp0, hp, hs, hpt, hwl, hwb, n0, m0, hnm, q⟩ := h
  have hlen : (rngD 0 (size : Int)).length = size := by rw [rngD_len]; omega
  have hb := Nat.mul_le_mul (show n + m + 1 ≤ 10001 by omega) (show pts.length ≤ 20 by omega)
  unfold w_sum_of
  refine ⟨by show 0 ≤ sizeLine; decide, fun f hf => ?_⟩
  cases pts with
  | nil => exact absurd hp0 (by simp)
  | cons r0 rest =>
    have h0 := (hpt r0 List.mem_cons_self).1
    (repeat first | refine ⟨_, rfl, ?_⟩ | refine ⟨_, _, rfl, (rfl : atI _ _ = some _), ?_⟩ | refine ⟨_, _, rfl, isi_tuple, ?_⟩ | refine ⟨trivial, ?_⟩ | refine ⟨rfl, ?_⟩ | refine ⟨by show _ ≤ sizeLine; decide, ?_⟩)
    refine ⟨_, _, rfl, rows_at0, ?_⟩
    (repeat first | refine ⟨_, rfl, ?_⟩ | refine ⟨_, _, rfl, (rfl : atI _ _ = some _), ?_⟩ | refine ⟨_, _, rfl, isi_tuple, ?_⟩ | refine ⟨trivial, ?_⟩ | refine ⟨rfl, ?_⟩ | refine ⟨by show _ ≤ sizeLine; decide, ?_⟩)
    rw [rowD_len, h0]
    refine ⟨⟨by omega, by omega⟩, ?_⟩
    refine for_inv (fun i env S' => i ≤ size ∧ S' = sput S f (.lst (rowD ((List.range i).map fun k => dot ((r0 :: rest).map fun r => r.getD k 0) ws))) ∧ ∃ o3, env = [some (.tup (rowsD (r0 :: rest))), some (.tup (rowD ws)), some (.ref f), o3, none]) ⟨Nat.zero_le _, rfl, _, rfl⟩ ?_ ?_
    · rintro i x env S' K hx ⟨hi, rfl, o3, rfl⟩ hK
      obtain ⟨rfl, hi2⟩ := rngD_get hx
      have hi3 : i < size := by omega
      rw [Int.zero_add]
      refine ⟨trivial, ?_⟩
      (repeat first | refine ⟨_, rfl, ?_⟩ | refine ⟨_, _, rfl, (rfl : atI _ _ = some _), ?_⟩ | refine ⟨_, _, rfl, isi_tuple, ?_⟩ | refine ⟨trivial, ?_⟩ | refine ⟨rfl, ?_⟩ | refine ⟨by show _ ≤ sizeLine; decide, ?_⟩)
      refine ⟨⟨_, sput_same⟩, ?_⟩
      (repeat first | refine ⟨_, rfl, ?_⟩ | refine ⟨_, _, rfl, (rfl : atI _ _ = some _), ?_⟩ | refine ⟨_, _, rfl, isi_tuple, ?_⟩ | refine ⟨trivial, ?_⟩ | refine ⟨rfl, ?_⟩ | refine ⟨by show _ ≤ sizeLine; decide, ?_⟩)
      refine ⟨rows_lineQ (by omega), ?_⟩
      refine lc_mapA (fun r : List Rat => D.tup (rowD r)) dQ (fun r => r.getD i 0) (r0 :: rest) trivial (fun r K2 hr k2 => ?_) ?_
      · (repeat first | refine ⟨_, rfl, ?_⟩ | refine ⟨_, _, rfl, (rfl : atI _ _ = some _), ?_⟩ | refine ⟨_, _, rfl, isi_tuple, ?_⟩ | refine ⟨trivial, ?_⟩ | refine ⟨rfl, ?_⟩ | refine ⟨by show _ ≤ sizeLine; decide, ?_⟩)
        exact ⟨_, _, rfl, row_at (by rw [(hpt r hr).1]; exact hi3), k2⟩
      (repeat first | refine ⟨_, rfl, ?_⟩ | refine ⟨_, _, rfl, (rfl : atI _ _ = some _), ?_⟩ | refine ⟨_, _, rfl, isi_tuple, ?_⟩ | refine ⟨trivial, ?_⟩ | refine ⟨rfl, ?_⟩ | refine ⟨by show _ ≤ sizeLine; decide, ?_⟩)
      refine use_product2 (n := n) (m := m) rfl rfl (by rw [List.length_map, hwl]) (fun q hq => ?_) hwb n0 m0 (by rw [List.length_map]; exact Nat.le_trans hb (by decide)) ?_
      · obtain ⟨r, hr, rfl⟩ := List.mem_map.mp hq
        obtain ⟨h1, h2⟩ := hpt r hr
        rw [List.getD_eq_getElem?_getD, List.getElem?_eq_getElem (by omega)]
        exact h2 _ (List.getElem_mem _)
      refine ⟨_, _, sput_same, rfl, Nat.lt_of_le_of_lt (show _ ≤ 100 by rw [rowD_len, List.length_map, List.length_range]; omega) (by decide), fun b hb => ?_⟩
      cases hb
      refine hK _ _ ⟨hi3, ?_, _, rfl⟩
      rw [sput_sput, List.range_succ, List.map_append]
      unfold rowD
      rw [List.map_append]
      rfl
    · rintro env S' ⟨_, rfl, o3, rfl⟩
      rw [hlen]
      refine ⟨trivial, ?_⟩
      (repeat first | refine ⟨_, rfl, ?_⟩ | refine ⟨_, _, rfl, (rfl : atI _ _ = some _), ?_⟩ | refine ⟨_, _, rfl, isi_tuple, ?_⟩ | refine ⟨trivial, ?_⟩ | refine ⟨rfl, ?_⟩ | refine ⟨by show _ ≤ sizeLine; decide, ?_⟩)
      refine ⟨_, sput_same, ?_⟩
      refine ⟨_, _, Sub.refl _, .same _, q _ fun a u e => ?_⟩
      by_cases ha : a = f
      · rw [ha, hf] at e; cases e
      · rw [sput_ne ha]; exact e
def w_apart (f1 : On) : WS :=
  (wRet (wCall oTuple (wCons (wLc (wZipI (wCons (wVar 0) (wCons (wVar 1) wNil))) (gT 2 (gConss (gN 2) (gConss (gN 3) gNils))) wYes (wCall f1 (wCons (wVar 2) (wCons (wVar 3) wNil))) [2, 3]) wNil)))
@[irreducible] def m_apart : On := fun ds S Q => ∃ (a b : List Rat) (n m : Nat), ds = [.tup (rowD a), .tup (rowD b)] ∧ a.length = b.length ∧ a.length ≤ 1000 ∧ (∀ q ∈ a, bq n q) ∧ (∀ q ∈ b, bq m q) ∧ n + m ≤ 900000 ∧ Q (.tup (rowD (subQ a b))) S
theorem in_apart {ds : List D} {S : Store} {Q : D → Store → Prop} (h : (fun ds S Q => ∃ (a b : List Rat) (n m : Nat), ds = [.tup (rowD a), .tup (rowD b)] ∧ a.length = b.length ∧ a.length ≤ 1000 ∧ (∀ q ∈ a, bq n q) ∧ (∀ q ∈ b, bq m q) ∧ n + m ≤ 900000 ∧ Q (.tup (rowD (subQ a b))) S : On) ds S Q) : m_apart ds S Q := by unfold m_apart; exact h
theorem l_apart (ds : List D) (S : Store) (Q : D → Store → Prop) (h : m_apart ds S Q) : ds.length = 2 := by unfold m_apart at h; obtain ⟨_, _, _, _, rfl, _⟩ := h; rfl
theorem v_apart (ds : List D) (S : Store) (Q : D → Store → Prop) (h : m_apart ds S Q) : w_apart m_less (fin Q) (dst 4 ds) S := by
  unfold m_apart at h
  obtain ⟨a, b, n, m, rfl, hl, hl2, ha, hb, hnm, q⟩ := h
  unfold w_apart
  (repeat first | refine ⟨_, rfl, ?_⟩ | refine ⟨_, _, rfl, (rfl : atI _ _ = some _), ?_⟩ | refine ⟨_, _, rfl, isi_tuple, ?_⟩ | refine ⟨trivial, ?_⟩ | refine ⟨rfl, ?_⟩ | refine ⟨by show _ ≤ sizeLine; decide, ?_⟩)
  refine ⟨_, _, rfl, rfl, zip_lineQ hl2, ?_⟩
  exact lc_zipQ (fun x y => x - y) ⟨trivial, trivial⟩ (fun u v K hu hv k' => ⟨_, rfl, rfl, _, rfl, _, rfl, use_less (ha u hu) (hb v hv) hnm k'⟩) ⟨_, rfl, q⟩

end ND
set_option Elab.async false
set_option linter.all false
set_option maxRecDepth 100000
namespace ND
open PySem PySem.Spec PyProof.Rows L2
def w_point_shown (f1 : On) (f2 : On) (f3 : On) (f4 : On) : WS :=
  (wSeq (wIfS (wNot (wTst (wCall f1 (wCons (wVar 2) wNil)))) (wRet (wC (.bl false))) wNext)
  (wSeq (wSet 3 (wCall f2 (wCons (wVar 0) (wCons (wVar 2) wNil))))
  (wSeq (wSet 4 (wCall f3 (wCons (wVar 3) (wCons (wVar 1) wNil))))
  (wSeq (forS (wSeqI (wVar 0)) (gN 5) (wIfS (wTst (w2 oLt (w2 oIx (wCall f4 (wCons (wVar 4) (wCons (wCall f3 (wCons (wVar 5) (wCons (wVar 3) wNil))) wNil))) (wC (.int 0))) (wC (.int 0)))) (wRet (wC (.bl false))) wNext))
  (wRet (wC (.bl true)))))))
@[irreducible] def m_point_shown : On := fun ds S Q => ∃ (pts : List (List Rat)) (asked ws : List Rat) (n m a size : Nat), ds = [.tup (rowsD pts), .tup (rowD asked), .tup (rowD ws)] ∧ 0 < pts.length ∧ pts.length ≤ 8 ∧ size ≤ 6 ∧ (∀ r ∈ pts, r.length = size ∧ ∀ q ∈ r, bq n q) ∧ ws.length = pts.length ∧ (∀ q ∈ ws, bq m q) ∧ asked.length = size ∧ (∀ q ∈ asked, bq a q) ∧ 0 < n ∧ 0 < m ∧ n ≤ 500 ∧ m ≤ 100 ∧ a ≤ 5000 ∧ ∀ S', Sub S S' → Q (.bl (nearB pts asked ws size)) S'
theorem in_point_shown {ds : List D} {S : Store} {Q : D → Store → Prop} (h : (fun ds S Q => ∃ (pts : List (List Rat)) (asked ws : List Rat) (n m a size : Nat), ds = [.tup (rowsD pts), .tup (rowD asked), .tup (rowD ws)] ∧ 0 < pts.length ∧ pts.length ≤ 8 ∧ size ≤ 6 ∧ (∀ r ∈ pts, r.length = size ∧ ∀ q ∈ r, bq n q) ∧ ws.length = pts.length ∧ (∀ q ∈ ws, bq m q) ∧ asked.length = size ∧ (∀ q ∈ asked, bq a q) ∧ 0 < n ∧ 0 < m ∧ n ≤ 500 ∧ m ≤ 100 ∧ a ≤ 5000 ∧ ∀ S', Sub S S' → Q (.bl (nearB pts asked ws size)) S' : On) ds S Q) : m_point_shown ds S Q := by unfold m_point_shown; exact h
theorem l_point_shown (ds : List D) (S : Store) (Q : D → Store → Prop) (h : m_point_shown ds S Q) : ds.length = 3 := by unfold m_point_shown at h; obtain ⟨_, _, _, _, _, _, _, rfl, _⟩ := h; rfl
theorem v_point_shown (ds : List D) (S : Store) (Q : D → Store → Prop) (h : m_point_shown ds S Q) : w_point_shown m_are_let m_sum_of m_apart m_product (fin Q) (dst 6 ds) S := by
  unfold m_point_shown at h
  obtain ⟨pts, asked, ws, n, m, a, size, rfl, hp0, hp, hs, hpt, hwl, hwb, hal, hab, n0, m0, hn, hm, ha, q⟩ := h
  unfold w_point_shown
  (repeat first | refine ⟨_, rfl, ?_⟩ | refine ⟨_, _, rfl, (rfl : atI _ _ = some _), ?_⟩ | refine ⟨_, _, rfl, isi_tuple, ?_⟩ | refine ⟨trivial, ?_⟩ | refine ⟨rfl, ?_⟩ | refine ⟨by show _ ≤ sizeLine; decide, ?_⟩)
  refine in_are_let ⟨ws, m, rfl, by omega, hwb, m0, by omega, ?_⟩
  cases hw : wtsB ws with
  | false =>
    have e : nearB pts asked ws size = false := by unfold nearB; rw [hw]; rfl
    rw [e] at q
    exact q S (Sub.refl _)
  | true =>
    have hN := Nat.mul_le_mul (show n + m + 1 ≤ 601 by omega) hp
    have hb := sumP_bq (N := 5000) hpt hwb (by omega)
    (repeat first | refine ⟨_, rfl, ?_⟩ | refine ⟨_, _, rfl, (rfl : atI _ _ = some _), ?_⟩ | refine ⟨_, _, rfl, isi_tuple, ?_⟩ | refine ⟨trivial, ?_⟩ | refine ⟨rfl, ?_⟩ | refine ⟨by show _ ≤ sizeLine; decide, ?_⟩)
    refine in_sum_of ⟨pts, ws, n, m, size, rfl, hp0, by omega, by omega, hpt, hwl, hwb, n0, m0, by omega, fun S' sub => ?_⟩
    have q := q S' sub
    (repeat first | refine ⟨_, rfl, ?_⟩ | refine ⟨_, _, rfl, (rfl : atI _ _ = some _), ?_⟩ | refine ⟨_, _, rfl, isi_tuple, ?_⟩ | refine ⟨trivial, ?_⟩ | refine ⟨rfl, ?_⟩ | refine ⟨by show _ ≤ sizeLine; decide, ?_⟩)
    refine in_apart ⟨_, _, 5000, a, rfl, by rw [sumP_len, hal], by rw [sumP_len]; omega, hb, hab, by omega, ?_⟩
    have hw2 := bq_subQ hb hab
    (repeat first | refine ⟨_, rfl, ?_⟩ | refine ⟨_, _, rfl, (rfl : atI _ _ = some _), ?_⟩ | refine ⟨_, _, rfl, isi_tuple, ?_⟩ | refine ⟨trivial, ?_⟩ | refine ⟨rfl, ?_⟩ | refine ⟨by show _ ≤ sizeLine; decide, ?_⟩)
    refine for_allP (fun r : List Rat => 0 ≤ (dot (subQ (sumP pts ws size) asked) (subQ r (sumP pts ws size))).num) (fun env => ∃ o5, env = [some (.tup (rowsD pts)), some (.tup (rowD asked)), some (.tup (rowD ws)), some (.tup (rowD (sumP pts ws size))), some (.tup (rowD (subQ (sumP pts ws size) asked))), o5]) ⟨_, rfl⟩ trivial ?_ ?_
    · rintro r env K hr ⟨o5, rfl⟩ hK hNo
      obtain ⟨r1, r2⟩ := hpt r hr
      (repeat first | refine ⟨_, rfl, ?_⟩ | refine ⟨_, _, rfl, (rfl : atI _ _ = some _), ?_⟩ | refine ⟨_, _, rfl, isi_tuple, ?_⟩ | refine ⟨trivial, ?_⟩ | refine ⟨rfl, ?_⟩ | refine ⟨by show _ ≤ sizeLine; decide, ?_⟩)
      refine in_apart ⟨_, _, n, 5000, rfl, by rw [sumP_len, r1], by omega, r2, hb, by omega, ?_⟩
      have hw3 := bq_subQ r2 hb
      have hl1 : (subQ (sumP pts ws size) asked).length = size := by unfold subQ; rw [List.length_zipWith, sumP_len, hal]; omega
      have hl2 : (subQ r (sumP pts ws size)).length = size := by unfold subQ; rw [List.length_zipWith, sumP_len, r1]; omega
      have hM := Nat.mul_le_mul (show 5000 + a + 1 + (n + 5000 + 1) + 1 ≤ 20000 by omega) (show size + 1 ≤ 7 by omega)
      refine use_product (n := 5000 + a + 1) (m := n + 5000 + 1) rfl rfl (by rw [hl1, hl2]) hw2 hw3 (by omega) (by omega) (by rw [hl1]; omega) ?_
      (repeat first | refine ⟨_, rfl, ?_⟩ | refine ⟨_, _, rfl, (rfl : atI _ _ = some _), ?_⟩ | refine ⟨_, _, rfl, isi_tuple, ?_⟩ | refine ⟨trivial, ?_⟩ | refine ⟨rfl, ?_⟩ | refine ⟨by show _ ≤ sizeLine; decide, ?_⟩)
      refine ite_nf (fun h0 => ?_) fun h0 => hK (by omega) _ ⟨_, rfl⟩
      have e : nearB pts asked ws size = false := by
        unfold nearB
        rw [all_falseP hr (decide_eq_false (by omega)), Bool.and_false]
      rw [e] at q
      exact q
    · rintro env ⟨o5, rfl⟩ hall
      have e : nearB pts asked ws size = true := by
        unfold nearB
        rw [hw, List.all_eq_true.mpr fun y hy => decide_eq_true (hall y hy)]
        rfl
      rw [e] at q
      exact q
theorem g2_goP {i j : Nat} {a b : D} {env : Slots} {S : Store} {Q : Slots → Store → Prop} (h : Q ((env.set i (some a)).set j (some b)) S) : gConss (gN i) (gConss (gN j) gNils) [a, b] env S Q := h
theorem zip_atN {as : List Nat} {bs : List Rat} {i : Nat} {x : D} (h : (zipD (as.map fun c => D.int (c : Nat)) (rowD bs))[i]? = some x) : ∃ a b, a ∈ as ∧ b ∈ bs ∧ x = .tup [.int (a : Nat), dQ b] := by
  unfold zipD rowD at h
  rw [List.getElem?_zipWith, List.getElem?_map, List.getElem?_map] at h
  cases h1 : as[i]? with
  | none => rw [h1] at h; simp at h
  | some a =>
    cases h2 : bs[i]? with
    | none => rw [h1, h2] at h; simp at h
    | some b =>
      rw [h1, h2] at h
      simp at h
      exact ⟨a, b, List.mem_of_getElem? h1, List.mem_of_getElem? h2, h.symm⟩
def w_p_planted (f1 : On) (f2 : On) (f3 : On) (f4 : On) (f5 : On) (f6 : On) (f7 : On) (f8 : On) (f9 : On) : WS :=
  (wSeq (wAsg (wCall f1 (wCons (wVar 0) wNil)) (gT 2 (gConss (gN 2) (gConss (gN 3) gNils))))
  (wSeq (wSet 1 (wAndV (wVar 1) (w2 oLt (w2 oMul (wVar 2) (wVar 3)) (wC (.int 13)))))
  (wSeq (wSet 4 (wCall f2 (wCons (wVar 0) (wCons (wVar 2) (wCons (wVar 3) (wCons (wVar 1) wNil))))))
  (wSeq (wSet 5 (wCall oTuple (wCons (wLc (wRng1 (wVar 3)) (gN 11) wYes (wTup (wCons (w2 oSub (wCall f3 (wCons (wVar 0) (wCons (wC (.int 5)) wNil))) (wC (.int 2))) (wCons (wC (.int 1)) wNil))) [11]) wNil)))
  (wSeq (wSet 6 (wLc (wSeqI (wVar 4)) (gN 16) wYes (wCall f4 (wCons (wVar 5) (wCons (wVar 16) wNil))) [16]))
  (wSeq (wSet 7 (w2 oIx (wVar 6) (wC (.int 0))))
  (wSeq (forS (wSeqI (wVar 6)) (gN 8) (wIfS (wTst (w2 oLt (w2 oIx (wCall f5 (wCons (wVar 8) (wCons (wVar 7) wNil))) (wC (.int 0))) (wC (.int 0)))) (wSet 7 (wVar 8)) wNext))
  (wSeq (wSet 9 (wLc (wRng1 (wVar 2)) (gN 11) (wTst (w2 oEq (w2 oIx (wVar 6) (wVar 11)) (wVar 7))) (wVar 11) [11]))
  (wSeq (wSet 10 (w2 oRepM (wLst (wCons (wTup (wCons (wC (.int 0)) (wCons (wC (.int 1)) wNil))) wNil)) (wVar 2)))
  (wSeq (forS (wZipI (wCons (wVar 9) (wCons (wCall f6 (wCons (wVar 0) (wCons (wCall oLen (wCons (wVar 9) wNil)) wNil))) wNil))) (gT 2 (gConss (gN 11) (gConss (gN 12) gNils))) (wAsg (wVar 12) (gS (wVar 10) (wVar 11) oSet)))
  (wSeq (wSet 13 (wCall f7 (wCons (wCall f3 (wCons (wVar 0) (wCons (wC (.int 6)) wNil))) (wCons (w2 oAdd (wC (.int 1)) (wCall f3 (wCons (wVar 0) (wCons (wC (.int 4)) wNil)))) wNil))))
  (wSeq (wSet 14 (wCall f8 (wCons (wVar 4) (wCons (wVar 10) wNil))))
  (wSeq (wSet 15 (wCall oTuple (wCons (wLc (wZipI (wCons (wVar 14) (wCons (wVar 5) wNil))) (gT 2 (gConss (gN 17) (gConss (gN 18) gNils))) wYes (wCall f5 (wCons (wVar 17) (wCons (wCall f9 (wCons (wVar 13) (wCons (wVar 18) wNil))) wNil))) [17, 18]) wNil)))
  (wRet (wFz (wTup (wCons (wVar 4) (wCons (wVar 15) (wCons (wCall oTuple (wCons (wVar 10) wNil)) wNil)))))))))))))))))))
/-- a planted body, an asked point, weights -/
structure BodyC (pts : List (List Rat)) (asked ws : List Rat) (size : Nat) : Prop where
  some : 0 < pts.length
  few : pts.length ≤ 8
  low : size ≤ 6
  pos : 0 < size
  wid : ∀ r ∈ pts, r.length = size ∧ ∀ q ∈ r, bq 500 q
  al : asked.length = size
  ab : ∀ q ∈ asked, bq 4900 q
  wl : ws.length = pts.length
  wb : ∀ q ∈ ws, bq 7 q
@[irreducible] def m_p_planted : On := fun ds S Q => ∃ (p : Addr) (g : Bool) (c : Nat), ds = [.ref p, .bl g] ∧ c < 2 ^ 45 ∧ PkAt c p S ∧ ∀ pts asked ws size S', BodyC pts asked ws size → Pw (c + 1000) p S S' → Q (.tup [.tup (rowsD pts), .tup (rowD asked), .tup (rowD ws)]) S'
theorem in_p_planted {ds : List D} {S : Store} {Q : D → Store → Prop} (h : (fun ds S Q => ∃ (p : Addr) (g : Bool) (c : Nat), ds = [.ref p, .bl g] ∧ c < 2 ^ 45 ∧ PkAt c p S ∧ ∀ pts asked ws size S', BodyC pts asked ws size → Pw (c + 1000) p S S' → Q (.tup [.tup (rowsD pts), .tup (rowD asked), .tup (rowD ws)]) S' : On) ds S Q) : m_p_planted ds S Q := by unfold m_p_planted; exact h
theorem l_p_planted (ds : List D) (S : Store) (Q : D → Store → Prop) (h : m_p_planted ds S Q) : ds.length = 2 := by unfold m_p_planted at h; obtain ⟨_, _, _, rfl, _⟩ := h; rfl
set_option maxHeartbeats 4000000 in
theorem v_p_planted (ds : List D) (S : Store) (Q : D → Store → Prop) (h : m_p_planted ds S Q) : w_p_planted m_p_sizes m_p_body m_p_next m_p_product m_p_less m_p_weights m_p_fraction m_p_sum m_p_times (fin Q) (dst 19 ds) S := by
  unfold m_p_planted at h
  obtain ⟨p, g, c, rfl, hc, hS, q⟩ := h
  unfold w_p_planted
  (repeat first | refine ⟨_, rfl, ?_⟩ | refine ⟨_, _, rfl, (rfl : atI _ _ = some _), ?_⟩ | refine ⟨_, _, rfl, isi_tuple, ?_⟩ | refine ⟨trivial, ?_⟩ | refine ⟨rfl, ?_⟩ | refine ⟨by show _ ≤ sizeLine; decide, ?_⟩)
  refine in_p_sizes ⟨p, c, rfl, by omega, hS, fun many size S1 m0 m8 s0 s6 d1 => ?_⟩
  refine ⟨_, rfl, rfl, ?_⟩
  refine g2_goP ?_
  dsimp only
  refine wSeq_cut (fun env S' => ∃ g' : Bool, env = [some (.ref p), some (.bl g'), some (.int many), some (.int size), none, none, none, none, none, none, none, none, none, none, none, none, none, none, none] ∧ S' = S1) (fun env S2 hP => ?_) (fun nx hnx => ?_)
  rotate_left
  · cases g with
    | false => exact ⟨_, rfl, hnx _ _ ⟨false, rfl, rfl⟩⟩
    | true =>
      refine ⟨_, rfl, ?_⟩
      exact ⟨_, rfl, _, rfl, mulOk (a := 5) (b := 5) (by omega) (by omega), hnx _ _ ⟨_, rfl, rfl⟩⟩
  obtain ⟨g', rfl, rfl⟩ := hP
  (repeat first | refine ⟨_, rfl, ?_⟩ | refine ⟨_, _, rfl, (rfl : atI _ _ = some _), ?_⟩ | refine ⟨_, _, rfl, isi_tuple, ?_⟩ | refine ⟨trivial, ?_⟩ | refine ⟨rfl, ?_⟩ | refine ⟨by show _ ≤ sizeLine; decide, ?_⟩)
  refine in_p_body ⟨p, g', many, size, _, rfl, m8, s6, by omega, d1.at, fun pts S2 hpl hpb w2 => ?_⟩
  have w := ((Pw.refl hS).sk d1).trans w2
  have hlz : (rngD 0 (size : Int)).length = size := by rw [rngD_len]; omega
  (repeat first | refine ⟨_, rfl, ?_⟩ | refine ⟨_, _, rfl, (rfl : atI _ _ = some _), ?_⟩ | refine ⟨_, _, rfl, isi_tuple, ?_⟩ | refine ⟨trivial, ?_⟩ | refine ⟨rfl, ?_⟩ | refine ⟨by show _ ≤ sizeLine; decide, ?_⟩)
  refine ⟨⟨by omega, by omega⟩, by rw [hlz]; exact Nat.le_trans s6 (by decide), ?_⟩
  refine lc_drawP dQ (fun q => bq 3 q) 1 (fun _ => trivial) w.1 (fun x c' S' K hx h1 h2 d K1 => ?_) ?_
  · refine ⟨_, rfl, use_pnext d.at (by omega) (by decide) fun r S3 r0 r1 d3 => ⟨by show 2 ≤ sizeLine; decide, K1 ((r - 2 : Int) : Rat) S3 (bq_int (by omega) (by omega)) d3⟩⟩
  rw [hlz]
  intro way S3 hwl hwb d3
  have w3 := w.sk d3
  (repeat first | refine ⟨_, rfl, ?_⟩ | refine ⟨_, _, rfl, (rfl : atI _ _ = some _), ?_⟩ | refine ⟨_, _, rfl, isi_tuple, ?_⟩ | refine ⟨trivial, ?_⟩ | refine ⟨rfl, ?_⟩ | refine ⟨by show _ ≤ sizeLine; decide, ?_⟩)
  refine ⟨rows_lineQ (by omega), ?_⟩
  refine lc_mapA (fun r : List Rat => D.tup (rowD r)) dQ (fun r => dot way r) pts trivial (fun r K hr k => ?_) ?_
  · refine ⟨_, rfl, _, rfl, use_law_product (n := 3) (m := 500) rfl rfl (by rw [hwl, (hpb r hr).1]) hwb (hpb r hr).2 (by decide) (by decide) (by rw [hwl]; omega) k⟩
  have hhb : ∀ q ∈ pts.map fun r => dot way r, bq 3100 q := fun q hq => by
    obtain ⟨r, hr, rfl⟩ := List.mem_map.mp hq
    exact (bq_dot hwb (hpb r hr).2).mono (by rw [hwl]; omega)
  have hhl : (pts.map fun r => dot way r).length = many := by rw [List.length_map, hpl]
  generalize (pts.map fun r => dot way r) = hs at hhb hhl ⊢
  have at0 : atI (rowD hs) 0 = some (dQ (hs.getD 0 0)) := row_at (k := 0) (by omega)
  refine ⟨_, rfl, _, _, rfl, at0, ?_⟩
  have hh0 : hs.getD 0 0 ∈ hs := by
    rw [List.getD_eq_getElem?_getD, List.getElem?_eq_getElem (by omega)]
    exact List.getElem_mem _
  dsimp only
  refine wSeq_cut (fun env S' => ∃ (lo : Rat) (o8 : Option D), lo ∈ hs ∧ env = [some (.ref p), some (.bl g'), some (.int many), some (.int size), some (.tup (rowsD pts)), some (.tup (rowD way)), some (.lst (rowD hs)), some (dQ lo), o8, none, none, none, none, none, none, none, none, none, none] ∧ S' = S3) (fun env S4 hP => ?_) (fun nx hnx => ?_)
  rotate_left
  · (repeat first | refine ⟨_, rfl, ?_⟩ | refine ⟨_, _, rfl, (rfl : atI _ _ = some _), ?_⟩ | refine ⟨_, _, rfl, isi_tuple, ?_⟩ | refine ⟨trivial, ?_⟩ | refine ⟨rfl, ?_⟩ | refine ⟨by show _ ≤ sizeLine; decide, ?_⟩)
    refine for_inv (fun _ env S' => ∃ (lo : Rat) (o8 : Option D), lo ∈ hs ∧ env = [some (.ref p), some (.bl g'), some (.int many), some (.int size), some (.tup (rowsD pts)), some (.tup (rowD way)), some (.lst (rowD hs)), some (dQ lo), o8, none, none, none, none, none, none, none, none, none, none] ∧ S' = S3) ⟨_, _, hh0, rfl, rfl⟩ ?_ ?_
    · rintro i x env S' K hx ⟨lo, o8, hlo, rfl, rfl⟩ hK
      obtain ⟨r, hr, rfl⟩ := rowD_get hx
      have hrm := List.mem_of_getElem? hr
      refine ⟨trivial, ?_⟩
      (repeat first | refine ⟨_, rfl, ?_⟩ | refine ⟨_, _, rfl, (rfl : atI _ _ = some _), ?_⟩ | refine ⟨_, _, rfl, isi_tuple, ?_⟩ | refine ⟨trivial, ?_⟩ | refine ⟨rfl, ?_⟩ | refine ⟨by show _ ≤ sizeLine; decide, ?_⟩)
      refine use_less (hhb r hrm) (hhb lo hlo) (by decide) ?_
      (repeat first | refine ⟨_, rfl, ?_⟩ | refine ⟨_, _, rfl, (rfl : atI _ _ = some _), ?_⟩ | refine ⟨_, _, rfl, isi_tuple, ?_⟩ | refine ⟨trivial, ?_⟩ | refine ⟨rfl, ?_⟩ | refine ⟨by show _ ≤ sizeLine; decide, ?_⟩)
      refine ite_nf (fun h0 => ?_) fun h0 => hK _ _ ⟨lo, _, hlo, rfl, rfl⟩
      exact ⟨_, rfl, hK _ _ ⟨r, _, hrm, rfl, rfl⟩⟩
    · rintro env S' ⟨lo, o8, hlo, rfl, rfl⟩
      exact ⟨trivial, hnx _ _ ⟨lo, o8, hlo, rfl, rfl⟩⟩
  obtain ⟨lo, o8, hlo, rfl, rfl⟩ := hP
  have hlm : (rngD 0 (many : Int)).length = many := by rw [rngD_len]; omega
  (repeat first | refine ⟨_, rfl, ?_⟩ | refine ⟨_, _, rfl, (rfl : atI _ _ = some _), ?_⟩ | refine ⟨_, _, rfl, isi_tuple, ?_⟩ | refine ⟨trivial, ?_⟩ | refine ⟨rfl, ?_⟩ | refine ⟨by show _ ≤ sizeLine; decide, ?_⟩)
  refine ⟨⟨by omega, by omega⟩, by rw [hlm]; exact Nat.le_trans m8 (by decide), ?_⟩
  refine lc_range (fun k => decide (hs.getD k 0 = lo)) trivial (fun k K K2 hk k1 k2 => ?_) ?_
  · refine ⟨_, rfl, _, rfl, _, _, rfl, row_at (by omega), _, rfl, ?_⟩
    refine eq_dQ ?_
    refine ite_nf (fun h => ?_) fun h => k2 (decide_eq_false h)
    exact ⟨_, rfl, k1 (decide_eq_true h)⟩
  have hface : 0 < ((List.range many).filter fun k => decide (hs.getD k 0 = lo)).length := by
    obtain ⟨k, hk, e⟩ := List.getElem_of_mem hlo
    refine List.length_pos_of_mem (a := k) (List.mem_filter.mpr ⟨List.mem_range.mpr (by omega), ?_⟩)
    rw [List.getD_eq_getElem?_getD, List.getElem?_eq_getElem hk]
    exact decide_eq_true e
  have hface2 : ((List.range many).filter fun k => decide (hs.getD k 0 = lo)).length ≤ many := Nat.le_trans (List.length_filter_le _ _) (by rw [List.length_range]; exact Nat.le_refl _)
  have hface3 : ∀ k ∈ (List.range many).filter fun k => decide (hs.getD k 0 = lo), k < many := fun k hk => List.mem_range.mp (List.mem_filter.mp hk).1
  generalize ((List.range many).filter fun k => decide (hs.getD k 0 = lo)) = face at hface hface2 hface3 ⊢
  (repeat first | refine ⟨_, rfl, ?_⟩ | refine ⟨_, _, rfl, (rfl : atI _ _ = some _), ?_⟩ | refine ⟨_, _, rfl, isi_tuple, ?_⟩ | refine ⟨trivial, ?_⟩ | refine ⟨rfl, ?_⟩ | refine ⟨by show _ ≤ sizeLine; decide, ?_⟩)
  refine ⟨by omega, by omega, Nat.le_trans (show _ ≤ 8 by show 1 * (many : Int).toNat ≤ 8; omega) (by decide), fun f hf => ?_⟩
  have e0 : (List.replicate ((many : Int)).toNat [D.tup [D.int 0, D.int 1]]).flatten = rowD (List.replicate many 0) := by rw [Int.toNat_natCast]; exact flat_one
  rw [e0]
  have t1 := (Lp.put (S0 := S) (L := []) ⟨w3, List.nodup_nil, by simp⟩ hf (l := rowD (List.replicate many 0)) (n := many) (ok := IsQP 7) (by rw [rowD_len, List.length_replicate]) (isQ_ofP fun q hq => by rw [(List.mem_replicate.mp hq).2]; exact bq_zero.mono (by decide))).up (c' := c + 400) (by omega)
  dsimp only
  refine wSeq_cut (fun env S' => ∃ o11 o12, env = [some (.ref p), some (.bl g'), some (.int many), some (.int size), some (.tup (rowsD pts)), some (.tup (rowD way)), some (.lst (rowD hs)), some (dQ lo), o8, some (.lst (face.map fun c => D.int (c : Nat))), some (.ref f), o11, o12, none, none, none, none, none, none] ∧ Lp S p (c + 450) [⟨f, many, IsQP 7⟩] S') (fun env S5 hP => ?_) (fun nx hnx => ?_)
  rotate_left
  · (repeat first | refine ⟨_, rfl, ?_⟩ | refine ⟨_, _, rfl, (rfl : atI _ _ = some _), ?_⟩ | refine ⟨_, _, rfl, isi_tuple, ?_⟩ | refine ⟨trivial, ?_⟩ | refine ⟨rfl, ?_⟩ | refine ⟨by show _ ≤ sizeLine; decide, ?_⟩)
    rw [List.length_map]
    refine in_p_weights ⟨p, face.length, _, rfl, hface, by omega, by omega, t1.at, fun ws S5 hwsl hwsb _ w5 => ?_⟩
    have t2 := (t1.trans w5).up (c' := c + 450) (by omega)
    refine ⟨_, _, rfl, rfl, ?_⟩
    refine for_inv (fun _ env S' => ∃ o11 o12, env = [some (.ref p), some (.bl g'), some (.int many), some (.int size), some (.tup (rowsD pts)), some (.tup (rowD way)), some (.lst (rowD hs)), some (dQ lo), o8, some (.lst (face.map fun c => D.int (c : Nat))), some (.ref f), o11, o12, none, none, none, none, none, none] ∧ Lp S p (c + 450) [⟨f, many, IsQP 7⟩] S') ⟨_, _, rfl, t2⟩ ?_ ?_
    · rintro i x env S' K hx ⟨o11, o12, rfl, t3⟩ hK
      obtain ⟨k, r, hk, hr, rfl⟩ := zip_atN hx
      refine ⟨⟨trivial, trivial⟩, _, rfl, rfl, g2_goP ?_⟩
      dsimp only
      refine ⟨_, rfl, _, rfl, _, rfl, t3.set List.mem_cons_self (by omega) (show ((k : Nat) : Int) < many by have := hface3 k hk; omega) ⟨_, rfl, hwsb r hr⟩ fun S6 t4 => hK _ _ ⟨_, _, rfl, t4⟩⟩
    · rintro env S' ⟨o11, o12, rfl, t3⟩
      exact ⟨⟨trivial, trivial⟩, hnx _ _ ⟨_, _, rfl, t3⟩⟩
  obtain ⟨o11, o12, rfl, t5⟩ := hP
  (repeat first | refine ⟨_, rfl, ?_⟩ | refine ⟨_, _, rfl, (rfl : atI _ _ = some _), ?_⟩ | refine ⟨_, _, rfl, isi_tuple, ?_⟩ | refine ⟨trivial, ?_⟩ | refine ⟨rfl, ?_⟩ | refine ⟨by show _ ≤ sizeLine; decide, ?_⟩)
  refine use_pnext t5.at (by omega) (by decide) fun r1 S6 a0 a1 d6 => ?_
  refine ⟨_, rfl, use_pnext d6.at (by omega) (by decide) fun r2 S7 b0 b1 d7 => use_sfraction (by omega) ?_⟩
  have hfar : bq 3 (Rat.divInt r1 (1 + r2)) := bq_divInt (by omega) (by omega) (by omega)
  have t7 := (t5.sk d6).sk d7
  obtain ⟨ws, ews, lws, bws⟩ := t7.nums List.mem_cons_self rfl
  have lws : ws.length = many := lws
  (repeat first | refine ⟨_, rfl, ?_⟩ | refine ⟨_, _, rfl, (rfl : atI _ _ = some _), ?_⟩ | refine ⟨_, _, rfl, isi_tuple, ?_⟩ | refine ⟨trivial, ?_⟩ | refine ⟨rfl, ?_⟩ | refine ⟨by show _ ≤ sizeLine; decide, ?_⟩)
  refine in_p_sum ⟨_, _, pts, ws, 500, 7, size, rfl, rfl, ews, by omega, by omega, by omega, hpb, by rw [lws, hpl], bws, by decide, by decide, by decide, ?_⟩
  have hb := sumP_bq (N := 4100) hpb bws (by omega)
  have hlh := sumP_len (pts := pts) (ws := ws) (size := size)
  (repeat first | refine ⟨_, rfl, ?_⟩ | refine ⟨_, _, rfl, (rfl : atI _ _ = some _), ?_⟩ | refine ⟨_, _, rfl, isi_tuple, ?_⟩ | refine ⟨trivial, ?_⟩ | refine ⟨rfl, ?_⟩ | refine ⟨by show _ ≤ sizeLine; decide, ?_⟩)
  refine ⟨_, _, rfl, rfl, zip_lineQ (by simp; omega), ?_⟩
  refine lc_zipQ (fun x y => x - Rat.divInt r1 (1 + r2) * y) ⟨trivial, trivial⟩ (fun u v K hu hv k' => ⟨_, rfl, rfl, ?_⟩) ⟨_, rfl, ?_⟩
  · exact ⟨_, rfl, _, rfl, _, rfl, use_times hfar (hwb v hv) (by decide) (use_less (hb u hu) (bq_mul hfar (hwb v hv)) (by decide) k')⟩
  (repeat first | refine ⟨_, rfl, ?_⟩ | refine ⟨_, _, rfl, (rfl : atI _ _ = some _), ?_⟩ | refine ⟨_, _, rfl, isi_tuple, ?_⟩ | refine ⟨trivial, ?_⟩ | refine ⟨rfl, ?_⟩ | refine ⟨by show _ ≤ sizeLine; decide, ?_⟩)
  refine ⟨_, ews, by show 3 ≤ sizeLine; decide, ?_⟩
  refine ⟨_, S7, Sub.refl _, .same _, q pts _ ws size S7 ⟨by omega, by omega, s6, s0, hpb, ?_, fun x hx => ?_, by rw [lws, hpl], bws⟩ (t7.sw.up (by omega))⟩
  · rw [List.length_zipWith, hlh, hwl]; omega
  · obtain ⟨k, hk, rfl⟩ := List.getElem_of_mem hx
    rw [List.length_zipWith] at hk
    rw [List.getElem_zipWith]
    exact (bq_sub (hb _ (List.getElem_mem _)) (bq_mul hfar (hwb _ (List.getElem_mem _)))).mono (by decide)

end ND
set_option Elab.async false
set_option linter.all false
set_option maxRecDepth 100000
namespace ND
open PySem PySem.Spec PyProof.Rows L2
/-! ### two bodies -/
theorem wts_b {ws : List Rat} : wtsB ws = true ↔ WtsQ ws := by
  unfold wtsB WtsQ
  rw [Bool.and_eq_true, List.all_eq_true]
  constructor
  · rintro ⟨h1, h2⟩
    exact ⟨fun q hq => (Rat.num_nonneg (q := q)).mp (of_decide_eq_true (h1 q hq)), of_decide_eq_true h2⟩
  · rintro ⟨h1, h2⟩
    exact ⟨fun q hq => decide_eq_true ((Rat.num_nonneg (q := q)).mpr (h1 q hq)), decide_eq_true h2⟩
/-- what is told of two bodies -/
inductive TwoT where
  | met (a b : List Rat)
  | parted (r : List Rat) (n : Rat)
abbrev TwoT.d : TwoT → D
  | .met a b => .tup [.str "met", .tup (rowD a), .tup (rowD b)]
  | .parted r n => .tup [.str "parted", .tup (rowD r), dQ n]
def TwoT.ok (one other : List (List Rat)) (size : Nat) : TwoT → Prop
  | .met a b => a.length = one.length ∧ b.length = other.length ∧ (∀ q ∈ a, bq 200 q) ∧ ∀ q ∈ b, bq 200 q
  | .parted r n => r.length = size ∧ (∀ q ∈ r, bq 200 q) ∧ bq 60000 n
def TwoT.holds (one other : List (List Rat)) (size : Nat) : TwoT → Bool
  | .met a b => wtsB a && wtsB b && decide (sumP one a size = sumP other b size)
  | .parted r n => (one.all fun p => decide (dot r p < n)) && other.all fun p => decide (n < dot r p)
structure TwoC (one other : List (List Rat)) (size : Nat) : Prop where
  o0 : 0 < one.length
  o8 : one.length ≤ 8
  t0 : 0 < other.length
  t8 : other.length ≤ 8
  low : size ≤ 6
  ow : ∀ r ∈ one, r.length = size ∧ ∀ q ∈ r, bq 9500 q
  tw : ∀ r ∈ other, r.length = size ∧ ∀ q ∈ r, bq 9500 q
theorem sub_pos {a b : Rat} : (a - b).num ≤ 0 ↔ ¬ b < a := by
  have h := Rat.num_nonneg (q := b - a)
  have e : (a - b).num = -(b - a).num := by
    rw [← Rat.neg_num]
    congr 1
    grind
  constructor
  · intro h1 h2
    have h3 : 0 ≤ b - a := h.mp (by omega)
    grind
  · intro h1
    have h2 : 0 ≤ b - a := by grind
    have := h.mpr h2
    omega
theorem eq_rowsT {a b : List Rat} {S : Store} {Q : D → Store → Prop} (q : Q (.bl (decide (a = b))) S) : oEqB false (.tup (rowD a)) (.tup (rowD b)) S Q := by
  have h1 := deep_rowD (qs := a)
  have h2 := deep_rowD (qs := b)
  refine eq_pure (x := .tup (rowD a)) (y := .tup (rowD b)) pure_rowD pure_rowD (by show deepDs (rowD a) + 1 ≤ 64; omega) (by show deepDs (rowD b) + 1 ≤ 64; omega) fun c hc => ?_
  have e : c = decide (a = b) := by
    by_cases h : a = b
    · rw [decide_eq_true h]; exact hc.mpr (by rw [h])
    · rw [decide_eq_false h]
      cases c with
      | true =>
        have := hc.mp rfl
        injection this with z
        exact absurd (rowD_inj z) h
      | false => rfl
  show Q (.bl c) S
  rw [e]
  exact q
theorem strMP : ("parted" : Str) ≠ "met" := by decide
theorem eq_strP {a b : Str} {S : Store} {Q : D → Store → Prop} (ha : PyData.strOk a = true) (hb : PyData.strOk b = true) (q : Q (.bl (decide (a = b))) S) : oEqB false (.str a) (.str b) S Q :=
  eq_pure (by show pureD (.str a) = true; unfold pureD; exact ha) (by show pureD (.str b) = true; unfold pureD; exact hb) (by show 0 ≤ 64; decide) (by show 0 ≤ 64; decide) fun c hc => by
    have e : c = decide (a = b) := by
      by_cases h : a = b
      · rw [decide_eq_true h]; exact hc.mpr (by rw [h])
      · rw [decide_eq_false h]
        cases c with
        | true => have := hc.mp rfl; injection this with z; exact absurd z h
        | false => rfl
    show Q (.bl c) S
    rw [e]
    exact q
theorem g3_goP {i j k : Nat} {a b c : D} {env : Slots} {S : Store} {Q : Slots → Store → Prop} (h : Q (((env.set i (some a)).set j (some b)).set k (some c)) S) : gConss (gN i) (gConss (gN j) (gConss (gN k) gNils)) [a, b, c] env S Q := h
def w_p_two_hold (f1 : On) (f2 : On) (f3 : On) (f4 : On) : WS :=
  (wSeq (wAsg (wVar 2) (gT 3 (gConss (gN 3) (gConss (gN 4) (gConss (gN 5) gNils)))))
  (wSeq (wIfS (wTst (w2 oEq (wVar 3) (wC (.str "met")))) (wSeq (wIfS (wOr (wNot (wTst (wCall f1 (wCons (wVar 4) wNil)))) (wNot (wTst (wCall f1 (wCons (wVar 5) wNil))))) (wRet (wC (.bl false))) wNext)
  (wRet (w2 oEq (wCall f2 (wCons (wVar 0) (wCons (wVar 4) wNil))) (wCall f2 (wCons (wVar 1) (wCons (wVar 5) wNil)))))) wNext)
  (wSeq (forS (wSeqI (wVar 0)) (gN 6) (wIfS (wTst (w2 oLe (w2 oIx (wCall f4 (wCons (wVar 5) (wCons (wCall f3 (wCons (wVar 4) (wCons (wVar 6) wNil))) wNil))) (wC (.int 0))) (wC (.int 0)))) (wRet (wC (.bl false))) wNext))
  (wSeq (forS (wSeqI (wVar 1)) (gN 6) (wIfS (wTst (w2 oLe (w2 oIx (wCall f4 (wCons (wCall f3 (wCons (wVar 4) (wCons (wVar 6) wNil))) (wCons (wVar 5) wNil))) (wC (.int 0))) (wC (.int 0)))) (wRet (wC (.bl false))) wNext))
  (wRet (wC (.bl true)))))))
@[irreducible] def m_p_two_hold : On := fun ds S Q => ∃ (one other : List (List Rat)) (t : TwoT) (size : Nat), ds = [.tup (rowsD one), .tup (rowsD other), t.d] ∧ TwoC one other size ∧ t.ok one other size ∧ Q (.bl (t.holds one other size)) S
theorem in_p_two_hold {ds : List D} {S : Store} {Q : D → Store → Prop} (h : (fun ds S Q => ∃ (one other : List (List Rat)) (t : TwoT) (size : Nat), ds = [.tup (rowsD one), .tup (rowsD other), t.d] ∧ TwoC one other size ∧ t.ok one other size ∧ Q (.bl (t.holds one other size)) S : On) ds S Q) : m_p_two_hold ds S Q := by unfold m_p_two_hold; exact h
theorem l_p_two_hold (ds : List D) (S : Store) (Q : D → Store → Prop) (h : m_p_two_hold ds S Q) : ds.length = 3 := by unfold m_p_two_hold at h; obtain ⟨_, _, _, _, rfl, _⟩ := h; rfl
set_option maxHeartbeats 4000000 in
theorem v_p_two_hold (ds : List D) (S : Store) (Q : D → Store → Prop) (h : m_p_two_hold ds S Q) : w_p_two_hold m_p_are_weights m_p_sum m_p_product m_p_less (fin Q) (dst 7 ds) S := by
  unfold m_p_two_hold at h
  obtain ⟨one, other, t, size, rfl, c, hok, q⟩ := h
  have ho8 := c.o8
  have ht8 := c.t8
  have hlow := c.low
  unfold w_p_two_hold
  cases t with
  | met a b =>
    obtain ⟨a1, b1, a2, b2⟩ := hok
    (repeat first | refine ⟨_, rfl, ?_⟩ | refine ⟨_, _, rfl, (rfl : atI _ _ = some _), ?_⟩ | refine ⟨_, _, rfl, isi_tuple, ?_⟩ | refine ⟨trivial, ?_⟩ | refine ⟨rfl, ?_⟩ | refine ⟨by show _ ≤ sizeLine; decide, ?_⟩)
    refine eq_strP (by decide +kernel) (by decide +kernel) ?_
    rw [decide_eq_true rfl]
    (repeat first | refine ⟨_, rfl, ?_⟩ | refine ⟨_, _, rfl, (rfl : atI _ _ = some _), ?_⟩ | refine ⟨_, _, rfl, isi_tuple, ?_⟩ | refine ⟨trivial, ?_⟩ | refine ⟨rfl, ?_⟩ | refine ⟨by show _ ≤ sizeLine; decide, ?_⟩)
    refine in_p_are_weights ⟨a, 200, rfl, by omega, a2, by decide, ?_⟩
    cases ha : wtsB a with
    | false =>
      have e : (TwoT.met a b).holds one other size = false := by show (wtsB a && wtsB b && _) = false; rw [ha]; rfl
      rw [e] at q
      exact q
    | true =>
      (repeat first | refine ⟨_, rfl, ?_⟩ | refine ⟨_, _, rfl, (rfl : atI _ _ = some _), ?_⟩ | refine ⟨_, _, rfl, isi_tuple, ?_⟩ | refine ⟨trivial, ?_⟩ | refine ⟨rfl, ?_⟩ | refine ⟨by show _ ≤ sizeLine; decide, ?_⟩)
      refine in_p_are_weights ⟨b, 200, rfl, by omega, b2, by decide, ?_⟩
      cases hb : wtsB b with
      | false =>
        have e : (TwoT.met a b).holds one other size = false := by show (wtsB a && wtsB b && _) = false; rw [ha, hb]; rfl
        rw [e] at q
        exact q
      | true =>
        have e : (TwoT.met a b).holds one other size = decide (sumP one a size = sumP other b size) := by show (wtsB a && wtsB b && _) = _; rw [ha, hb]; rfl
        rw [e] at q
        (repeat first | refine ⟨_, rfl, ?_⟩ | refine ⟨_, _, rfl, (rfl : atI _ _ = some _), ?_⟩ | refine ⟨_, _, rfl, isi_tuple, ?_⟩ | refine ⟨trivial, ?_⟩ | refine ⟨rfl, ?_⟩ | refine ⟨by show _ ≤ sizeLine; decide, ?_⟩)
        refine in_p_sum ⟨_, _, one, a, 9500, 200, size, rfl, rfl, rfl, c.o0, by omega, by omega, c.ow, a1, a2, by decide, by decide, by decide, ?_⟩
        (repeat first | refine ⟨_, rfl, ?_⟩ | refine ⟨_, _, rfl, (rfl : atI _ _ = some _), ?_⟩ | refine ⟨_, _, rfl, isi_tuple, ?_⟩ | refine ⟨trivial, ?_⟩ | refine ⟨rfl, ?_⟩ | refine ⟨by show _ ≤ sizeLine; decide, ?_⟩)
        refine in_p_sum ⟨_, _, other, b, 9500, 200, size, rfl, rfl, rfl, c.t0, by omega, by omega, c.tw, b1, b2, by decide, by decide, by decide, ?_⟩
        exact eq_rowsT q
  | parted r n =>
    obtain ⟨r1, r2, hn⟩ := hok
    have hp : ∀ p : List Rat, (p.length = size ∧ ∀ q ∈ p, bq 9500 q) → bq 59000 (dot r p) := fun p h => (bq_dot r2 h.2).mono (by rw [r1]; omega)
    (repeat first | refine ⟨_, rfl, ?_⟩ | refine ⟨_, _, rfl, (rfl : atI _ _ = some _), ?_⟩ | refine ⟨_, _, rfl, isi_tuple, ?_⟩ | refine ⟨trivial, ?_⟩ | refine ⟨rfl, ?_⟩ | refine ⟨by show _ ≤ sizeLine; decide, ?_⟩)
    refine eq_strP (by decide +kernel) (by decide +kernel) ?_
    rw [decide_eq_false (by decide)]
    (repeat first | refine ⟨_, rfl, ?_⟩ | refine ⟨_, _, rfl, (rfl : atI _ _ = some _), ?_⟩ | refine ⟨_, _, rfl, isi_tuple, ?_⟩ | refine ⟨trivial, ?_⟩ | refine ⟨rfl, ?_⟩ | refine ⟨by show _ ≤ sizeLine; decide, ?_⟩)
    refine for_allP (fun p : List Rat => dot r p < n) (fun env => ∃ o6, env = [some (.tup (rowsD one)), some (.tup (rowsD other)), some (TwoT.parted r n).d, some (.str "parted"), some (.tup (rowD r)), some (dQ n), o6]) ⟨_, rfl⟩ trivial ?_ ?_
    · rintro p env K hpm ⟨o6, rfl⟩ hK hNo
      (repeat first | refine ⟨_, rfl, ?_⟩ | refine ⟨_, _, rfl, (rfl : atI _ _ = some _), ?_⟩ | refine ⟨_, _, rfl, isi_tuple, ?_⟩ | refine ⟨trivial, ?_⟩ | refine ⟨rfl, ?_⟩ | refine ⟨by show _ ≤ sizeLine; decide, ?_⟩)
      refine use_law_product (n := 200) (m := 9500) rfl rfl (by rw [r1, (c.ow p hpm).1]) r2 (c.ow p hpm).2 (by decide) (by decide) (by rw [r1]; omega) ?_
      refine use_less hn (hp p (c.ow p hpm)) (by decide) ?_
      (repeat first | refine ⟨_, rfl, ?_⟩ | refine ⟨_, _, rfl, (rfl : atI _ _ = some _), ?_⟩ | refine ⟨_, _, rfl, isi_tuple, ?_⟩ | refine ⟨trivial, ?_⟩ | refine ⟨rfl, ?_⟩ | refine ⟨by show _ ≤ sizeLine; decide, ?_⟩)
      refine ite_nf (fun h0 => ?_) fun h0 => hK (Classical.byContradiction fun z => h0 (sub_pos.mpr z)) _ ⟨_, rfl⟩
      have e : (TwoT.parted r n).holds one other size = false := by
        show ((one.all _) && _) = false
        rw [all_falseP hpm (decide_eq_false (sub_pos.mp h0))]; rfl
      rw [e] at q
      exact q
    · rintro env ⟨o6, rfl⟩ h1
      (repeat first | refine ⟨_, rfl, ?_⟩ | refine ⟨_, _, rfl, (rfl : atI _ _ = some _), ?_⟩ | refine ⟨_, _, rfl, isi_tuple, ?_⟩ | refine ⟨trivial, ?_⟩ | refine ⟨rfl, ?_⟩ | refine ⟨by show _ ≤ sizeLine; decide, ?_⟩)
      refine for_allP (fun p : List Rat => n < dot r p) (fun env => ∃ o6, env = [some (.tup (rowsD one)), some (.tup (rowsD other)), some (TwoT.parted r n).d, some (.str "parted"), some (.tup (rowD r)), some (dQ n), o6]) ⟨_, rfl⟩ trivial ?_ ?_
      · rintro p env K hpm ⟨o6, rfl⟩ hK hNo
        (repeat first | refine ⟨_, rfl, ?_⟩ | refine ⟨_, _, rfl, (rfl : atI _ _ = some _), ?_⟩ | refine ⟨_, _, rfl, isi_tuple, ?_⟩ | refine ⟨trivial, ?_⟩ | refine ⟨rfl, ?_⟩ | refine ⟨by show _ ≤ sizeLine; decide, ?_⟩)
        refine use_law_product (n := 200) (m := 9500) rfl rfl (by rw [r1, (c.tw p hpm).1]) r2 (c.tw p hpm).2 (by decide) (by decide) (by rw [r1]; omega) ?_
        (repeat first | refine ⟨_, rfl, ?_⟩ | refine ⟨_, _, rfl, (rfl : atI _ _ = some _), ?_⟩ | refine ⟨_, _, rfl, isi_tuple, ?_⟩ | refine ⟨trivial, ?_⟩ | refine ⟨rfl, ?_⟩ | refine ⟨by show _ ≤ sizeLine; decide, ?_⟩)
        refine use_less (hp p (c.tw p hpm)) hn (by decide) ?_
        (repeat first | refine ⟨_, rfl, ?_⟩ | refine ⟨_, _, rfl, (rfl : atI _ _ = some _), ?_⟩ | refine ⟨_, _, rfl, isi_tuple, ?_⟩ | refine ⟨trivial, ?_⟩ | refine ⟨rfl, ?_⟩ | refine ⟨by show _ ≤ sizeLine; decide, ?_⟩)
        refine ite_nf (fun h0 => ?_) fun h0 => hK (Classical.byContradiction fun z => h0 (sub_pos.mpr z)) _ ⟨_, rfl⟩
        have e : (TwoT.parted r n).holds one other size = false := by
          show (_ && (other.all _)) = false
          rw [all_falseP hpm (decide_eq_false (sub_pos.mp h0)), Bool.and_false]
        rw [e] at q
        exact q
      · rintro env ⟨o6, rfl⟩ h2
        have e : (TwoT.parted r n).holds one other size = true := by
          show ((one.all _) && (other.all _)) = true
          rw [List.all_eq_true.mpr fun y hy => decide_eq_true (h1 y hy), List.all_eq_true.mpr fun y hy => decide_eq_true (h2 y hy)]; rfl
        rw [e] at q
        exact q
def w_two_shown (f1 : On) (f2 : On) (f3 : On) (f4 : On) : WS :=
  (wSeq (wAsg (wVar 2) (gT 3 (gConss (gN 3) (gConss (gN 4) (gConss (gN 5) gNils)))))
  (wSeq (wIfS (wTst (w2 oEq (wVar 3) (wC (.str "met")))) (wRet (wAndV (wCall f1 (wCons (wVar 4) wNil)) (wAndV (wCall f1 (wCons (wVar 5) wNil)) (w2 oEq (wCall f2 (wCons (wVar 0) (wCons (wVar 4) wNil))) (wCall f2 (wCons (wVar 1) (wCons (wVar 5) wNil))))))) wNext)
  (wSeq (forS (wSeqI (wVar 0)) (gN 6) (wIfS (wTst (w2 oGe (wCall f4 (wCons (wCall f3 (wCons (wVar 4) (wCons (wVar 6) wNil))) (wCons (wVar 5) wNil))) (wC (.int 0)))) (wRet (wC (.bl false))) wNext))
  (wSeq (forS (wSeqI (wVar 1)) (gN 6) (wIfS (wTst (w2 oLe (wCall f4 (wCons (wCall f3 (wCons (wVar 4) (wCons (wVar 6) wNil))) (wCons (wVar 5) wNil))) (wC (.int 0)))) (wRet (wC (.bl false))) wNext))
  (wRet (wC (.bl true)))))))
@[irreducible] def m_two_shown : On := fun ds S Q => ∃ (one other : List (List Rat)) (t : TwoT) (size : Nat), ds = [.tup (rowsD one), .tup (rowsD other), t.d] ∧ TwoC one other size ∧ t.ok one other size ∧ ∀ S', Q (.bl (t.holds one other size)) S'
theorem in_two_shown {ds : List D} {S : Store} {Q : D → Store → Prop} (h : (fun ds S Q => ∃ (one other : List (List Rat)) (t : TwoT) (size : Nat), ds = [.tup (rowsD one), .tup (rowsD other), t.d] ∧ TwoC one other size ∧ t.ok one other size ∧ ∀ S', Q (.bl (t.holds one other size)) S' : On) ds S Q) : m_two_shown ds S Q := by unfold m_two_shown; exact h
theorem l_two_shown (ds : List D) (S : Store) (Q : D → Store → Prop) (h : m_two_shown ds S Q) : ds.length = 3 := by unfold m_two_shown at h; obtain ⟨_, _, _, _, rfl, _⟩ := h; rfl
theorem cmp_ge {a b : Rat} : cmpQ a b ≥ 0 ↔ ¬ a < b := by
  unfold cmpQ
  constructor
  · intro h h2
    rw [if_pos h2] at h
    exact absurd h (by decide)
  · intro h
    rw [if_neg h]
    split <;> decide
theorem cmp_le {a b : Rat} : cmpQ a b ≤ 0 ↔ ¬ b < a := by
  unfold cmpQ
  constructor
  · intro h h2
    rw [if_neg (by grind)] at h
    split at h
    · exact absurd h (by decide)
    · grind
  · intro h
    rw [if_neg (c := b < a) h]
    split <;> decide
set_option maxHeartbeats 4000000 in
theorem v_two_shown (ds : List D) (S : Store) (Q : D → Store → Prop) (h : m_two_shown ds S Q) : w_two_shown m_are_let m_sum_of m_product m_compared (fin Q) (dst 7 ds) S := by
  unfold m_two_shown at h
  obtain ⟨one, other, t, size, rfl, c, hok, q⟩ := h
  have ho8 := c.o8
  have ht8 := c.t8
  have hlow := c.low
  unfold w_two_shown
  cases t with
  | met a b =>
    obtain ⟨a1, b1, a2, b2⟩ := hok
    (repeat first | refine ⟨_, rfl, ?_⟩ | refine ⟨_, _, rfl, (rfl : atI _ _ = some _), ?_⟩ | refine ⟨_, _, rfl, isi_tuple, ?_⟩ | refine ⟨trivial, ?_⟩ | refine ⟨rfl, ?_⟩ | refine ⟨by show _ ≤ sizeLine; decide, ?_⟩)
    refine eq_strP (by decide +kernel) (by decide +kernel) ?_
    rw [decide_eq_true rfl]
    (repeat first | refine ⟨_, rfl, ?_⟩ | refine ⟨_, _, rfl, (rfl : atI _ _ = some _), ?_⟩ | refine ⟨_, _, rfl, isi_tuple, ?_⟩ | refine ⟨trivial, ?_⟩ | refine ⟨rfl, ?_⟩ | refine ⟨by show _ ≤ sizeLine; decide, ?_⟩)
    refine in_are_let ⟨a, 200, rfl, by omega, a2, by decide, by decide, ?_⟩
    cases ha : wtsB a with
    | false =>
      have e : (TwoT.met a b).holds one other size = false := by show (wtsB a && wtsB b && _) = false; rw [ha]; rfl
      rw [e] at q
      exact q _
    | true =>
      (repeat first | refine ⟨_, rfl, ?_⟩ | refine ⟨_, _, rfl, (rfl : atI _ _ = some _), ?_⟩ | refine ⟨_, _, rfl, isi_tuple, ?_⟩ | refine ⟨trivial, ?_⟩ | refine ⟨rfl, ?_⟩ | refine ⟨by show _ ≤ sizeLine; decide, ?_⟩)
      refine in_are_let ⟨b, 200, rfl, by omega, b2, by decide, by decide, ?_⟩
      cases hb : wtsB b with
      | false =>
        have e : (TwoT.met a b).holds one other size = false := by show (wtsB a && wtsB b && _) = false; rw [ha, hb]; rfl
        rw [e] at q
        exact q _
      | true =>
        have e : (TwoT.met a b).holds one other size = decide (sumP one a size = sumP other b size) := by show (wtsB a && wtsB b && _) = _; rw [ha, hb]; rfl
        rw [e] at q
        (repeat first | refine ⟨_, rfl, ?_⟩ | refine ⟨_, _, rfl, (rfl : atI _ _ = some _), ?_⟩ | refine ⟨_, _, rfl, isi_tuple, ?_⟩ | refine ⟨trivial, ?_⟩ | refine ⟨rfl, ?_⟩ | refine ⟨by show _ ≤ sizeLine; decide, ?_⟩)
        refine in_sum_of ⟨one, a, 9500, 200, size, rfl, c.o0, by omega, by omega, c.ow, a1, a2, by decide, by decide, by decide, fun S1 _ => ?_⟩
        (repeat first | refine ⟨_, rfl, ?_⟩ | refine ⟨_, _, rfl, (rfl : atI _ _ = some _), ?_⟩ | refine ⟨_, _, rfl, isi_tuple, ?_⟩ | refine ⟨trivial, ?_⟩ | refine ⟨rfl, ?_⟩ | refine ⟨by show _ ≤ sizeLine; decide, ?_⟩)
        refine in_sum_of ⟨other, b, 9500, 200, size, rfl, c.t0, by omega, by omega, c.tw, b1, b2, by decide, by decide, by decide, fun S2 _ => ?_⟩
        exact eq_rowsT (q _)
  | parted r n =>
    obtain ⟨r1, r2, hn⟩ := hok
    have hp : ∀ p : List Rat, (p.length = size ∧ ∀ q ∈ p, bq 9500 q) → bq 59000 (dot r p) := fun p h => (bq_dot r2 h.2).mono (by rw [r1]; omega)
    (repeat first | refine ⟨_, rfl, ?_⟩ | refine ⟨_, _, rfl, (rfl : atI _ _ = some _), ?_⟩ | refine ⟨_, _, rfl, isi_tuple, ?_⟩ | refine ⟨trivial, ?_⟩ | refine ⟨rfl, ?_⟩ | refine ⟨by show _ ≤ sizeLine; decide, ?_⟩)
    refine eq_strP (by decide +kernel) (by decide +kernel) ?_
    rw [decide_eq_false (by decide)]
    (repeat first | refine ⟨_, rfl, ?_⟩ | refine ⟨_, _, rfl, (rfl : atI _ _ = some _), ?_⟩ | refine ⟨_, _, rfl, isi_tuple, ?_⟩ | refine ⟨trivial, ?_⟩ | refine ⟨rfl, ?_⟩ | refine ⟨by show _ ≤ sizeLine; decide, ?_⟩)
    refine for_allP (fun p : List Rat => dot r p < n) (fun env => ∃ o6, env = [some (.tup (rowsD one)), some (.tup (rowsD other)), some (TwoT.parted r n).d, some (.str "parted"), some (.tup (rowD r)), some (dQ n), o6]) ⟨_, rfl⟩ trivial ?_ ?_
    · rintro p env K hpm ⟨o6, rfl⟩ hK hNo
      (repeat first | refine ⟨_, rfl, ?_⟩ | refine ⟨_, _, rfl, (rfl : atI _ _ = some _), ?_⟩ | refine ⟨_, _, rfl, isi_tuple, ?_⟩ | refine ⟨trivial, ?_⟩ | refine ⟨rfl, ?_⟩ | refine ⟨by show _ ≤ sizeLine; decide, ?_⟩)
      refine use_product2 (n := 200) (m := 9500) rfl rfl (by rw [r1, (c.ow p hpm).1]) r2 (c.ow p hpm).2 (by decide) (by decide) (by rw [r1]; omega) ?_
      (repeat first | refine ⟨_, rfl, ?_⟩ | refine ⟨_, _, rfl, (rfl : atI _ _ = some _), ?_⟩ | refine ⟨_, _, rfl, isi_tuple, ?_⟩ | refine ⟨trivial, ?_⟩ | refine ⟨rfl, ?_⟩ | refine ⟨by show _ ≤ sizeLine; decide, ?_⟩)
      refine use_compared (hp p (c.ow p hpm)) hn (by decide) ?_
      (repeat first | refine ⟨_, rfl, ?_⟩ | refine ⟨_, _, rfl, (rfl : atI _ _ = some _), ?_⟩ | refine ⟨_, _, rfl, isi_tuple, ?_⟩ | refine ⟨trivial, ?_⟩ | refine ⟨rfl, ?_⟩ | refine ⟨by show _ ≤ sizeLine; decide, ?_⟩)
      refine ite_nf (fun h0 => ?_) fun h0 => hK (Classical.byContradiction fun z => h0 (cmp_ge.mpr z)) _ ⟨_, rfl⟩
      have e : (TwoT.parted r n).holds one other size = false := by
        show ((one.all _) && _) = false
        rw [all_falseP hpm (decide_eq_false (cmp_ge.mp h0))]; rfl
      rw [e] at q
      exact q _
    · rintro env ⟨o6, rfl⟩ h1
      (repeat first | refine ⟨_, rfl, ?_⟩ | refine ⟨_, _, rfl, (rfl : atI _ _ = some _), ?_⟩ | refine ⟨_, _, rfl, isi_tuple, ?_⟩ | refine ⟨trivial, ?_⟩ | refine ⟨rfl, ?_⟩ | refine ⟨by show _ ≤ sizeLine; decide, ?_⟩)
      refine for_allP (fun p : List Rat => n < dot r p) (fun env => ∃ o6, env = [some (.tup (rowsD one)), some (.tup (rowsD other)), some (TwoT.parted r n).d, some (.str "parted"), some (.tup (rowD r)), some (dQ n), o6]) ⟨_, rfl⟩ trivial ?_ ?_
      · rintro p env K hpm ⟨o6, rfl⟩ hK hNo
        (repeat first | refine ⟨_, rfl, ?_⟩ | refine ⟨_, _, rfl, (rfl : atI _ _ = some _), ?_⟩ | refine ⟨_, _, rfl, isi_tuple, ?_⟩ | refine ⟨trivial, ?_⟩ | refine ⟨rfl, ?_⟩ | refine ⟨by show _ ≤ sizeLine; decide, ?_⟩)
        refine use_product2 (n := 200) (m := 9500) rfl rfl (by rw [r1, (c.tw p hpm).1]) r2 (c.tw p hpm).2 (by decide) (by decide) (by rw [r1]; omega) ?_
        (repeat first | refine ⟨_, rfl, ?_⟩ | refine ⟨_, _, rfl, (rfl : atI _ _ = some _), ?_⟩ | refine ⟨_, _, rfl, isi_tuple, ?_⟩ | refine ⟨trivial, ?_⟩ | refine ⟨rfl, ?_⟩ | refine ⟨by show _ ≤ sizeLine; decide, ?_⟩)
        refine use_compared (hp p (c.tw p hpm)) hn (by decide) ?_
        (repeat first | refine ⟨_, rfl, ?_⟩ | refine ⟨_, _, rfl, (rfl : atI _ _ = some _), ?_⟩ | refine ⟨_, _, rfl, isi_tuple, ?_⟩ | refine ⟨trivial, ?_⟩ | refine ⟨rfl, ?_⟩ | refine ⟨by show _ ≤ sizeLine; decide, ?_⟩)
        refine ite_nf (fun h0 => ?_) fun h0 => hK (Classical.byContradiction fun z => h0 (cmp_le.mpr z)) _ ⟨_, rfl⟩
        have e : (TwoT.parted r n).holds one other size = false := by
          show (_ && (other.all _)) = false
          rw [all_falseP hpm (decide_eq_false (cmp_le.mp h0)), Bool.and_false]
        rw [e] at q
        exact q _
      · rintro env ⟨o6, rfl⟩ h2
        have e : (TwoT.parted r n).holds one other size = true := by
          show ((one.all _) && (other.all _)) = true
          rw [List.all_eq_true.mpr fun y hy => decide_eq_true (h1 y hy), List.all_eq_true.mpr fun y hy => decide_eq_true (h2 y hy)]; rfl
        rw [e] at q
        exact q _

end ND
set_option Elab.async false
set_option linter.all false
set_option maxRecDepth 100000
namespace ND
open PySem PySem.Spec PyProof.Rows L2
theorem dot_appP : ∀ {a1 b1 a2 b2 : List Rat}, a1.length = b1.length → dot (a1 ++ a2) (b1 ++ b2) = dot a1 b1 + dot a2 b2
  | [], [], a2, b2, _ => by show dot a2 b2 = 0 + dot a2 b2; rw [Rat.zero_add]
  | a :: a1, b :: b1, a2, b2, h => by
    have ih := dot_appP (a1 := a1) (b1 := b1) (a2 := a2) (b2 := b2) (by simpa using h)
    show a * b + dot (a1 ++ a2) (b1 ++ b2) = a * b + dot a1 b1 + dot a2 b2
    rw [ih, Rat.add_assoc]
  | [], b :: b1, _, _, h => by simp at h
  | a :: a1, [], _, _, h => by simp at h
theorem dot_rot {a b : List Rat} {k : Nat} (h : a.length = b.length) : dot (a.drop k ++ a.take k) (b.drop k ++ b.take k) = dot a b := by
  rw [dot_appP (by rw [List.length_drop, List.length_drop, h]), Rat.add_comm, ← dot_appP (by rw [List.length_take, List.length_take, h]), List.take_append_drop, List.take_append_drop]
theorem dot_half : ∀ {a b : List Rat} {c : Rat}, dot a (b.map fun w => c * w) = c * dot a b
  | [], _, c => by rw [dot_nil_left, dot_nil_left, Rat.mul_zero]
  | _ :: _, [], c => by show (0 : Rat) = c * 0; rw [Rat.mul_zero]
  | a :: as, b :: bs, c => by
    show a * (c * b) + dot as (bs.map fun w => c * w) = c * (a * b + dot as bs)
    rw [dot_half]
    grind
abbrev newP (here mid : List Rat) : List Rat := List.zipWith (fun a b => a + a - b) here mid
abbrev rotL {α : Type} (l : List α) (k : Nat) : List α := l.drop k ++ l.take k
theorem met_sum {pts : List (List Rat)} {ws here : List Rat} {size k : Nat} (hl : ws.length = pts.length) (hh : here.length = size) :
    sumP (rotL (pts ++ [newP here (sumP pts ws size)]) k) (rotL (ws.map (fun w => (1 / 2 : Rat) * w) ++ [1 / 2]) k) size = here := by
  refine List.ext_getElem (by rw [sumP_len, hh]) fun i h1 h2 => ?_
  rw [sumP_len] at h1
  rw [List.getElem_map, List.getElem_range, List.map_append, List.map_drop, List.map_take]
  rw [dot_rot (by simp [hl]), List.map_append, dot_appP (by simp [hl]), dot_half]
  have e1 : dot (pts.map fun r => r.getD i 0) ws = (sumP pts ws size).getD i 0 := by
    rw [List.getD_eq_getElem?_getD, List.getElem?_eq_getElem (by rw [sumP_len]; exact h1), List.getElem_map, List.getElem_range]
    rfl
  have e2 : (newP here (sumP pts ws size)).getD i 0 = here[i] + here[i] - (sumP pts ws size).getD i 0 := by
    rw [List.getD_eq_getElem?_getD, List.getD_eq_getElem?_getD, List.getElem?_eq_getElem (by rw [List.length_zipWith, sumP_len]; omega), List.getElem?_eq_getElem (by rw [sumP_len]; exact h1), List.getElem_zipWith]
    rfl
  rw [e1]
  show _ + ((newP here (sumP pts ws size)).getD i 0 * (1 / 2) + 0) = _
  rw [e2]
  grind
theorem met_wts {ws : List Rat} {k : Nat} (h : WtsQ ws) : WtsQ (rotL (ws.map (fun w => (1 / 2 : Rat) * w) ++ [1 / 2]) k) := by
  refine ⟨fun q hq => ?_, ?_⟩
  · rcases List.mem_append.mp (mem_rotP hq) with hq | hq
    · obtain ⟨w, hw, rfl⟩ := List.mem_map.mp hq
      exact Rat.mul_nonneg (by decide +kernel) (h.1 w hw)
    · rw [List.mem_singleton.mp hq]; decide +kernel
  · have e : List.replicate (rotL (ws.map (fun w => (1 / 2 : Rat) * w) ++ [1 / 2]) k).length (1 : Rat) = rotL (List.replicate (ws.length + 1) 1) k := by
      rw [len_rotP (n := ws.length + 1) (by simp)]
      unfold rotL
      rw [List.drop_replicate, List.take_replicate, List.replicate_append_replicate]
      congr 1
      omega
    rw [e, dot_rot (by simp), List.replicate_succ', dot_appP (by simp), dot_comm, dot_half, dot_comm, h.2]
    show (1 / 2 : Rat) * 1 + (1 / 2 * 1 + 0) = 1
    decide +kernel
def w_p_met (f1 : On) (f2 : On) (f3 : On) (f4 : On) (f5 : On) (f6 : On) (f7 : On) : WS :=
  (wSeq (wSet 3 (wCall f2 (wCons (wVar 0) (wCons (w2 oAdd (wC (.int 1)) (wCall f1 (wCons (wVar 0) (wCons (wVar 2) wNil)))) (wCons (wVar 1) (wCons (wC (.bl false)) wNil))))))
  (wSeq (wSet 4 (wCall f3 (wCons (wVar 0) (wCons (wCall oLen (wCons (wVar 3) wNil)) wNil))))
  (wSeq (wSet 5 (wCall f4 (wCons (wVar 3) (wCons (wVar 4) wNil))))
  (wSeq (wSet 6 (wCall oListM (wCons (wCall f2 (wCons (wVar 0) (wCons (w2 oAdd (wC (.int 1)) (wCall f1 (wCons (wVar 0) (wCons (w2 oSub (wVar 2) (wC (.int 1))) wNil)))) (wCons (wVar 1) (wCons (wC (.bl false)) wNil))))) wNil)))
  (wSeq (wSet 7 (wCall f3 (wCons (wVar 0) (wCons (wCall oLen (wCons (wVar 6) wNil)) wNil))))
  (wSeq (wSet 8 (wCall f4 (wCons (wVar 6) (wCons (wVar 7) wNil))))
  (wSeq (wDrop (wM oAppend (wVar 6) (wCons (wCall oTuple (wCons (wLc (wZipI (wCons (wVar 5) (wCons (wVar 8) wNil))) (gT 2 (gConss (gN 11) (gConss (gN 12) gNils))) wYes (wCall f6 (wCons (wCall f5 (wCons (wVar 11) (wCons (wVar 11) wNil))) (wCons (wVar 12) wNil))) [11, 12]) wNil)) wNil)))
  (wSeq (wSet 9 (w2 oAdd (wCall oTuple (wCons (wLc (wSeqI (wVar 7)) (gN 13) wYes (wCall f7 (wCons (wTup (wCons (wC (.int 1)) (wCons (wC (.int 2)) wNil))) (wCons (wVar 13) wNil))) [13]) wNil)) (wTup (wCons (wTup (wCons (wC (.int 1)) (wCons (wC (.int 2)) wNil))) wNil))))
  (wSeq (wSet 10 (wCall f1 (wCons (wVar 0) (wCons (wCall oLen (wCons (wVar 6) wNil)) wNil))))
  (wRet (wFz (wTup (wCons (wVar 3) (wCons (wCall oTuple (wCons (w2 oAdd (wSl (wVar 6) (wP (wVar 10)) wNoP) (wSl (wVar 6) wNoP (wP (wVar 10)))) wNil)) (wCons (wTup (wCons (wC (.str "met")) (wCons (wVar 4) (wCons (w2 oAdd (wSl (wVar 9) (wP (wVar 10)) wNoP) (wSl (wVar 9) wNoP (wP (wVar 10)))) wNil)))) wNil)))))))))))))))
@[irreducible] def m_p_met : On := fun ds S Q => ∃ (p : Addr) (size most c : Nat), ds = [.ref p, .int size, .int most] ∧ 0 < size ∧ size ≤ 6 ∧ 2 ≤ most ∧ most ≤ 6 ∧ c < 2 ^ 44 ∧ PkAt c p S ∧ ∀ (one other : List (List Rat)) (a b : List Rat) S', TwoC one other size → a.length = one.length → b.length = other.length → (∀ q ∈ a, bq 10 q) → (∀ q ∈ b, bq 10 q) → (TwoT.met a b).holds one other size = true → Pw (c + 1000) p S S' → Q (.tup [.tup (rowsD one), .tup (rowsD other), (TwoT.met a b).d]) S'
theorem in_p_met {ds : List D} {S : Store} {Q : D → Store → Prop} (h : (fun ds S Q => ∃ (p : Addr) (size most c : Nat), ds = [.ref p, .int size, .int most] ∧ 0 < size ∧ size ≤ 6 ∧ 2 ≤ most ∧ most ≤ 6 ∧ c < 2 ^ 44 ∧ PkAt c p S ∧ ∀ (one other : List (List Rat)) (a b : List Rat) S', TwoC one other size → a.length = one.length → b.length = other.length → (∀ q ∈ a, bq 10 q) → (∀ q ∈ b, bq 10 q) → (TwoT.met a b).holds one other size = true → Pw (c + 1000) p S S' → Q (.tup [.tup (rowsD one), .tup (rowsD other), (TwoT.met a b).d]) S' : On) ds S Q) : m_p_met ds S Q := by unfold m_p_met; exact h
theorem l_p_met (ds : List D) (S : Store) (Q : D → Store → Prop) (h : m_p_met ds S Q) : ds.length = 3 := by unfold m_p_met at h; obtain ⟨_, _, _, _, rfl, _⟩ := h; rfl
theorem rot_rows {r : List (List Rat)} {k : Nat} : cutD (rowsD r) (some (k : Int)) none ++ cutD (rowsD r) none (some (k : Int)) = rowsD (rotL r k) := by
  unfold rowsD rotL
  rw [cut_from, cut_to, ← List.map_drop, ← List.map_take, ← List.map_append]
set_option maxHeartbeats 4000000 in
theorem v_p_met (ds : List D) (S : Store) (Q : D → Store → Prop) (h : m_p_met ds S Q) : w_p_met m_p_next m_p_body m_p_weights m_p_sum m_p_plus m_p_less m_p_times (fin Q) (dst 14 ds) S := by
  unfold m_p_met at h
  obtain ⟨p, size, most, c, rfl, hs0, hs6, hm2, hm6, hc, hS, q⟩ := h
  unfold w_p_met
  (repeat first | refine ⟨_, rfl, ?_⟩ | refine ⟨_, _, rfl, (rfl : atI _ _ = some _), ?_⟩ | refine ⟨_, _, rfl, isi_tuple, ?_⟩ | refine ⟨trivial, ?_⟩ | refine ⟨rfl, ?_⟩ | refine ⟨by show _ ≤ sizeLine; decide, ?_⟩)
  refine use_pnext hS (by omega) (by omega) fun r1 S1 a0 a1 d1 => ?_
  obtain ⟨n1, rfl⟩ := Int.eq_ofNat_of_zero_le a0
  (repeat first | refine ⟨_, rfl, ?_⟩ | refine ⟨_, _, rfl, (rfl : atI _ _ = some _), ?_⟩ | refine ⟨_, _, rfl, isi_tuple, ?_⟩ | refine ⟨trivial, ?_⟩ | refine ⟨rfl, ?_⟩ | refine ⟨by show _ ≤ sizeLine; decide, ?_⟩)
  refine in_p_body ⟨p, false, 1 + n1, size, _, by rw [show (1 : Int) + (n1 : Nat) = ((1 + n1 : Nat) : Int) by omega], by omega, hs6, by omega, d1.at, fun one S2 hol hob w2 => ?_⟩
  have w := ((Pw.refl hS).sk d1).trans w2
  (repeat first | refine ⟨_, rfl, ?_⟩ | refine ⟨_, _, rfl, (rfl : atI _ _ = some _), ?_⟩ | refine ⟨_, _, rfl, isi_tuple, ?_⟩ | refine ⟨trivial, ?_⟩ | refine ⟨rfl, ?_⟩ | refine ⟨by show _ ≤ sizeLine; decide, ?_⟩)
  rw [rowsD_len, hol]
  refine in_p_weights ⟨p, 1 + n1, _, rfl, by omega, by omega, by omega, w.1, fun fs S3 hfl hfb hfw w3 => ?_⟩
  have w := w.trans w3
  (repeat first | refine ⟨_, rfl, ?_⟩ | refine ⟨_, _, rfl, (rfl : atI _ _ = some _), ?_⟩ | refine ⟨_, _, rfl, isi_tuple, ?_⟩ | refine ⟨trivial, ?_⟩ | refine ⟨rfl, ?_⟩ | refine ⟨by show _ ≤ sizeLine; decide, ?_⟩)
  refine in_p_sum ⟨_, _, one, fs, 500, 7, size, rfl, rfl, rfl, by omega, by omega, by omega, hob, by rw [hfl, hol], hfb, by decide, by decide, by decide, ?_⟩
  have hhb := sumP_bq (N := 3100) hob hfb (by omega)
  have hhl := sumP_len (pts := one) (ws := fs) (size := size)
  (repeat first | refine ⟨_, rfl, ?_⟩ | refine ⟨_, _, rfl, (rfl : atI _ _ = some _), ?_⟩ | refine ⟨_, _, rfl, isi_tuple, ?_⟩ | refine ⟨trivial, ?_⟩ | refine ⟨rfl, ?_⟩ | refine ⟨by show _ ≤ sizeLine; decide, ?_⟩)
  refine use_pnext w.1 (by omega) (by omega) fun r2 S4 b0 b1 d4 => ?_
  have w := w.sk d4
  obtain ⟨n2, rfl⟩ := Int.eq_ofNat_of_zero_le b0
  (repeat first | refine ⟨_, rfl, ?_⟩ | refine ⟨_, _, rfl, (rfl : atI _ _ = some _), ?_⟩ | refine ⟨_, _, rfl, isi_tuple, ?_⟩ | refine ⟨trivial, ?_⟩ | refine ⟨rfl, ?_⟩ | refine ⟨by show _ ≤ sizeLine; decide, ?_⟩)
  refine in_p_body ⟨p, false, 1 + n2, size, _, by rw [show (1 : Int) + (n2 : Nat) = ((1 + n2 : Nat) : Int) by omega], by omega, hs6, by omega, w.1, fun pts S5 hpl hpb w5 => ⟨_, rfl, fun f hf => ?_⟩⟩
  have w := w.trans w5
  obtain ⟨hfp, hfS⟩ := w.new hf
  have w := w.put (l := .lst (rowsD pts)) hfp hfS
  (repeat first | refine ⟨_, rfl, ?_⟩ | refine ⟨_, _, rfl, (rfl : atI _ _ = some _), ?_⟩ | refine ⟨_, _, rfl, isi_tuple, ?_⟩ | refine ⟨trivial, ?_⟩ | refine ⟨rfl, ?_⟩ | refine ⟨by show _ ≤ sizeLine; decide, ?_⟩)
  refine ⟨_, sput_same, ?_⟩
  rw [rowsD_len, hpl]
  refine in_p_weights ⟨p, 1 + n2, _, rfl, by omega, by omega, by omega, w.1, fun ws S6 hwl hwb hww w6 => ?_⟩
  have hF : S6 f = some (.lst (rowsD pts)) := w6.2 _ _ hfp sput_same
  have w := w.trans w6
  (repeat first | refine ⟨_, rfl, ?_⟩ | refine ⟨_, _, rfl, (rfl : atI _ _ = some _), ?_⟩ | refine ⟨_, _, rfl, isi_tuple, ?_⟩ | refine ⟨trivial, ?_⟩ | refine ⟨rfl, ?_⟩ | refine ⟨by show _ ≤ sizeLine; decide, ?_⟩)
  refine in_p_sum ⟨_, _, pts, ws, 500, 7, size, rfl, hF, rfl, by omega, by omega, by omega, hpb, by rw [hwl, hpl], hwb, by decide, by decide, by decide, ?_⟩
  have hmb := sumP_bq (N := 3100) hpb hwb (by omega)
  have hml := sumP_len (pts := pts) (ws := ws) (size := size)
  (repeat first | refine ⟨_, rfl, ?_⟩ | refine ⟨_, _, rfl, (rfl : atI _ _ = some _), ?_⟩ | refine ⟨_, _, rfl, isi_tuple, ?_⟩ | refine ⟨trivial, ?_⟩ | refine ⟨rfl, ?_⟩ | refine ⟨by show _ ≤ sizeLine; decide, ?_⟩)
  refine ⟨⟨_, hF⟩, ?_⟩
  (repeat first | refine ⟨_, rfl, ?_⟩ | refine ⟨_, _, rfl, (rfl : atI _ _ = some _), ?_⟩ | refine ⟨_, _, rfl, isi_tuple, ?_⟩ | refine ⟨trivial, ?_⟩ | refine ⟨rfl, ?_⟩ | refine ⟨by show _ ≤ sizeLine; decide, ?_⟩)
  refine ⟨_, _, rfl, rfl, zip_lineQ (by simp; omega), ?_⟩
  refine lc_zipQ (fun a b => a + a - b) ⟨trivial, trivial⟩ (fun u v K hu hv k' => ⟨_, rfl, rfl, ?_⟩) ⟨_, rfl, ?_⟩
  · exact ⟨_, rfl, _, rfl, use_plus (hhb u hu) (hhb u hu) (by decide) ⟨_, rfl, use_less (bq_add (hhb u hu) (hhb u hu)) (hmb v hv) (by decide) k'⟩⟩
  refine wNil_goP ?_
  dsimp only
  refine ⟨_, _, hF, rfl, Nat.lt_of_le_of_lt (show _ ≤ 8 by rw [rowsD_len]; omega) (by decide), fun b hb => ?_⟩
  cases hb
  have w := w.put (l := .lst (rowsD pts ++ [.tup (rowD (newP (sumP one fs size) (sumP pts ws size)))])) hfp hfS
  have eapp : rowsD pts ++ [D.tup (rowD (newP (sumP one fs size) (sumP pts ws size)))] = rowsD (pts ++ [newP (sumP one fs size) (sumP pts ws size)]) := by unfold rowsD; rw [List.map_append]; rfl
  rw [eapp] at w ⊢
  (repeat first | refine ⟨_, rfl, ?_⟩ | refine ⟨_, _, rfl, (rfl : atI _ _ = some _), ?_⟩ | refine ⟨_, _, rfl, isi_tuple, ?_⟩ | refine ⟨trivial, ?_⟩ | refine ⟨rfl, ?_⟩ | refine ⟨by show _ ≤ sizeLine; decide, ?_⟩)
  refine ⟨by rw [rowD_len, hwl]; exact Nat.le_trans (show _ ≤ 8 by omega) (by decide), ?_⟩
  refine lc_mapA dQ dQ (fun w => (1 / 2 : Rat) * w) ws trivial (fun r K hr k' => ?_) ?_
  · refine ⟨by show 2 ≤ sizeLine; decide, _, rfl, ?_⟩
    rw [half_dQ]
    exact use_times half_bq (hwb r hr) (by decide) k'
  (repeat first | refine ⟨_, rfl, ?_⟩ | refine ⟨_, _, rfl, (rfl : atI _ _ = some _), ?_⟩ | refine ⟨_, _, rfl, isi_tuple, ?_⟩ | refine ⟨trivial, ?_⟩ | refine ⟨rfl, ?_⟩ | refine ⟨by show _ ≤ sizeLine; decide, ?_⟩)
  rw [half_dQ]
  refine ⟨Nat.le_trans (show _ ≤ 9 by rw [List.length_map, List.length_map]; show ws.length + 1 ≤ 9; omega) (by decide), ?_⟩
  rw [show (ws.map fun w => (1 / 2 : Rat) * w).map dQ ++ [dQ (1 / 2)] = rowD (ws.map (fun w => (1 / 2 : Rat) * w) ++ [1 / 2]) by unfold rowD; rw [List.map_append]; rfl]
  (repeat first | refine ⟨_, rfl, ?_⟩ | refine ⟨_, _, rfl, (rfl : atI _ _ = some _), ?_⟩ | refine ⟨_, _, rfl, isi_tuple, ?_⟩ | refine ⟨trivial, ?_⟩ | refine ⟨rfl, ?_⟩ | refine ⟨by show _ ≤ sizeLine; decide, ?_⟩)
  refine ⟨_, sput_same, ?_⟩
  rw [rowsD_len, List.length_append, hpl]
  refine use_pnext w.1 (by omega) (by show (0 : Int) < ((1 + n2 + 1 : Nat) : Int); omega) fun at' S7 e0 e1 d7 => ?_
  obtain ⟨k, rfl⟩ := Int.eq_ofNat_of_zero_le e0
  have hF7 : S7 f = some (.lst (rowsD (pts ++ [newP (sumP one fs size) (sumP pts ws size)]))) := by rw [d7.get hfp]; exact sput_same
  have w := w.sk d7
  (repeat first | refine ⟨_, rfl, ?_⟩ | refine ⟨_, _, rfl, (rfl : atI _ _ = some _), ?_⟩ | refine ⟨_, _, rfl, isi_tuple, ?_⟩ | refine ⟨trivial, ?_⟩ | refine ⟨rfl, ?_⟩ | refine ⟨by show _ ≤ sizeLine; decide, ?_⟩)
  refine ⟨_, hF7, ?_⟩
  (repeat first | refine ⟨_, rfl, ?_⟩ | refine ⟨_, _, rfl, (rfl : atI _ _ = some _), ?_⟩ | refine ⟨_, _, rfl, isi_tuple, ?_⟩ | refine ⟨trivial, ?_⟩ | refine ⟨rfl, ?_⟩ | refine ⟨by show _ ≤ sizeLine; decide, ?_⟩)
  refine ⟨_, hF7, ?_⟩
  refine ⟨_, _, rfl, rfl, ?_⟩
  rw [← List.length_append, rot_rows]
  have hrl := len_rotP (k := k) (show (pts ++ [newP (sumP one fs size) (sumP pts ws size)]).length = 1 + n2 + 1 by rw [List.length_append, hpl]; rfl)
  have hrw := len_rotP (k := k) (show (ws.map (fun w => (1 / 2 : Rat) * w) ++ [1 / 2]).length = 1 + n2 + 1 by rw [List.length_append, List.length_map, hwl]; rfl)
  refine ⟨by rw [rowsD_len, hrl]; exact Nat.le_trans (show _ ≤ 9 by omega) (by decide), ?_⟩
  (repeat first | refine ⟨_, rfl, ?_⟩ | refine ⟨_, _, rfl, (rfl : atI _ _ = some _), ?_⟩ | refine ⟨_, _, rfl, isi_tuple, ?_⟩ | refine ⟨trivial, ?_⟩ | refine ⟨rfl, ?_⟩ | refine ⟨by show _ ≤ sizeLine; decide, ?_⟩)
  dsimp only
  refine ⟨by rw [← List.length_append, rot_rowP, rowD_len, hrw]; exact Nat.le_trans (show _ ≤ 9 by omega) (by decide), ?_⟩
  rw [rot_rowP]
  have hnb : ∀ q ∈ newP (sumP one fs size) (sumP pts ws size), bq 9500 q := fun q hq => by
    obtain ⟨i, hi, rfl⟩ := List.getElem_of_mem hq
    rw [List.length_zipWith] at hi
    rw [List.getElem_zipWith]
    exact (bq_sub (bq_add (hhb _ (List.getElem_mem _)) (hhb _ (List.getElem_mem _))) (hmb _ (List.getElem_mem _))).mono (by decide)
  have hnl : (newP (sumP one fs size) (sumP pts ws size)).length = size := by rw [List.length_zipWith, hhl, hml]; omega
  refine ⟨by show 3 ≤ sizeLine; decide, by show 3 ≤ sizeLine; decide, _, S7, Sub.refl _, .same _, q one (rotL (pts ++ [newP (sumP one fs size) (sumP pts ws size)]) k) fs (rotL (ws.map (fun w => (1 / 2 : Rat) * w) ++ [1 / 2]) k) S7 ⟨by omega, by omega, by rw [hrl]; omega, by rw [hrl]; omega, hs6, fun r hr => ⟨(hob r hr).1, fun q hq => ((hob r hr).2 q hq).mono (by decide)⟩, fun r hr => ?_⟩ (by rw [hfl, hol]) (by rw [hrw, hrl]) (fun q hq => (hfb q hq).mono (by decide)) (fun q hq => ?_) ?_ (w.up (by omega))⟩
  · rcases List.mem_append.mp (mem_rotP hr) with h | h
    · exact ⟨(hpb r h).1, fun q hq => ((hpb r h).2 q hq).mono (by decide)⟩
    · rw [List.mem_singleton.mp h]; exact ⟨hnl, hnb⟩
  · rcases List.mem_append.mp (mem_rotP hq) with h | h
    · obtain ⟨x, hx, rfl⟩ := List.mem_map.mp h
      exact (bq_mul half_bq (hwb x hx)).mono (by decide)
    · rw [List.mem_singleton.mp h]; exact half_bq.mono (by decide)
  · show (wtsB fs && wtsB _ && decide (sumP one fs size = _)) = true
    rw [wts_b.mpr hfw, wts_b.mpr (met_wts hww), met_sum (by rw [hwl, hpl]) hhl, decide_eq_true rfl]
    rfl

end ND
set_option Elab.async false
set_option linter.all false
set_option maxRecDepth 100000
namespace ND
open PySem PySem.Spec PyProof.Rows L2
theorem cut_putP {W : List Rat} {i : Nat} {x : Rat} : cutD (rowD W) none (some (i : Int)) ++ [dQ x] ++ cutD (rowD W) (some ((i : Int) + 1)) none = rowD (W.take i ++ [x] ++ W.drop (i + 1)) := by
  rw [show (i : Int) + 1 = ((i + 1 : Nat) : Int) by omega, cut_to, cut_from]
  unfold rowD
  rw [List.map_append, List.map_append, List.map_take, List.map_drop]
  rfl
theorem dot_bumpP {s : Rat} : ∀ {rs pt : List Rat} {i : Nat}, i < pt.length → i < rs.length → dot rs (pt.take i ++ [pt.getD i 0 + s] ++ pt.drop (i + 1)) = dot rs pt + rs.getD i 0 * s
  | r :: rs, x :: pt, 0, _, _ => by
    show r * (x + s) + dot rs pt = r * x + dot rs pt + r * s
    grind
  | r :: rs, x :: pt, i + 1, h1, h2 => by
    have ih := dot_bumpP (s := s) (rs := rs) (pt := pt) (i := i) (by simpa using h1) (by simpa using h2)
    show r * x + dot rs (pt.take i ++ [pt.getD i 0 + s] ++ pt.drop (i + 1)) = r * x + dot rs pt + rs.getD i 0 * s
    rw [ih, Rat.add_assoc]
  | [], _, _, _, h => by simp at h
  | _ :: _, [], _, h, _ => by simp at h
theorem den_numP (l : Rat) : l * ((l.den : Int) : Rat) = (l.num : Rat) := by
  have h := divInt_mul (a := l.num) (b := (l.den : Int)) (by have := l.den_pos; omega)
  rw [Rat.num_divInt_den] at h
  exact h
theorem step_mul {l q : Rat} (hq : 0 < q.num) : q * Rat.divInt (l.num * (q.den : Nat)) (((l.den : Nat) : Int) * q.num) = l := by
  have hk : ((l.den : Nat) : Int) * q.num ≠ 0 := by
    have := l.den_pos
    exact Int.mul_ne_zero (by omega) (by omega)
  have h := divInt_mul (a := l.num * (q.den : Nat)) hk
  generalize Rat.divInt (l.num * (q.den : Nat)) (((l.den : Nat) : Int) * q.num) = x at h ⊢
  have hk2 : ((((l.den : Nat) : Int) * q.num : Int) : Rat) ≠ 0 := fun e => hk (Rat.intCast_inj.mp e)
  rw [Rat.intCast_mul] at h hk2
  rw [Rat.intCast_mul] at h
  have h1 := den_numP l
  have h2 := den_numP q
  have h3 : (q * x - l) * ((((l.den : Nat) : Int) : Rat) * (q.num : Rat)) = 0 := by grind
  rcases Rat.mul_eq_zero.mp h3 with h | h
  · grind
  · exact absurd h hk2
theorem step_bq {l q : Rat} {n m : Nat} (hl : bq n l) (hq : bq m q) (h0 : 0 < q.num) : bq (n + m) (Rat.divInt (l.num * (q.den : Nat)) (((l.den : Nat) : Int) * q.num)) := by
  refine bq_divInt ?_ ?_ ?_
  · have := l.den_pos
    exact Int.mul_ne_zero (by omega) (by omega)
  · rw [Int.natAbs_mul, Nat.pow_add]
    exact Nat.mul_lt_mul'' hl.1 (by rw [Int.natAbs_natCast]; exact hq.2)
  · rw [Int.natAbs_mul, Nat.pow_add]
    exact Nat.mul_lt_mul'' (by rw [Int.natAbs_natCast]; exact hl.2) hq.1
theorem getD_bqP {r : List Rat} {n k : Nat} (h : ∀ q ∈ r, bq n q) (hk : k < r.length) : bq n (r.getD k 0) := by
  rw [List.getD_eq_getElem?_getD, List.getElem?_eq_getElem hk]
  exact h _ (List.getElem_mem _)
theorem rowsD_getP {rows : List (List Rat)} {i : Nat} {x : D} (h : (rowsD rows)[i]? = some x) : ∃ r, rows[i]? = some r ∧ x = .tup (rowD r) := by
  unfold rowsD at h
  rw [List.getElem?_map] at h
  cases e : rows[i]? with
  | none => rw [e] at h; cases h
  | some r =>
    rw [e] at h
    cases h
    exact ⟨r, rfl, rfl⟩
def w_p_parted (f1 : On) (f2 : On) (f3 : On) (f4 : On) (f5 : On) (f6 : On) (f7 : On) : WS :=
  (wSeq (wSet 3 (wCall f2 (wCons (wVar 0) (wCons (w2 oAdd (wC (.int 1)) (wCall f1 (wCons (wVar 0) (wCons (wVar 2) wNil)))) (wCons (wVar 1) (wCons (wC (.bl false)) wNil))))))
  (wSeq (wSet 4 (wLcM (wRng1 (wVar 1)) (gN 13) wYes (wTup (wCons (w2 oSub (wCall f1 (wCons (wVar 0) (wCons (wC (.int 5)) wNil))) (wC (.int 2))) (wCons (wC (.int 1)) wNil))) [13]))
  (wSeq (wSet 5 (wCall f1 (wCons (wVar 0) (wCons (wVar 1) wNil))))
  (wSeq (wAsg (wTup (wCons (w2 oAdd (wC (.int 1)) (wCall f1 (wCons (wVar 0) (wCons (wC (.int 3)) wNil)))) (wCons (wC (.int 1)) wNil))) (gS (wVar 4) (wVar 5) oSet))
  (wSeq (wSet 6 (wCall f3 (wCons (wVar 4) (wCons (w2 oIx (wVar 3) (wC (.int 0))) wNil))))
  (wSeq (forS (wSeqI (wVar 3)) (gN 7) (wSeq (wSet 8 (wCall f3 (wCons (wVar 4) (wCons (wVar 7) wNil))))
  (wIfS (wTst (w2 oGt (w2 oIx (wCall f4 (wCons (wVar 8) (wCons (wVar 6) wNil))) (wC (.int 0))) (wC (.int 0)))) (wSet 6 (wVar 8)) wNext)))
  (wSeq (wSet 9 (wCall f6 (wCons (wVar 6) (wCons (wCall f5 (wCons (wVar 0) wNil)) wNil))))
  (wSeq (wSet 10 (wLstM wNil))
  (wSeq (forS (wSeqI (wCall f2 (wCons (wVar 0) (wCons (w2 oAdd (wC (.int 1)) (wCall f1 (wCons (wVar 0) (wCons (wVar 2) wNil)))) (wCons (wVar 1) (wCons (wC (.bl false)) wNil)))))) (gN 7) (wSeq (wSet 11 (wCall f4 (wCons (wCall f6 (wCons (wVar 9) (wCons (wCall f5 (wCons (wVar 0) wNil)) wNil))) (wCons (wCall f3 (wCons (wVar 4) (wCons (wVar 7) wNil))) wNil))))
  (wSeq (wIfS (wTst (w2 oGt (w2 oIx (wVar 11) (wC (.int 0))) (wC (.int 0)))) (wSeq (wSet 12 (wCall f7 (wCons (w2 oMul (w2 oIx (wVar 11) (wC (.int 0))) (w2 oIx (w2 oIx (wVar 4) (wVar 5)) (wC (.int 1)))) (wCons (w2 oMul (w2 oIx (wVar 11) (wC (.int 1))) (w2 oIx (w2 oIx (wVar 4) (wVar 5)) (wC (.int 0)))) wNil))))
  (wSet 7 (w2 oAdd (w2 oAdd (wSl (wVar 7) wNoP (wP (wVar 5))) (wTup (wCons (wCall f6 (wCons (w2 oIx (wVar 7) (wVar 5)) (wCons (wVar 12) wNil))) wNil))) (wSl (wVar 7) (wP (w2 oAdd (wVar 5) (wC (.int 1)))) wNoP)))) wNext)
  (wDrop (wM oAppend (wVar 10) (wCons (wVar 7) wNil))))))
  (wRet (wFz (wTup (wCons (wVar 3) (wCons (wCall oTuple (wCons (wVar 10) wNil)) (wCons (wTup (wCons (wC (.str "parted")) (wCons (wCall oTuple (wCons (wVar 4) wNil)) (wCons (wVar 9) wNil)))) wNil)))))))))))))))
@[irreducible] def m_p_parted : On := fun ds S Q => ∃ (p : Addr) (size most c : Nat), ds = [.ref p, .int size, .int most] ∧ 0 < size ∧ size ≤ 6 ∧ 2 ≤ most ∧ most ≤ 6 ∧ c < 2 ^ 44 ∧ PkAt c p S ∧ ∀ (one other : List (List Rat)) (r : List Rat) (n : Rat) S', TwoC one other size → r.length = size → (∀ q ∈ r, bq 3 q) → bq 3100 n → (TwoT.parted r n).holds one other size = true → Pw (c + 1000) p S S' → Q (.tup [.tup (rowsD one), .tup (rowsD other), (TwoT.parted r n).d]) S'
theorem in_p_parted {ds : List D} {S : Store} {Q : D → Store → Prop} (h : (fun ds S Q => ∃ (p : Addr) (size most c : Nat), ds = [.ref p, .int size, .int most] ∧ 0 < size ∧ size ≤ 6 ∧ 2 ≤ most ∧ most ≤ 6 ∧ c < 2 ^ 44 ∧ PkAt c p S ∧ ∀ (one other : List (List Rat)) (r : List Rat) (n : Rat) S', TwoC one other size → r.length = size → (∀ q ∈ r, bq 3 q) → bq 3100 n → (TwoT.parted r n).holds one other size = true → Pw (c + 1000) p S S' → Q (.tup [.tup (rowsD one), .tup (rowsD other), (TwoT.parted r n).d]) S' : On) ds S Q) : m_p_parted ds S Q := by unfold m_p_parted; exact h
theorem l_p_parted (ds : List D) (S : Store) (Q : D → Store → Prop) (h : m_p_parted ds S Q) : ds.length = 3 := by unfold m_p_parted at h; obtain ⟨_, _, _, _, rfl, _⟩ := h; rfl
set_option maxHeartbeats 4000000 in
theorem v_p_parted (ds : List D) (S : Store) (Q : D → Store → Prop) (h : m_p_parted ds S Q) : w_p_parted m_p_next m_p_body m_p_product m_p_less m_p_gap m_p_plus m_p_fraction (fin Q) (dst 14 ds) S := by
  unfold m_p_parted at h
  obtain ⟨p, size, most, c, rfl, hs0, hs6, hm2, hm6, hc, hS, q⟩ := h
  have hlz : (rngD 0 (size : Int)).length = size := by rw [rngD_len]; omega
  unfold w_p_parted
  (repeat first | refine ⟨_, rfl, ?_⟩ | refine ⟨_, _, rfl, (rfl : atI _ _ = some _), ?_⟩ | refine ⟨_, _, rfl, isi_tuple, ?_⟩ | refine ⟨trivial, ?_⟩ | refine ⟨rfl, ?_⟩ | refine ⟨by show _ ≤ sizeLine; decide, ?_⟩)
  refine use_pnext hS (by omega) (by omega) fun r1 S1 a0 a1 d1 => ?_
  obtain ⟨n1, rfl⟩ := Int.eq_ofNat_of_zero_le a0
  (repeat first | refine ⟨_, rfl, ?_⟩ | refine ⟨_, _, rfl, (rfl : atI _ _ = some _), ?_⟩ | refine ⟨_, _, rfl, isi_tuple, ?_⟩ | refine ⟨trivial, ?_⟩ | refine ⟨rfl, ?_⟩ | refine ⟨by show _ ≤ sizeLine; decide, ?_⟩)
  refine in_p_body ⟨p, false, 1 + n1, size, _, by rw [show (1 : Int) + (n1 : Nat) = ((1 + n1 : Nat) : Int) by omega], by omega, hs6, by omega, d1.at, fun one S2 hol hob w2 => ?_⟩
  have w := ((Pw.refl hS).sk d1).trans w2
  (repeat first | refine ⟨_, rfl, ?_⟩ | refine ⟨_, _, rfl, (rfl : atI _ _ = some _), ?_⟩ | refine ⟨_, _, rfl, isi_tuple, ?_⟩ | refine ⟨trivial, ?_⟩ | refine ⟨rfl, ?_⟩ | refine ⟨by show _ ≤ sizeLine; decide, ?_⟩)
  refine ⟨⟨by omega, by omega⟩, by rw [hlz]; exact Nat.le_trans hs6 (by decide), ?_⟩
  refine lc_drawP dQ (fun q => bq 3 q) 1 (fun _ => trivial) w.1 (fun x c' S' K hx h1 h2 d K1 => ?_) ?_
  · refine ⟨_, rfl, use_pnext d.at (by omega) (by decide) fun r S3 r0 r1 d3 => ⟨by show 2 ≤ sizeLine; decide, K1 ((r - 2 : Int) : Rat) S3 (bq_int (by omega) (by omega)) d3⟩⟩
  rw [hlz]
  intro rs S3 hrl hrb d3 f hf
  have w := w.sk d3
  obtain ⟨hfp, hfS⟩ := w.new hf
  have w := w.put (l := .lst (rs.map dQ)) hfp hfS
  (repeat first | refine ⟨_, rfl, ?_⟩ | refine ⟨_, _, rfl, (rfl : atI _ _ = some _), ?_⟩ | refine ⟨_, _, rfl, isi_tuple, ?_⟩ | refine ⟨trivial, ?_⟩ | refine ⟨rfl, ?_⟩ | refine ⟨by show _ ≤ sizeLine; decide, ?_⟩)
  refine use_pnext w.1 (by omega) (by omega) fun at' S4 b0 b1 d4 => ?_
  obtain ⟨k, rfl⟩ := Int.eq_ofNat_of_zero_le b0
  have hk : k < size := by omega
  have w := w.sk d4
  (repeat first | refine ⟨_, rfl, ?_⟩ | refine ⟨_, _, rfl, (rfl : atI _ _ = some _), ?_⟩ | refine ⟨_, _, rfl, isi_tuple, ?_⟩ | refine ⟨trivial, ?_⟩ | refine ⟨rfl, ?_⟩ | refine ⟨by show _ ≤ sizeLine; decide, ?_⟩)
  refine use_pnext w.1 (by omega) (by decide) fun v S5 e0 e1 d5 => ?_
  have w := w.sk d5
  have hF : S5 f = some (.lst (rowD rs)) := by rw [d5.get hfp, d4.get hfp]; exact sput_same
  refine ⟨by show 2 ≤ sizeLine; decide, _, rfl, _, rfl, rowD rs, k, hF, ixN_coP (by rw [rowD_len, hrl]; exact hk), ?_⟩
  have eset : (rowD rs).set k (.tup [.int (1 + v), .int 1]) = rowD (rs.set k (((1 + v : Int)) : Rat)) := by unfold rowD; rw [List.map_set]; rfl
  rw [eset]
  have hrb2 : ∀ q ∈ rs.set k (((1 + v : Int)) : Rat), bq 3 q := fun q hq => by
    rcases List.mem_or_eq_of_mem_set hq with h | rfl
    · exact hrb q h
    · exact bq_int (by omega) (by decide)
  have hrl2 : (rs.set k (((1 + v : Int)) : Rat)).length = size := by rw [List.length_set]; exact hrl
  have hat : (rs.set k (((1 + v : Int)) : Rat)).getD k 0 = ((1 + v : Int) : Rat) := by
    rw [List.getD_eq_getElem?_getD, List.getElem?_set_self (by omega)]; rfl
  have hnum : 0 < ((rs.set k (((1 + v : Int)) : Rat)).getD k 0).num := by rw [hat]; show 0 < 1 + v; omega
  have w := w.put (l := .lst (rowD (rs.set k (((1 + v : Int)) : Rat)))) hfp hfS
  have hF5 : (sput S5 f (.lst (rowD (rs.set k (((1 + v : Int)) : Rat))))) f = some (.lst (rowD (rs.set k (((1 + v : Int)) : Rat)))) := sput_same
  generalize rs.set k (((1 + v : Int)) : Rat) = row at *
  generalize sput S5 f (.lst (rowD row)) = T at *
  obtain ⟨r0, rest, e0'⟩ : ∃ r0 rest, one = r0 :: rest := by
    cases one with
    | nil => simp at hol; omega
    | cons a b => exact ⟨a, b, rfl⟩
  have hr0 := hob r0 (by rw [e0']; simp)
  have at0 : atI (rowsD one) 0 = some (.tup (rowD r0)) := by rw [e0']; exact rows_at0
  have hdb : ∀ x : List Rat, (x.length = size ∧ ∀ q ∈ x, bq 500 q) → bq 3050 (dot row x) := fun x h => (bq_dot hrb2 h.2).mono (by rw [hrl2]; omega)
  have pr : ∀ (x : List Rat) (T' : Store) (R : D → Store → Prop), (x.length = size ∧ ∀ q ∈ x, bq 500 q) → T' f = some (.lst (rowD row)) → R (dQ (dot row x)) T' → m_p_product [.ref f, .tup (rowD x)] T' R := fun x T' R h hT k => use_law_product (n := 3) (m := 500) hT rfl (by rw [hrl2, h.1]) hrb2 h.2 (by decide) (by decide) (by rw [hrl2]; omega) k
  (repeat first | refine ⟨_, rfl, ?_⟩ | refine ⟨_, _, rfl, (rfl : atI _ _ = some _), ?_⟩ | refine ⟨_, _, rfl, isi_tuple, ?_⟩ | refine ⟨trivial, ?_⟩ | refine ⟨rfl, ?_⟩ | refine ⟨by show _ ≤ sizeLine; decide, ?_⟩)
  refine ⟨_, _, rfl, at0, ?_⟩
  (repeat first | refine ⟨_, rfl, ?_⟩ | refine ⟨_, _, rfl, (rfl : atI _ _ = some _), ?_⟩ | refine ⟨_, _, rfl, isi_tuple, ?_⟩ | refine ⟨trivial, ?_⟩ | refine ⟨rfl, ?_⟩ | refine ⟨by show _ ≤ sizeLine; decide, ?_⟩)
  refine pr r0 T _ hr0 hF5 ?_
  dsimp only
  refine wSeq_cut (fun env S' => S' = T ∧ ∃ (lv : Rat) (o7 o8 : Option D), env = [some (.ref p), some (.int size), some (.int most), some (.tup (rowsD one)), some (.ref f), some (.int (k : Nat)), some (dQ lv), o7, o8, none, none, none, none, none] ∧ bq 3050 lv ∧ ∀ x ∈ one, dot row x ≤ lv) (fun env S6 hP => ?_) (fun nx hnx => ?_)
  rotate_left
  · (repeat first | refine ⟨_, rfl, ?_⟩ | refine ⟨_, _, rfl, (rfl : atI _ _ = some _), ?_⟩ | refine ⟨_, _, rfl, isi_tuple, ?_⟩ | refine ⟨trivial, ?_⟩ | refine ⟨rfl, ?_⟩ | refine ⟨by show _ ≤ sizeLine; decide, ?_⟩)
    refine for_inv (fun i env S' => S' = T ∧ ∃ (lv : Rat) (o7 o8 : Option D), env = [some (.ref p), some (.int size), some (.int most), some (.tup (rowsD one)), some (.ref f), some (.int (k : Nat)), some (dQ lv), o7, o8, none, none, none, none, none] ∧ bq 3050 lv ∧ ∀ x ∈ one.take i, dot row x ≤ lv) ⟨rfl, _, _, _, rfl, hdb r0 hr0, by simp⟩ ?_ ?_
    · rintro i x env S' K hx ⟨rfl, lv, o7, o8, rfl, hlb, hle⟩ hK
      obtain ⟨x, hxe, rfl⟩ := rowsD_getP hx
      have hxm := hob x (List.mem_of_getElem? hxe)
      refine ⟨trivial, ?_⟩
      (repeat first | refine ⟨_, rfl, ?_⟩ | refine ⟨_, _, rfl, (rfl : atI _ _ = some _), ?_⟩ | refine ⟨_, _, rfl, isi_tuple, ?_⟩ | refine ⟨trivial, ?_⟩ | refine ⟨rfl, ?_⟩ | refine ⟨by show _ ≤ sizeLine; decide, ?_⟩)
      refine pr x S' _ hxm hF5 ?_
      (repeat first | refine ⟨_, rfl, ?_⟩ | refine ⟨_, _, rfl, (rfl : atI _ _ = some _), ?_⟩ | refine ⟨_, _, rfl, isi_tuple, ?_⟩ | refine ⟨trivial, ?_⟩ | refine ⟨rfl, ?_⟩ | refine ⟨by show _ ≤ sizeLine; decide, ?_⟩)
      refine use_less (hdb x hxm) hlb (by decide) ?_
      have ht : ∀ y ∈ one.take (i + 1), y ∈ one.take i ∨ y = x := fun y hy => by
        rw [List.take_add_one, hxe] at hy
        rcases List.mem_append.mp hy with h | h
        · exact .inl h
        · exact .inr (by simpa using h)
      (repeat first | refine ⟨_, rfl, ?_⟩ | refine ⟨_, _, rfl, (rfl : atI _ _ = some _), ?_⟩ | refine ⟨_, _, rfl, isi_tuple, ?_⟩ | refine ⟨trivial, ?_⟩ | refine ⟨rfl, ?_⟩ | refine ⟨by show _ ≤ sizeLine; decide, ?_⟩)
      refine ite_nf (fun h0 => ?_) fun h0 => ?_
      · have hgt : lv < dot row x := Classical.byContradiction fun z => by have := sub_pos.mpr z; omega
        refine ⟨_, rfl, hK _ _ ⟨rfl, _, _, _, rfl, hdb x hxm, fun y hy => ?_⟩⟩
        rcases ht y hy with h | rfl
        · have := hle y h; grind
        · exact Rat.le_refl
      · have hgt : ¬ lv < dot row x := sub_pos.mp (by omega)
        refine hK _ _ ⟨rfl, _, _, _, rfl, hlb, fun y hy => ?_⟩
        rcases ht y hy with h | rfl
        · exact hle y h
        · grind
    · rintro env S' ⟨rfl, lv, o7, o8, rfl, hlb, hle⟩
      rw [rowsD_len, List.take_length] at hle
      exact ⟨trivial, hnx _ _ ⟨rfl, lv, o7, o8, rfl, hlb, hle⟩⟩
  obtain ⟨rfl, lv, o7, o8, rfl, hlb, hle⟩ := hP
  (repeat first | refine ⟨_, rfl, ?_⟩ | refine ⟨_, _, rfl, (rfl : atI _ _ = some _), ?_⟩ | refine ⟨_, _, rfl, isi_tuple, ?_⟩ | refine ⟨trivial, ?_⟩ | refine ⟨rfl, ?_⟩ | refine ⟨by show _ ≤ sizeLine; decide, ?_⟩)
  refine in_p_gap ⟨p, _, rfl, by omega, w.1, fun gp S7 gb g0 d7 => use_plus hlb gb (by decide) ?_⟩
  have hF7 : S7 f = some (.lst (rowD row)) := by rw [d7.get hfp]; exact hF5
  have w := w.sk d7
  have hnb : bq 3060 (lv + gp) := (bq_add hlb gb).mono (by decide)
  have hone : ∀ x ∈ one, dot row x < lv + gp := fun x hx => by have := hle x hx; grind
  generalize lv + gp = nm at hnb hone ⊢
  refine ⟨by show 0 ≤ sizeLine; decide, fun f2 hf2 => ?_⟩
  obtain ⟨hf2p, hf2S⟩ := w.new hf2
  have hff : f ≠ f2 := fun e => by rw [← e, hF7] at hf2; cases hf2
  have w := w.put (l := .lst []) hf2p hf2S
  have hF8 : (sput S7 f2 (.lst [])) f = some (.lst (rowD row)) := by rw [sput_ne hff]; exact hF7
  have hG8 : (sput S7 f2 (.lst [])) f2 = some (.lst (rowsD [])) := sput_same
  generalize sput S7 f2 (.lst []) = S8 at *
  (repeat first | refine ⟨_, rfl, ?_⟩ | refine ⟨_, _, rfl, (rfl : atI _ _ = some _), ?_⟩ | refine ⟨_, _, rfl, isi_tuple, ?_⟩ | refine ⟨trivial, ?_⟩ | refine ⟨rfl, ?_⟩ | refine ⟨by show _ ≤ sizeLine; decide, ?_⟩)
  refine use_pnext w.1 (by omega) (by omega) fun r2 S9 i0 i1 d9 => ?_
  obtain ⟨n2, rfl⟩ := Int.eq_ofNat_of_zero_le i0
  have w := w.sk d9
  (repeat first | refine ⟨_, rfl, ?_⟩ | refine ⟨_, _, rfl, (rfl : atI _ _ = some _), ?_⟩ | refine ⟨_, _, rfl, isi_tuple, ?_⟩ | refine ⟨trivial, ?_⟩ | refine ⟨rfl, ?_⟩ | refine ⟨by show _ ≤ sizeLine; decide, ?_⟩)
  refine in_p_body ⟨p, false, 1 + n2, size, _, by rw [show (1 : Int) + (n2 : Nat) = ((1 + n2 : Nat) : Int) by omega], by omega, hs6, by omega, w.1, fun pts S10 hpl hpb w10 => ?_⟩
  have hF10 : S10 f = some (.lst (rowD row)) := w10.2 _ _ hfp (by rw [d9.get hfp]; exact hF8)
  have hG10 : S10 f2 = some (.lst (rowsD [])) := w10.2 _ _ hf2p (by rw [d9.get hf2p]; exact hG8)
  have w := (w.trans w10).up (c' := c + 900) (by omega)
  refine ⟨_, rfl, ?_⟩
  refine for_inv (fun i env S' => i ≤ pts.length ∧ ∃ (o7 o11 o12 : Option D) (os : List (List Rat)), env = [some (.ref p), some (.int size), some (.int most), some (.tup (rowsD one)), some (.ref f), some (.int (k : Nat)), some (dQ lv), o7, o8, some (dQ nm), some (.ref f2), o11, o12, none] ∧ os.length = i ∧ (∀ x ∈ os, (x.length = size ∧ ∀ q ∈ x, bq 9500 q) ∧ nm < dot row x) ∧ S' f = some (.lst (rowD row)) ∧ S' f2 = some (.lst (rowsD os)) ∧ Pw (c + 900 + 2 * i) p S S') ⟨Nat.zero_le _, _, _, _, [], rfl, rfl, by simp, hF10, hG10, w⟩ ?_ ?_
  · rintro i x env S' K hx ⟨hi, o7, o11, o12, os, rfl, hosl, hos, hF, hG, w⟩ hK
    obtain ⟨x, hxe, rfl⟩ := rowsD_getP hx
    have hi2 : i < pts.length := (List.getElem?_eq_some_iff.mp hxe).1
    have hxm := hpb x (List.mem_of_getElem? hxe)
    refine ⟨trivial, ?_⟩
    (repeat first | refine ⟨_, rfl, ?_⟩ | refine ⟨_, _, rfl, (rfl : atI _ _ = some _), ?_⟩ | refine ⟨_, _, rfl, isi_tuple, ?_⟩ | refine ⟨trivial, ?_⟩ | refine ⟨rfl, ?_⟩ | refine ⟨by show _ ≤ sizeLine; decide, ?_⟩)
    refine in_p_gap ⟨p, _, rfl, by omega, w.1, fun g2 S11 g2b g20 d11 => use_plus hnb g2b (by decide) ?_⟩
    have hF : S11 f = some (.lst (rowD row)) := by rw [d11.get hfp]; exact hF
    have hG : S11 f2 = some (.lst (rowsD os)) := by rw [d11.get hf2p]; exact hG
    have w := w.sk d11
    (repeat first | refine ⟨_, rfl, ?_⟩ | refine ⟨_, _, rfl, (rfl : atI _ _ = some _), ?_⟩ | refine ⟨_, _, rfl, isi_tuple, ?_⟩ | refine ⟨trivial, ?_⟩ | refine ⟨rfl, ?_⟩ | refine ⟨by show _ ≤ sizeLine; decide, ?_⟩)
    refine pr x S11 _ hxm hF ?_
    refine use_less (bq_add hnb g2b) (hdb x hxm) (by decide) ?_
    have hlk : bq 6200 (nm + g2 - dot row x) := (bq_sub (bq_add hnb g2b) (hdb x hxm)).mono (by decide)
    generalize hlke : nm + g2 - dot row x = lk at hlk ⊢
    dsimp only
    refine wSeq_cut (fun env S' => S' = S11 ∧ ∃ (y : List Rat) (o12 : Option D), env = [some (.ref p), some (.int size), some (.int most), some (.tup (rowsD one)), some (.ref f), some (.int (k : Nat)), some (dQ lv), some (.tup (rowD y)), o8, some (dQ nm), some (.ref f2), some (dQ lk), o12, none] ∧ (y.length = size ∧ ∀ q ∈ y, bq 9500 q) ∧ nm < dot row y) (fun env S12 hP => ?_) (fun nx hnx => ?_)
    rotate_left
    · (repeat first | refine ⟨_, rfl, ?_⟩ | refine ⟨_, _, rfl, (rfl : atI _ _ = some _), ?_⟩ | refine ⟨_, _, rfl, isi_tuple, ?_⟩ | refine ⟨trivial, ?_⟩ | refine ⟨rfl, ?_⟩ | refine ⟨by show _ ≤ sizeLine; decide, ?_⟩)
      refine ite_nf (fun h0 => ?_) fun h0 => ?_
      · (repeat first | refine ⟨_, rfl, ?_⟩ | refine ⟨_, _, rfl, (rfl : atI _ _ = some _), ?_⟩ | refine ⟨_, _, rfl, isi_tuple, ?_⟩ | refine ⟨trivial, ?_⟩ | refine ⟨rfl, ?_⟩ | refine ⟨by show _ ≤ sizeLine; decide, ?_⟩)
        refine ⟨_, _, hF, row_at (by omega), ?_⟩
        (repeat first | refine ⟨_, rfl, ?_⟩ | refine ⟨_, _, rfl, (rfl : atI _ _ = some _), ?_⟩ | refine ⟨_, _, rfl, isi_tuple, ?_⟩ | refine ⟨trivial, ?_⟩ | refine ⟨rfl, ?_⟩ | refine ⟨by show _ ≤ sizeLine; decide, ?_⟩)
        refine ⟨mulOk (a := 6200) (b := 3) hlk.1 (den_abs (getD_bqP hrb2 (by omega))) (by decide) (by decide) (by decide), ?_⟩
        (repeat first | refine ⟨_, rfl, ?_⟩ | refine ⟨_, _, rfl, (rfl : atI _ _ = some _), ?_⟩ | refine ⟨_, _, rfl, isi_tuple, ?_⟩ | refine ⟨trivial, ?_⟩ | refine ⟨rfl, ?_⟩ | refine ⟨by show _ ≤ sizeLine; decide, ?_⟩)
        refine ⟨_, _, hF, row_at (by omega), ?_⟩
        (repeat first | refine ⟨_, rfl, ?_⟩ | refine ⟨_, _, rfl, (rfl : atI _ _ = some _), ?_⟩ | refine ⟨_, _, rfl, isi_tuple, ?_⟩ | refine ⟨trivial, ?_⟩ | refine ⟨rfl, ?_⟩ | refine ⟨by show _ ≤ sizeLine; decide, ?_⟩)
        refine ⟨mulOk (a := 6200) (b := 3) (den_abs hlk) (getD_bqP hrb2 (by omega)).1 (by decide) (by decide) (by decide), ?_⟩
        refine use_sfraction (Int.mul_pos (by have := lk.den_pos; omega) hnum) ?_
        have hsb := step_bq hlk (getD_bqP hrb2 (k := k) (by omega)) hnum
        have hsm := step_mul (l := lk) hnum
        generalize Rat.divInt (lk.num * ((row.getD k 0).den : Nat)) (((lk.den : Nat) : Int) * (row.getD k 0).num) = st at hsb hsm ⊢
        (repeat first | refine ⟨_, rfl, ?_⟩ | refine ⟨_, _, rfl, (rfl : atI _ _ = some _), ?_⟩ | refine ⟨_, _, rfl, isi_tuple, ?_⟩ | refine ⟨trivial, ?_⟩ | refine ⟨rfl, ?_⟩ | refine ⟨by show _ ≤ sizeLine; decide, ?_⟩)
        refine ⟨_, _, rfl, row_at (by rw [hxm.1]; exact hk), ?_⟩
        (repeat first | refine ⟨_, rfl, ?_⟩ | refine ⟨_, _, rfl, (rfl : atI _ _ = some _), ?_⟩ | refine ⟨_, _, rfl, isi_tuple, ?_⟩ | refine ⟨trivial, ?_⟩ | refine ⟨rfl, ?_⟩ | refine ⟨by show _ ≤ sizeLine; decide, ?_⟩)
        refine use_plus (getD_bqP hxm.2 (by rw [hxm.1]; exact hk)) hsb (by decide) ?_
        refine ⟨by show 1 ≤ sizeLine; decide, ?_⟩
        refine ⟨by rw [cut_to, List.length_take]; exact Nat.le_trans (show _ ≤ 14 by show min k _ + 1 ≤ 14; omega) (by decide), ?_⟩
        (repeat first | refine ⟨_, rfl, ?_⟩ | refine ⟨_, _, rfl, (rfl : atI _ _ = some _), ?_⟩ | refine ⟨_, _, rfl, isi_tuple, ?_⟩ | refine ⟨trivial, ?_⟩ | refine ⟨rfl, ?_⟩ | refine ⟨by show _ ≤ sizeLine; decide, ?_⟩)
        refine ⟨Nat.le_trans (show _ ≤ 40 by rw [cut_to, show (k : Int) + 1 = ((k + 1 : Nat) : Int) by omega, cut_from, List.length_append, List.length_take, List.length_drop, rowD_len, hxm.1]; show min k size + 1 + _ ≤ 40; omega) (by decide), ?_⟩
        rw [cut_putP]
        refine hnx _ _ ⟨rfl, _, _, rfl, ⟨by simp; have := hxm.1; omega, fun q hq => ?_⟩, ?_⟩
        · rcases List.mem_append.mp hq with h | h
          · rcases List.mem_append.mp h with h | h
            · exact (hxm.2 q (List.mem_of_mem_take h)).mono (by decide)
            · rw [List.mem_singleton.mp h]; exact (bq_add (getD_bqP hxm.2 (by rw [hxm.1]; exact hk)) hsb).mono (by decide)
          · exact (hxm.2 q (List.mem_of_mem_drop h)).mono (by decide)
        · rw [dot_bumpP (by rw [hxm.1]; exact hk) (by omega), hsm, ← hlke]
          grind
      · refine hnx _ _ ⟨rfl, x, _, rfl, ⟨hxm.1, fun q hq => (hxm.2 q hq).mono (by decide)⟩, ?_⟩
        have hle0 : lk.num ≤ 0 := by omega
        rw [← hlke] at hle0
        have := sub_pos.mp hle0
        grind
    obtain ⟨rfl, y, o12, rfl, hy, hny⟩ := hP
    (repeat first | refine ⟨_, rfl, ?_⟩ | refine ⟨_, _, rfl, (rfl : atI _ _ = some _), ?_⟩ | refine ⟨_, _, rfl, isi_tuple, ?_⟩ | refine ⟨trivial, ?_⟩ | refine ⟨rfl, ?_⟩ | refine ⟨by show _ ≤ sizeLine; decide, ?_⟩)
    refine ⟨⟨_, hG⟩, ?_⟩
    (repeat first | refine ⟨_, rfl, ?_⟩ | refine ⟨_, _, rfl, (rfl : atI _ _ = some _), ?_⟩ | refine ⟨_, _, rfl, isi_tuple, ?_⟩ | refine ⟨trivial, ?_⟩ | refine ⟨rfl, ?_⟩ | refine ⟨by show _ ≤ sizeLine; decide, ?_⟩)
    refine ⟨_, _, hG, rfl, Nat.lt_of_le_of_lt (show _ ≤ 8 by rw [rowsD_len]; omega) (by decide), fun b hb => ?_⟩
    cases hb
    refine hK _ _ ⟨hi2, _, _, _, os ++ [y], rfl, by simp [hosl], fun z hz => ?_, by rw [sput_ne hff]; exact hF, ?_, (w.put hf2p hf2S).up (by omega)⟩
    · rcases List.mem_append.mp hz with h | h
      · exact hos z h
      · rw [List.mem_singleton.mp h]; exact ⟨hy, hny⟩
    · rw [sput_same]; unfold rowsD; rw [List.map_append]; rfl
  · rintro env S' ⟨_, o7, o11, o12, os, rfl, hosl, hos, hF, hG, w⟩
    rw [rowsD_len, hpl] at hosl w
    refine ⟨trivial, ?_⟩
    (repeat first | refine ⟨_, rfl, ?_⟩ | refine ⟨_, _, rfl, (rfl : atI _ _ = some _), ?_⟩ | refine ⟨_, _, rfl, isi_tuple, ?_⟩ | refine ⟨trivial, ?_⟩ | refine ⟨rfl, ?_⟩ | refine ⟨by show _ ≤ sizeLine; decide, ?_⟩)
    refine ⟨_, hG, ?_⟩
    (repeat first | refine ⟨_, rfl, ?_⟩ | refine ⟨_, _, rfl, (rfl : atI _ _ = some _), ?_⟩ | refine ⟨_, _, rfl, isi_tuple, ?_⟩ | refine ⟨trivial, ?_⟩ | refine ⟨rfl, ?_⟩ | refine ⟨by show _ ≤ sizeLine; decide, ?_⟩)
    refine ⟨_, hF, ?_⟩
    (repeat first | refine ⟨_, rfl, ?_⟩ | refine ⟨_, _, rfl, (rfl : atI _ _ = some _), ?_⟩ | refine ⟨_, _, rfl, isi_tuple, ?_⟩ | refine ⟨trivial, ?_⟩ | refine ⟨rfl, ?_⟩ | refine ⟨by show _ ≤ sizeLine; decide, ?_⟩)
    refine ⟨by show 3 ≤ sizeLine; decide, by show 3 ≤ sizeLine; decide, _, S', Sub.refl _, .same _, q one os row nm S' ⟨by omega, by omega, by omega, by omega, hs6, fun r hr => ⟨(hob r hr).1, fun q hq => ((hob r hr).2 q hq).mono (by decide)⟩, fun r hr => (hos r hr).1⟩ hrl2 hrb2 (hnb.mono (by decide)) ?_ (w.up (by omega))⟩
    show ((one.all _) && (os.all _)) = true
    rw [List.all_eq_true.mpr fun y hy => decide_eq_true (hone y hy), List.all_eq_true.mpr fun y hy => decide_eq_true (hos y hy).2]
    rfl

end ND
set_option Elab.async false
set_option linter.all false
set_option maxRecDepth 100000
namespace ND
open PySem PySem.Spec PyProof.Rows L2
def w_p_parted_bent (f1 : On) (f2 : On) (f3 : On) (f4 : On) (f5 : On) : WS :=
  (wSeq (wSet 5 (w2 oIx (wVar 4) (wC (.int 1))))
  (wSeq (wSet 6 (w2 oIx (wVar 4) (wC (.int 2))))
  (wSeq (wSet 7 (wCall f1 (wCons (wVar 0) (wCons (wCall oLen (wCons (wVar 5) wNil)) wNil))))
  (wSeq (wSet 8 (wCall f2 (wCons (wVar 0) wNil)))
  (wSeq (wIfS (wTst (w2 oEq (wVar 1) (wC (.int 1)))) (wSet 5 (w2 oAdd (w2 oAdd (wSl (wVar 5) wNoP (wP (wVar 7))) (wTup (wCons (wCall f3 (wCons (w2 oIx (wVar 5) (wVar 7)) (wCons (wVar 8) wNil))) wNil))) (wSl (wVar 5) (wP (w2 oAdd (wVar 7) (wC (.int 1)))) wNoP))) wNext)
  (wSeq (wIfS (wTst (w2 oEq (wVar 1) (wC (.int 2)))) (wSet 6 (wCall f4 (wCons (wVar 6) (wCons (wVar 8) wNil)))) wNext)
  (wSeq (wIfS (wTst (w2 oEq (wVar 1) (wC (.int 3)))) (wSet 6 (wCall f3 (wCons (wVar 6) (wCons (wVar 8) wNil)))) wNext)
  (wSeq (wIfS (wTst (w2 oEq (wVar 1) (wC (.int 4)))) (wSet 6 (wCall f5 (wCons (wVar 5) (wCons (w2 oIx (wVar 2) (wCall f1 (wCons (wVar 0) (wCons (wCall oLen (wCons (wVar 2) wNil)) wNil)))) wNil)))) wNext)
  (wSeq (wIfS (wTst (w2 oEq (wVar 1) (wC (.int 5)))) (wSet 6 (wCall f5 (wCons (wVar 5) (wCons (w2 oIx (wVar 3) (wCall f1 (wCons (wVar 0) (wCons (wCall oLen (wCons (wVar 3) wNil)) wNil)))) wNil)))) wNext)
  (wSeq (wIfS (wTst (w2 oEq (wVar 1) (wC (.int 6)))) (wSeq (wSet 5 (wCall oTuple (wCons (wLc (wSeqI (wVar 5)) (gN 9) wYes (wTup (wCons (w2 oSub (wC (.int 0)) (w2 oIx (wVar 9) (wC (.int 0)))) (wCons (w2 oIx (wVar 9) (wC (.int 1))) wNil))) [9]) wNil)))
  (wSet 6 (wTup (wCons (w2 oSub (wC (.int 0)) (w2 oIx (wVar 6) (wC (.int 0)))) (wCons (w2 oIx (wVar 6) (wC (.int 1))) wNil))))) wNext)
  (wRet (wTup (wCons (wC (.str "parted")) (wCons (wVar 5) (wCons (wVar 6) wNil)))))))))))))))
@[irreducible] def m_p_parted_bent : On := fun ds S Q => ∃ (p : Addr) (way : Int) (one other : List (List Rat)) (r : List Rat) (n : Rat) (size c : Nat), ds = [.ref p, .int way, .tup (rowsD one), .tup (rowsD other), (TwoT.parted r n).d] ∧ 0 < size ∧ TwoC one other size ∧ r.length = size ∧ (∀ q ∈ r, bq 3 q) ∧ bq 3100 n ∧ c < 2 ^ 45 ∧ PkAt c p S ∧ ∀ (r' : List Rat) (n' : Rat) S', (TwoT.parted r' n').ok one other size → (way = 0 → r' = r ∧ n' = n) → Pk (c + 10) p S S' → Q (TwoT.parted r' n').d S'
theorem in_p_parted_bent {ds : List D} {S : Store} {Q : D → Store → Prop} (h : (fun ds S Q => ∃ (p : Addr) (way : Int) (one other : List (List Rat)) (r : List Rat) (n : Rat) (size c : Nat), ds = [.ref p, .int way, .tup (rowsD one), .tup (rowsD other), (TwoT.parted r n).d] ∧ 0 < size ∧ TwoC one other size ∧ r.length = size ∧ (∀ q ∈ r, bq 3 q) ∧ bq 3100 n ∧ c < 2 ^ 45 ∧ PkAt c p S ∧ ∀ (r' : List Rat) (n' : Rat) S', (TwoT.parted r' n').ok one other size → (way = 0 → r' = r ∧ n' = n) → Pk (c + 10) p S S' → Q (TwoT.parted r' n').d S' : On) ds S Q) : m_p_parted_bent ds S Q := by unfold m_p_parted_bent; exact h
theorem l_p_parted_bent (ds : List D) (S : Store) (Q : D → Store → Prop) (h : m_p_parted_bent ds S Q) : ds.length = 5 := by unfold m_p_parted_bent at h; obtain ⟨_, _, _, _, _, _, _, _, rfl, _⟩ := h; rfl
set_option maxHeartbeats 4000000 in
theorem v_p_parted_bent (ds : List D) (S : Store) (Q : D → Store → Prop) (h : m_p_parted_bent ds S Q) : w_p_parted_bent m_p_next m_p_gap m_p_less m_p_plus m_p_product (fin Q) (dst 10 ds) S := by
  unfold m_p_parted_bent at h
  obtain ⟨p, way, one, other, r, n, size, c, rfl, hs0, t, hrl, hrb, hnb, hc, hS, q⟩ := h
  have hlow := t.low
  have ho0 := t.o0
  have ht0 := t.t0
  unfold w_p_parted_bent
  (repeat first | refine ⟨_, rfl, ?_⟩ | refine ⟨_, _, rfl, (rfl : atI _ _ = some _), ?_⟩ | refine ⟨_, _, rfl, isi_tuple, ?_⟩ | refine ⟨trivial, ?_⟩ | refine ⟨rfl, ?_⟩ | refine ⟨by show _ ≤ sizeLine; decide, ?_⟩)
  rw [rowD_len, hrl]
  refine use_pnext hS (by omega) (by omega) fun k S1 k0 k1 d1 => ?_
  obtain ⟨k, rfl⟩ := Int.eq_ofNat_of_zero_le k0
  have hk : k < size := by omega
  (repeat first | refine ⟨_, rfl, ?_⟩ | refine ⟨_, _, rfl, (rfl : atI _ _ = some _), ?_⟩ | refine ⟨_, _, rfl, isi_tuple, ?_⟩ | refine ⟨trivial, ?_⟩ | refine ⟨rfl, ?_⟩ | refine ⟨by show _ ≤ sizeLine; decide, ?_⟩)
  refine in_p_gap ⟨p, _, rfl, by omega, d1.at, fun g S2 gb _ d2 => ?_⟩
  have d := d1.trans d2
  dsimp only
  refine wSeq_cut (fun env S' => S' = S2 ∧ ∃ row : List Rat, env = [some (.ref p), some (.int way), some (.tup (rowsD one)), some (.tup (rowsD other)), some (TwoT.parted r n).d, some (.tup (rowD row)), some (dQ n), some (.int (k : Nat)), some (dQ g), none] ∧ row.length = size ∧ (∀ q ∈ row, bq 10 q) ∧ (way = 0 → row = r)) (fun env S3 hP => ?_) (fun nx hnx => ?_)
  rotate_left
  · refine wIf_oneP (pa := decide (way = 1)) (fun Q k => ⟨_, rfl, k⟩) (fun h1 => ?_) (hnx _ _ ⟨rfl, r, rfl, hrl, fun q hq => (hrb q hq).mono (by decide), fun _ => rfl⟩)
    have h1 := of_decide_eq_true h1
    (repeat first | refine ⟨_, rfl, ?_⟩ | refine ⟨_, _, rfl, (rfl : atI _ _ = some _), ?_⟩ | refine ⟨_, _, rfl, isi_tuple, ?_⟩ | refine ⟨trivial, ?_⟩ | refine ⟨rfl, ?_⟩ | refine ⟨by show _ ≤ sizeLine; decide, ?_⟩)
    refine ⟨_, _, rfl, row_at (by omega), ?_⟩
    (repeat first | refine ⟨_, rfl, ?_⟩ | refine ⟨_, _, rfl, (rfl : atI _ _ = some _), ?_⟩ | refine ⟨_, _, rfl, isi_tuple, ?_⟩ | refine ⟨trivial, ?_⟩ | refine ⟨rfl, ?_⟩ | refine ⟨by show _ ≤ sizeLine; decide, ?_⟩)
    refine use_less (getD_bqP hrb (by omega)) gb (by decide) ?_
    refine ⟨by show 1 ≤ sizeLine; decide, ?_⟩
    refine ⟨by rw [cut_to, List.length_take]; exact Nat.le_trans (show _ ≤ 14 by show min k _ + 1 ≤ 14; omega) (by decide), ?_⟩
    (repeat first | refine ⟨_, rfl, ?_⟩ | refine ⟨_, _, rfl, (rfl : atI _ _ = some _), ?_⟩ | refine ⟨_, _, rfl, isi_tuple, ?_⟩ | refine ⟨trivial, ?_⟩ | refine ⟨rfl, ?_⟩ | refine ⟨by show _ ≤ sizeLine; decide, ?_⟩)
    refine ⟨Nat.le_trans (show _ ≤ 40 by rw [cut_to, show (k : Int) + 1 = ((k + 1 : Nat) : Int) by omega, cut_from, List.length_append, List.length_take, List.length_drop, rowD_len, hrl]; show min k size + 1 + _ ≤ 40; omega) (by decide), ?_⟩
    rw [cut_putP]
    refine hnx _ _ ⟨rfl, _, rfl, by simp; omega, fun q hq => ?_, fun h => by omega⟩
    rcases List.mem_append.mp hq with h | h
    · rcases List.mem_append.mp h with h | h
      · exact (hrb q (List.mem_of_mem_take h)).mono (by decide)
      · rw [List.mem_singleton.mp h]; exact (bq_sub (getD_bqP hrb (by omega)) gb).mono (by decide)
    · exact (hrb q (List.mem_of_mem_drop h)).mono (by decide)
  obtain ⟨rfl, row, rfl, hwl, hwb, hw0⟩ := hP
  refine wSeq_cut (fun env S' => S' = S3 ∧ ∃ m : Rat, env = [some (.ref p), some (.int way), some (.tup (rowsD one)), some (.tup (rowsD other)), some (TwoT.parted r n).d, some (.tup (rowD row)), some (dQ m), some (.int (k : Nat)), some (dQ g), none] ∧ bq 3200 m ∧ (way = 0 → m = n)) (fun env S4 hP => ?_) (fun nx hnx => ?_)
  rotate_left
  · refine wIf_oneP (pa := decide (way = 2)) (fun Q k => ⟨_, rfl, k⟩) (fun h1 => ?_) (hnx _ _ ⟨rfl, n, rfl, hnb.mono (by decide), fun _ => rfl⟩)
    have h1 := of_decide_eq_true h1
    exact ⟨_, rfl, _, rfl, use_plus hnb gb (by decide) (hnx _ _ ⟨rfl, _, rfl, (bq_add hnb gb).mono (by decide), fun h => by omega⟩)⟩
  obtain ⟨rfl, m, rfl, hmb, hm0⟩ := hP
  refine wSeq_cut (fun env S' => S' = S4 ∧ ∃ m : Rat, env = [some (.ref p), some (.int way), some (.tup (rowsD one)), some (.tup (rowsD other)), some (TwoT.parted r n).d, some (.tup (rowD row)), some (dQ m), some (.int (k : Nat)), some (dQ g), none] ∧ bq 3300 m ∧ (way = 0 → m = n)) (fun env S5 hP => ?_) (fun nx hnx => ?_)
  rotate_left
  · refine wIf_oneP (pa := decide (way = 3)) (fun Q k => ⟨_, rfl, k⟩) (fun h1 => ?_) (hnx _ _ ⟨rfl, m, rfl, hmb.mono (by decide), hm0⟩)
    have h1 := of_decide_eq_true h1
    exact ⟨_, rfl, _, rfl, use_less hmb gb (by decide) (hnx _ _ ⟨rfl, _, rfl, (bq_sub hmb gb).mono (by decide), fun h => by omega⟩)⟩
  obtain ⟨rfl, m, rfl, hmb, hm0⟩ := hP
  have hpd : ∀ x : List Rat, (x.length = size ∧ ∀ q ∈ x, bq 9500 q) → bq 58000 (dot row x) := fun x h => (bq_dot hwb h.2).mono (by rw [hwl]; omega)
  refine wSeq_cut (fun env S' => Pk (c + 5) p S S' ∧ ∃ m : Rat, env = [some (.ref p), some (.int way), some (.tup (rowsD one)), some (.tup (rowsD other)), some (TwoT.parted r n).d, some (.tup (rowD row)), some (dQ m), some (.int (k : Nat)), some (dQ g), none] ∧ bq 58000 m ∧ (way = 0 → m = n)) (fun env S6 hP => ?_) (fun nx hnx => ?_)
  rotate_left
  · refine wIf_oneP (pa := decide (way = 4)) (fun Q k => ⟨_, rfl, k⟩) (fun h1 => ?_) (hnx _ _ ⟨d.up (by omega), m, rfl, hmb.mono (by decide), hm0⟩)
    have h1 := of_decide_eq_true h1
    (repeat first | refine ⟨_, rfl, ?_⟩ | refine ⟨_, _, rfl, (rfl : atI _ _ = some _), ?_⟩ | refine ⟨_, _, rfl, isi_tuple, ?_⟩ | refine ⟨trivial, ?_⟩ | refine ⟨rfl, ?_⟩ | refine ⟨by show _ ≤ sizeLine; decide, ?_⟩)
    rw [rowsD_len]
    refine use_pnext d.at (by omega) (by omega) fun j S6 j0 j1 d6 => ?_
    obtain ⟨j, rfl⟩ := Int.eq_ofNat_of_zero_le j0
    have hj : j < one.length := by omega
    have hx := t.ow _ (List.getElem_mem hj)
    refine ⟨_, _, rfl, rowsD_at hj, ?_⟩
    refine use_law_product (n := 10) (m := 9500) rfl rfl (by rw [hwl, hx.1]) hwb hx.2 (by decide) (by decide) (by rw [hwl]; omega) ?_
    exact hnx _ _ ⟨(d.trans d6).up (by omega), _, rfl, hpd _ hx, fun h => by omega⟩
  obtain ⟨d, m, rfl, hmb, hm0⟩ := hP
  refine wSeq_cut (fun env S' => Pk (c + 10) p S S' ∧ ∃ m : Rat, env = [some (.ref p), some (.int way), some (.tup (rowsD one)), some (.tup (rowsD other)), some (TwoT.parted r n).d, some (.tup (rowD row)), some (dQ m), some (.int (k : Nat)), some (dQ g), none] ∧ bq 58000 m ∧ (way = 0 → m = n)) (fun env S7 hP => ?_) (fun nx hnx => ?_)
  rotate_left
  · refine wIf_oneP (pa := decide (way = 5)) (fun Q k => ⟨_, rfl, k⟩) (fun h1 => ?_) (hnx _ _ ⟨d.up (by omega), m, rfl, hmb, hm0⟩)
    have h1 := of_decide_eq_true h1
    (repeat first | refine ⟨_, rfl, ?_⟩ | refine ⟨_, _, rfl, (rfl : atI _ _ = some _), ?_⟩ | refine ⟨_, _, rfl, isi_tuple, ?_⟩ | refine ⟨trivial, ?_⟩ | refine ⟨rfl, ?_⟩ | refine ⟨by show _ ≤ sizeLine; decide, ?_⟩)
    rw [rowsD_len]
    refine use_pnext d.at (by omega) (by omega) fun j S7 j0 j1 d7 => ?_
    obtain ⟨j, rfl⟩ := Int.eq_ofNat_of_zero_le j0
    have hj : j < other.length := by omega
    have hx := t.tw _ (List.getElem_mem hj)
    refine ⟨_, _, rfl, rowsD_at hj, ?_⟩
    refine use_law_product (n := 10) (m := 9500) rfl rfl (by rw [hwl, hx.1]) hwb hx.2 (by decide) (by decide) (by rw [hwl]; omega) ?_
    exact hnx _ _ ⟨(d.trans d7).up (by omega), _, rfl, hpd _ hx, fun h => by omega⟩
  obtain ⟨d, m, rfl, hmb, hm0⟩ := hP
  have fine : ∀ (x : List Rat) (y : Rat), x.length = size → (∀ q ∈ x, bq 10 q) → bq 58000 y → (TwoT.parted x y).ok one other size := fun x y a b c => ⟨a, fun q hq => (b q hq).mono (by decide), c.mono (by decide)⟩
  refine wSeq_cut (fun env S' => S' = S7 ∧ ∃ (x : List Rat) (y : Rat), env = [some (.ref p), some (.int way), some (.tup (rowsD one)), some (.tup (rowsD other)), some (TwoT.parted r n).d, some (.tup (rowD x)), some (dQ y), some (.int (k : Nat)), some (dQ g), none] ∧ (TwoT.parted x y).ok one other size ∧ (way = 0 → x = r ∧ y = n)) (fun env S8 hP => ?_) (fun nx hnx => ?_)
  rotate_left
  · refine wIf_oneP (pa := decide (way = 6)) (fun Q k => ⟨_, rfl, k⟩) (fun h1 => ?_) (hnx _ _ ⟨rfl, row, m, rfl, fine _ _ hwl hwb hmb, fun h => ⟨hw0 h, hm0 h⟩⟩)
    have h1 := of_decide_eq_true h1
    (repeat first | refine ⟨_, rfl, ?_⟩ | refine ⟨_, _, rfl, (rfl : atI _ _ = some _), ?_⟩ | refine ⟨_, _, rfl, isi_tuple, ?_⟩ | refine ⟨trivial, ?_⟩ | refine ⟨rfl, ?_⟩ | refine ⟨by show _ ≤ sizeLine; decide, ?_⟩)
    refine ⟨by rw [rowD_len, hwl]; exact Nat.le_trans hlow (by decide), ?_⟩
    refine lc_mapA dQ dQ (fun q => -q) row trivial (fun u K hu k' => ?_) ?_
    · (repeat first | refine ⟨_, rfl, ?_⟩ | refine ⟨_, _, rfl, (rfl : atI _ _ = some _), ?_⟩ | refine ⟨_, _, rfl, isi_tuple, ?_⟩ | refine ⟨trivial, ?_⟩ | refine ⟨rfl, ?_⟩ | refine ⟨by show _ ≤ sizeLine; decide, ?_⟩)
      refine ⟨by show 2 ≤ sizeLine; decide, ?_⟩
      rw [neg_dQ]
      exact k'
    (repeat first | refine ⟨_, rfl, ?_⟩ | refine ⟨_, _, rfl, (rfl : atI _ _ = some _), ?_⟩ | refine ⟨_, _, rfl, isi_tuple, ?_⟩ | refine ⟨trivial, ?_⟩ | refine ⟨rfl, ?_⟩ | refine ⟨by show _ ≤ sizeLine; decide, ?_⟩)
    refine ⟨by show 2 ≤ sizeLine; decide, ?_⟩
    rw [neg_dQ]
    refine hnx _ _ ⟨rfl, row.map fun q => -q, -m, rfl, fine _ _ (by rw [List.length_map, hwl]) (fun q hq => ?_) (bq_neg hmb), fun h => by omega⟩
    obtain ⟨u, hu, rfl⟩ := List.mem_map.mp hq
    exact bq_neg (hwb u hu)
  obtain ⟨rfl, x, y, rfl, hxy, h0⟩ := hP
  (repeat first | refine ⟨_, rfl, ?_⟩ | refine ⟨_, _, rfl, (rfl : atI _ _ = some _), ?_⟩ | refine ⟨_, _, rfl, isi_tuple, ?_⟩ | refine ⟨trivial, ?_⟩ | refine ⟨rfl, ?_⟩ | refine ⟨by show _ ≤ sizeLine; decide, ?_⟩)
  exact ⟨by show 3 ≤ sizeLine; decide, q x y S8 hxy h0 d⟩
/-- a list of two lists: one is changed -/
structure MetA (S : Store) (p s o f : Addr) : Prop where
  sp : s ≠ p
  s0 : S s = none
  so : s ≠ o
  sf : s ≠ f
  op : o ≠ p
  fp : f ≠ p
  f0 : S f = none
  fo : f ≠ o
structure StM (S : Store) (p s o f : Addr) (c B : Nat) (ks : Nat) (xs xo : List Rat) (l : List D) (S' : Store) : Prop where
  es : S' s = some (.lst (rowD xs))
  eo : S' o = some (.lst (rowD xo))
  ef : S' f = some (.lst l)
  w : Pw c p S S'
  ls : xs.length = ks
  bs : ∀ q ∈ xs, bq B q
section
variable {S S' : Store} {p s o f : Addr} {c c' B B' ks : Nat} {xs xo : List Rat} {l : List D}
theorem StM.up (h : StM S p s o f c B ks xs xo l S') (h1 : c ≤ c') (h2 : B ≤ B') : StM S p s o f c' B' ks xs xo l S' := ⟨h.es, h.eo, h.ef, h.w.up h1, h.ls, fun q hq => (h.bs q hq).mono h2⟩
theorem StM.sk (A : MetA S p s o f) (h : StM S p s o f c B ks xs xo l S') {S2 : Store} (d : Pk c' p S' S2) : StM S p s o f c' B ks xs xo l S2 := ⟨by rw [d.get A.sp]; exact h.es, by rw [d.get A.op]; exact h.eo, by rw [d.get A.fp]; exact h.ef, h.w.sk d, h.ls, h.bs⟩
theorem StM.ix (h : StM S p s o f c B ks xs xo l S') {i : Int} (i0 : 0 ≤ i) (i1 : i < ks) {Q : D → Store → Prop} (q : ∀ r, bq B r → Q (dQ r) S') : oIx (.ref s) (.int i) S' Q := by
  obtain ⟨k, rfl⟩ := Int.eq_ofNat_of_zero_le i0
  have hk : k < xs.length := by have := h.ls; omega
  exact ⟨_, _, h.es, row_at hk, q _ (getD_bqP h.bs hk)⟩
theorem StM.set (A : MetA S p s o f) (h : StM S p s o f c B ks xs xo l S') {i : Int} (i0 : 0 ≤ i) (i1 : i < ks) {v : Rat} (hv : bq B v) {Q : Store → Prop} (q : ∀ xs' S2, StM S p s o f c B ks xs' xo l S2 → Q S2) : oSet (.ref s) (.int i) (dQ v) S' Q := by
  obtain ⟨k, rfl⟩ := Int.eq_ofNat_of_zero_le i0
  have hk : k < xs.length := by have := h.ls; omega
  refine ⟨rowD xs, k, h.es, ixN_coP (by rw [rowD_len]; exact hk), ?_⟩
  have e : (rowD xs).set k (dQ v) = rowD (xs.set k v) := by unfold rowD; rw [List.map_set]
  rw [e]
  refine q (xs.set k v) _ ⟨sput_same, by rw [sput_ne A.so.symm]; exact h.eo, by rw [sput_ne A.sf.symm]; exact h.ef, h.w.put A.sp A.s0, by rw [List.length_set]; exact h.ls, fun y hy => ?_⟩
  rcases List.mem_or_eq_of_mem_set hy with hy | rfl
  · exact h.bs y hy
  · exact hv
end
def w_p_met_bent (f1 : On) (f2 : On) (f3 : On) (f4 : On) (f5 : On) : WS :=
  (wSeq (wSet 3 (wLstM (wCons (wCall oListM (wCons (w2 oIx (wVar 2) (wC (.int 1))) wNil)) (wCons (wCall oListM (wCons (w2 oIx (wVar 2) (wC (.int 2))) wNil)) wNil))))
  (wSeq (wSet 4 (w2 oIx (wVar 3) (wCall f1 (wCons (wVar 0) (wCons (wC (.int 2)) wNil)))))
  (wSeq (wSet 5 (wCall f1 (wCons (wVar 0) (wCons (wCall oLen (wCons (wVar 4) wNil)) wNil))))
  (wSeq (wSet 6 (wCall f1 (wCons (wVar 0) (wCons (wCall oLen (wCons (wVar 4) wNil)) wNil))))
  (wSeq (wSet 7 (wCall f2 (wCons (wVar 0) wNil)))
  (wSeq (wIfS (wTst (w2 oEq (wVar 1) (wC (.int 1)))) (wAsg (wCall f3 (wCons (w2 oIx (wVar 4) (wVar 5)) (wCons (wVar 7) wNil))) (gS (wVar 4) (wVar 5) oSet)) wNext)
  (wSeq (wIfS (wTst (w2 oEq (wVar 1) (wC (.int 2)))) (wAsg (wTup (wCons (w2 oIx (wVar 4) (wVar 6)) (wCons (w2 oIx (wVar 4) (wVar 5)) wNil))) (gT 2 (gConss (gS (wVar 4) (wVar 5) oSet) (gConss (gS (wVar 4) (wVar 6) oSet) gNils)))) wNext)
  (wSeq (wIfS (wTst (w2 oEq (wVar 1) (wC (.int 3)))) (wSeq (wAsg (wCall f3 (wCons (w2 oIx (wVar 4) (wVar 5)) (wCons (wVar 7) wNil))) (gS (wVar 4) (wVar 5) oSet))
  (wAsg (wCall f4 (wCons (w2 oIx (wVar 4) (wVar 6)) (wCons (wVar 7) wNil))) (gS (wVar 4) (wVar 6) oSet))) wNext)
  (wSeq (wIfS (wTst (w2 oEq (wVar 1) (wC (.int 4)))) (wAsg (wCall f5 (wCons (wVar 0) (wCons (wCall oLen (wCons (w2 oIx (wVar 3) (wC (.int 0))) wNil)) wNil))) (gS (wVar 3) (wC (.int 0)) oSet)) wNext)
  (wRet (wFz (wTup (wCons (wC (.str "met")) (wCons (wCall oTuple (wCons (w2 oIx (wVar 3) (wC (.int 0))) wNil)) (wCons (wCall oTuple (wCons (w2 oIx (wVar 3) (wC (.int 1))) wNil)) wNil)))))))))))))))
@[irreducible] def m_p_met_bent : On := fun ds S Q => ∃ (p : Addr) (way : Int) (a b : List Rat) (c : Nat), ds = [.ref p, .int way, (TwoT.met a b).d] ∧ 0 < a.length ∧ a.length ≤ 8 ∧ 0 < b.length ∧ b.length ≤ 8 ∧ (∀ q ∈ a, bq 10 q) ∧ (∀ q ∈ b, bq 10 q) ∧ c < 2 ^ 45 ∧ PkAt c p S ∧ ∀ (a' b' : List Rat) S', a'.length = a.length → b'.length = b.length → (∀ q ∈ a', bq 200 q) → (∀ q ∈ b', bq 200 q) → (way = 0 → a' = a ∧ b' = b) → Pw (c + 100) p S S' → Q (TwoT.met a' b').d S'
theorem in_p_met_bent {ds : List D} {S : Store} {Q : D → Store → Prop} (h : (fun ds S Q => ∃ (p : Addr) (way : Int) (a b : List Rat) (c : Nat), ds = [.ref p, .int way, (TwoT.met a b).d] ∧ 0 < a.length ∧ a.length ≤ 8 ∧ 0 < b.length ∧ b.length ≤ 8 ∧ (∀ q ∈ a, bq 10 q) ∧ (∀ q ∈ b, bq 10 q) ∧ c < 2 ^ 45 ∧ PkAt c p S ∧ ∀ (a' b' : List Rat) S', a'.length = a.length → b'.length = b.length → (∀ q ∈ a', bq 200 q) → (∀ q ∈ b', bq 200 q) → (way = 0 → a' = a ∧ b' = b) → Pw (c + 100) p S S' → Q (TwoT.met a' b').d S' : On) ds S Q) : m_p_met_bent ds S Q := by unfold m_p_met_bent; exact h
theorem l_p_met_bent (ds : List D) (S : Store) (Q : D → Store → Prop) (h : m_p_met_bent ds S Q) : ds.length = 3 := by unfold m_p_met_bent at h; obtain ⟨_, _, _, _, _, rfl, _⟩ := h; rfl
set_option maxHeartbeats 4000000 in
theorem v_p_met_bent (ds : List D) (S : Store) (Q : D → Store → Prop) (h : m_p_met_bent ds S Q) : w_p_met_bent m_p_next m_p_gap m_p_plus m_p_less m_p_weights (fin Q) (dst 8 ds) S := by
  unfold m_p_met_bent at h
  obtain ⟨p, way, a, b, c, rfl, ha0, ha8, hb0, hb8, hab, hbb, hc, hS, q⟩ := h
  unfold w_p_met_bent
  (repeat first | refine ⟨_, rfl, ?_⟩ | refine ⟨_, _, rfl, (rfl : atI _ _ = some _), ?_⟩ | refine ⟨_, _, rfl, isi_tuple, ?_⟩ | refine ⟨trivial, ?_⟩ | refine ⟨rfl, ?_⟩ | refine ⟨by show _ ≤ sizeLine; decide, ?_⟩)
  intro fa hfa
  (repeat first | refine ⟨_, rfl, ?_⟩ | refine ⟨_, _, rfl, (rfl : atI _ _ = some _), ?_⟩ | refine ⟨_, _, rfl, isi_tuple, ?_⟩ | refine ⟨trivial, ?_⟩ | refine ⟨rfl, ?_⟩ | refine ⟨by show _ ≤ sizeLine; decide, ?_⟩)
  intro fb hfb
  refine ⟨by show 2 ≤ sizeLine; decide, fun f hf => ?_⟩
  have w0 := Pw.refl hS
  have hap := hS.ne hfa
  have w1 := w0.put (l := .lst (rowD a)) hap hfa
  obtain ⟨hbp, hb0'⟩ := w1.new hfb
  have w2 := w1.put (l := .lst (rowD b)) hbp hb0'
  obtain ⟨hfp, hf0⟩ := w2.new hf
  have w3 := w2.put (l := .lst [.ref fa, .ref fb]) hfp hf0
  have nab : fa ≠ fb := fun e => by rw [← e, sput_same] at hfb; cases hfb
  have nbf : fb ≠ f := fun e => by rw [← e, sput_same] at hf; cases hf
  have naf : fa ≠ f := fun e => by rw [← e, sput_ne nab, sput_same] at hf; cases hf
  have E1 : (sput (sput (sput S fa (.lst (rowD a))) fb (.lst (rowD b))) f (.lst [.ref fa, .ref fb])) fa = some (.lst (rowD a)) := by rw [sput_ne naf, sput_ne nab, sput_same]
  have E2 : (sput (sput (sput S fa (.lst (rowD a))) fb (.lst (rowD b))) f (.lst [.ref fa, .ref fb])) fb = some (.lst (rowD b)) := by rw [sput_ne nbf, sput_same]
  have E3 : (sput (sput (sput S fa (.lst (rowD a))) fb (.lst (rowD b))) f (.lst [.ref fa, .ref fb])) f = some (.lst [.ref fa, .ref fb]) := sput_same
  generalize sput (sput (sput S fa (.lst (rowD a))) fb (.lst (rowD b))) f (.lst [.ref fa, .ref fb]) = T at *
  have A1 : MetA S p fa fb f := ⟨hap, hfa, nab, naf, hbp, hfp, hf0, nbf.symm⟩
  have A2 : MetA S p fb fa f := ⟨hbp, hb0', nab.symm, nbf, hap, hfp, hf0, naf.symm⟩
  dsimp only
  refine wSeq_cut (fun env S' => ∃ (s o : Addr) (xs xo : List Rat) (ks : Nat), env = [some (.ref p), some (.int way), some (TwoT.met a b).d, some (.ref f), some (.ref s), none, none, none] ∧ MetA S p s o f ∧ StM S p s o f (c + 1) 10 ks xs xo [.ref fa, .ref fb] S' ∧ 0 < ks ∧ ((s = fa ∧ o = fb ∧ xs = a ∧ xo = b) ∨ (s = fb ∧ o = fa ∧ xs = b ∧ xo = a))) (fun env S1 hP => ?_) (fun nx hnx => ?_)
  rotate_left
  · refine ⟨_, rfl, _, rfl, use_pnext w3.1 (by omega) (by decide) fun r S1 r0 r1 d1 => ?_⟩
    rcases (show r = 0 ∨ r = 1 by omega) with rfl | rfl
    · exact ⟨_, _, by show S1 f = _; rw [d1.get hfp]; exact E3, rfl, hnx _ _ ⟨fa, fb, a, b, _, rfl, A1, ⟨by rw [d1.get hap]; exact E1, by rw [d1.get hbp]; exact E2, by rw [d1.get hfp]; exact E3, (w3.sk d1).up (by omega), rfl, hab⟩, ha0, .inl ⟨rfl, rfl, rfl, rfl⟩⟩⟩
    · exact ⟨_, _, by show S1 f = _; rw [d1.get hfp]; exact E3, rfl, hnx _ _ ⟨fb, fa, b, a, _, rfl, A2, ⟨by rw [d1.get hbp]; exact E2, by rw [d1.get hap]; exact E1, by rw [d1.get hfp]; exact E3, (w3.sk d1).up (by omega), rfl, hbb⟩, hb0, .inr ⟨rfl, rfl, rfl, rfl⟩⟩⟩
  obtain ⟨s, o, xs, xo, ks, rfl, A, h1, hks, hor⟩ := hP
  (repeat first | refine ⟨_, rfl, ?_⟩ | refine ⟨_, _, rfl, (rfl : atI _ _ = some _), ?_⟩ | refine ⟨_, _, rfl, isi_tuple, ?_⟩ | refine ⟨trivial, ?_⟩ | refine ⟨rfl, ?_⟩ | refine ⟨by show _ ≤ sizeLine; decide, ?_⟩)
  refine ⟨_, h1.es, ?_⟩
  rw [rowD_len, h1.ls]
  refine use_pnext h1.w.1 (by omega) (by omega) fun i S2 i0 i1 d2 => ?_
  have h2 := h1.sk A d2
  (repeat first | refine ⟨_, rfl, ?_⟩ | refine ⟨_, _, rfl, (rfl : atI _ _ = some _), ?_⟩ | refine ⟨_, _, rfl, isi_tuple, ?_⟩ | refine ⟨trivial, ?_⟩ | refine ⟨rfl, ?_⟩ | refine ⟨by show _ ≤ sizeLine; decide, ?_⟩)
  refine ⟨_, h2.es, ?_⟩
  rw [rowD_len, h2.ls]
  refine use_pnext h2.w.1 (by omega) (by omega) fun j S3 j0 j1 d3 => ?_
  have h3 := h2.sk A d3
  (repeat first | refine ⟨_, rfl, ?_⟩ | refine ⟨_, _, rfl, (rfl : atI _ _ = some _), ?_⟩ | refine ⟨_, _, rfl, isi_tuple, ?_⟩ | refine ⟨trivial, ?_⟩ | refine ⟨rfl, ?_⟩ | refine ⟨by show _ ≤ sizeLine; decide, ?_⟩)
  refine in_p_gap ⟨p, _, rfl, by omega, h3.w.1, fun g S4 gb _ d4 => ?_⟩
  have h4 := (h3.sk A d4).up (c' := c + 10) (by omega) (Nat.le_refl _)
  dsimp only
  refine wSeq_cut (fun env S' => env = [some (.ref p), some (.int way), some (TwoT.met a b).d, some (.ref f), some (.ref s), some (.int i), some (.int j), some (dQ g)] ∧ ∃ ys, StM S p s o f (c + 10) 20 ks ys xo [.ref fa, .ref fb] S' ∧ (way = 0 → ys = xs)) (fun env S5 hP => ?_) (fun nx hnx => ?_)
  rotate_left
  · refine wIf_oneP (pa := decide (way = 1)) (fun Q k => ⟨_, rfl, k⟩) (fun h1 => ?_) (hnx _ _ ⟨rfl, xs, h4.up (Nat.le_refl _) (by decide), fun _ => rfl⟩)
    have hw := of_decide_eq_true h1
    refine ⟨_, rfl, _, rfl, h4.ix i0 i1 fun r rb => ?_⟩
    exact ⟨_, rfl, use_plus rb gb (by decide) ⟨_, rfl, _, rfl, (h4.up (B' := 20) (Nat.le_refl _) (by decide)).set A i0 i1 ((bq_add rb gb).mono (by decide)) fun ys S' h => hnx _ _ ⟨rfl, ys, h, fun z => by omega⟩⟩⟩
  obtain ⟨rfl, ys, h5, hw5⟩ := hP
  refine wSeq_cut (fun env S' => env = [some (.ref p), some (.int way), some (TwoT.met a b).d, some (.ref f), some (.ref s), some (.int i), some (.int j), some (dQ g)] ∧ ∃ ys, StM S p s o f (c + 10) 20 ks ys xo [.ref fa, .ref fb] S' ∧ (way = 0 → ys = xs)) (fun env S6 hP => ?_) (fun nx hnx => ?_)
  rotate_left
  · refine wIf_oneP (pa := decide (way = 2)) (fun Q k => ⟨_, rfl, k⟩) (fun h1 => ?_) (hnx _ _ ⟨rfl, ys, h5, hw5⟩)
    have hw := of_decide_eq_true h1
    refine ⟨_, rfl, _, rfl, h5.ix j0 j1 fun r rb => ?_⟩
    refine ⟨_, rfl, _, rfl, h5.ix i0 i1 fun r2 rb2 => ?_⟩
    refine ⟨by show 2 ≤ sizeLine; decide, _, rfl, rfl, ?_⟩
    exact ⟨_, rfl, _, rfl, h5.set A i0 i1 rb fun ys S' h => ⟨_, rfl, _, rfl, h.set A j0 j1 rb2 fun ys S' h => hnx _ _ ⟨rfl, ys, h, fun z => by omega⟩⟩⟩
  obtain ⟨rfl, ys, h6, hw6⟩ := hP
  refine wSeq_cut (fun env S' => env = [some (.ref p), some (.int way), some (TwoT.met a b).d, some (.ref f), some (.ref s), some (.int i), some (.int j), some (dQ g)] ∧ ∃ ys, StM S p s o f (c + 10) 40 ks ys xo [.ref fa, .ref fb] S' ∧ (way = 0 → ys = xs)) (fun env S7 hP => ?_) (fun nx hnx => ?_)
  rotate_left
  · refine wIf_oneP (pa := decide (way = 3)) (fun Q k => ⟨_, rfl, k⟩) (fun h1 => ?_) (hnx _ _ ⟨rfl, ys, h6.up (Nat.le_refl _) (by decide), hw6⟩)
    have hw := of_decide_eq_true h1
    refine ⟨_, rfl, _, rfl, h6.ix i0 i1 fun r rb => ?_⟩
    refine ⟨_, rfl, use_plus rb gb (by decide) ⟨_, rfl, _, rfl, (h6.up (B' := 30) (Nat.le_refl _) (by decide)).set A i0 i1 ((bq_add rb gb).mono (by decide)) fun ys S' h => ?_⟩⟩
    refine ⟨_, rfl, _, rfl, h.ix j0 j1 fun r rb => ?_⟩
    exact ⟨_, rfl, use_less rb gb (by decide) ⟨_, rfl, _, rfl, (h.up (B' := 40) (Nat.le_refl _) (by decide)).set A j0 j1 ((bq_sub rb gb).mono (by decide)) fun ys S' h => hnx _ _ ⟨rfl, ys, h, fun z => by omega⟩⟩⟩
  obtain ⟨rfl, ys, h7, hw7⟩ := hP
  have two : ∃ za zb, S7 fa = some (.lst (rowD za)) ∧ S7 fb = some (.lst (rowD zb)) ∧ za.length = a.length ∧ zb.length = b.length ∧ (∀ q ∈ za, bq 200 q) ∧ (∀ q ∈ zb, bq 200 q) ∧ (way = 0 → za = a ∧ zb = b) := by
    have hl := h7.ls
    have hl1 := h1.ls
    rcases hor with ⟨rfl, rfl, rfl, rfl⟩ | ⟨rfl, rfl, rfl, rfl⟩
    · exact ⟨ys, xo, h7.es, h7.eo, by rw [hl, hl1], rfl, fun q hq => (h7.bs q hq).mono (by decide), fun q hq => (hbb q hq).mono (by decide), fun z => ⟨hw7 z, rfl⟩⟩
    · exact ⟨xo, ys, h7.eo, h7.es, rfl, by rw [hl, hl1], fun q hq => (hab q hq).mono (by decide), fun q hq => (h7.bs q hq).mono (by decide), fun z => ⟨rfl, hw7 z⟩⟩
  obtain ⟨za, zb, ea, eb, la, lb, ba, bb, hz⟩ := two
  refine wSeq_cut (fun env S' => env = [some (.ref p), some (.int way), some (TwoT.met a b).d, some (.ref f), some (.ref s), some (.int i), some (.int j), some (dQ g)] ∧ ∃ (d : D) (za : List Rat), SC S' d (rowD za) ∧ S' f = some (.lst [d, .ref fb]) ∧ S' fb = some (.lst (rowD zb)) ∧ za.length = a.length ∧ (∀ q ∈ za, bq 200 q) ∧ (way = 0 → za = a) ∧ Pw (c + 100) p S S') (fun env S8 hP => ?_) (fun nx hnx => ?_)
  rotate_left
  · refine wIf_oneP (pa := decide (way = 4)) (fun Q k => ⟨_, rfl, k⟩) (fun h1 => ?_) (hnx _ _ ⟨rfl, .ref fa, za, ea, h7.ef, eb, la, ba, fun z => (hz z).1, h7.w.up (by omega)⟩)
    have hw := of_decide_eq_true h1
    refine ⟨_, rfl, _, rfl, _, _, h7.ef, rfl, _, ea, ?_⟩
    rw [rowD_len, la]
    refine in_p_weights ⟨p, a.length, _, rfl, ha0, by omega, by omega, h7.w.1, fun qs S8 hql hqb _ w8 => ?_⟩
    refine ⟨_, rfl, _, 0, w8.2 _ _ hfp h7.ef, rfl, ?_⟩
    refine hnx _ _ ⟨rfl, .tup (rowD qs), qs, rfl, sput_same, by rw [sput_ne nbf]; exact w8.2 _ _ hbp eb, hql, fun q hq => (hqb q hq).mono (by decide), fun z => by omega, ((h7.w.trans w8).put hfp hf0).up (by omega)⟩
  obtain ⟨rfl, d, za, hd, ef, eb, la, ba, hza, w8⟩ := hP
  (repeat first | refine ⟨_, rfl, ?_⟩ | refine ⟨_, _, rfl, (rfl : atI _ _ = some _), ?_⟩ | refine ⟨_, _, rfl, isi_tuple, ?_⟩ | refine ⟨trivial, ?_⟩ | refine ⟨rfl, ?_⟩ | refine ⟨by show _ ≤ sizeLine; decide, ?_⟩)
  refine ⟨_, _, ef, rfl, ?_⟩
  (repeat first | refine ⟨_, rfl, ?_⟩ | refine ⟨_, _, rfl, (rfl : atI _ _ = some _), ?_⟩ | refine ⟨_, _, rfl, isi_tuple, ?_⟩ | refine ⟨trivial, ?_⟩ | refine ⟨rfl, ?_⟩ | refine ⟨by show _ ≤ sizeLine; decide, ?_⟩)
  refine ⟨_, hd, ?_⟩
  (repeat first | refine ⟨_, rfl, ?_⟩ | refine ⟨_, _, rfl, (rfl : atI _ _ = some _), ?_⟩ | refine ⟨_, _, rfl, isi_tuple, ?_⟩ | refine ⟨trivial, ?_⟩ | refine ⟨rfl, ?_⟩ | refine ⟨by show _ ≤ sizeLine; decide, ?_⟩)
  refine ⟨_, _, ef, rfl, ?_⟩
  (repeat first | refine ⟨_, rfl, ?_⟩ | refine ⟨_, _, rfl, (rfl : atI _ _ = some _), ?_⟩ | refine ⟨_, _, rfl, isi_tuple, ?_⟩ | refine ⟨trivial, ?_⟩ | refine ⟨rfl, ?_⟩ | refine ⟨by show _ ≤ sizeLine; decide, ?_⟩)
  refine ⟨_, eb, by show 3 ≤ sizeLine; decide, ?_⟩
  exact ⟨_, S8, Sub.refl _, .same _, q za zb S8 la lb ba bb (fun z => ⟨hza z, (hz z).2⟩) w8⟩

end ND
set_option Elab.async false
set_option linter.all false
set_option maxRecDepth 100000
namespace ND
open PySem PySem.Spec PyProof.Rows L2
theorem setc_goP {i : Nat} {d : D} {b : WS} {E : DEnds} {env : Slots} {S : Store} (h : b E (env.set i (some d)) S) : wSeq (wSet i (wC d)) b E env S := h
def w_law (f1 : On) (f2 : On) (f3 : On) (f4 : On) (f5 : On) (f6 : On) (f7 : On) (f8 : On) : WS :=
  (wSeq (wSet 1 (wCall f1 (wCons (wVar 0) wNil)))
  (wSeq (wSet 2 (wCall f2 (wCons (wVar 1) (wCons (wC (.int 8)) wNil))))
  (wSeq (wSet 3 (w2 oAdd (wC (.int 1)) (wCall f2 (wCons (wVar 1) (wCons (wC (.int 3)) wNil)))))
  (wSeq (wSet 4 (wC (.int 4)))
  (wSeq (wIfS (wTst (w2 oEq (wCall f2 (wCons (wVar 1) (wCons (wC (.int 8)) wNil))) (wC (.int 1)))) (wSeq (wSet 3 (w2 oAdd (wC (.int 4)) (wCall f2 (wCons (wVar 1) (wCons (wC (.int 3)) wNil)))))
  (wSet 4 (wC (.int 6)))) wNext)
  (wSeq (wIfS (wTst (w2 oEq (wCall f2 (wCons (wVar 1) (wCons (wC (.int 2)) wNil))) (wC (.int 0)))) (wSeq (wAsg (wCall f3 (wCons (wVar 1) (wCons (wVar 3) (wCons (wVar 4) wNil)))) (gT 3 (gConss (gN 5) (gConss (gN 6) (gConss (gN 7) gNils)))))
  (wSet 7 (wCall f4 (wCons (wVar 1) (wCons (wVar 2) (wCons (wVar 7) wNil)))))) (wSeq (wAsg (wCall f5 (wCons (wVar 1) (wCons (wVar 3) (wCons (wVar 4) wNil)))) (gT 3 (gConss (gN 5) (gConss (gN 6) (gConss (gN 7) gNils)))))
  (wSeq (wSet 7 (wCall f6 (wCons (wVar 1) (wCons (wVar 2) (wCons (wVar 5) (wCons (wVar 6) (wCons (wVar 7) wNil)))))))
  (wIfS (wTst (w2 oEq (wVar 2) (wC (.int 7)))) (wPar 5 6 (wCons (wVar 6) (wCons (wVar 5) wNil))) wNext))))
  (wSeq (wSet 8 (wCall f7 (wCons (wVar 5) (wCons (wVar 6) (wCons (wVar 7) wNil)))))
  (wSeq (wSet 9 (wCall f8 (wCons (wVar 5) (wCons (wVar 6) (wCons (wVar 7) wNil)))))
  (wSeq (wIfS (wAnd (wTst (w2 oEq (wVar 2) (wC (.int 0)))) (wNot (wTst (wVar 8)))) (wRet (wC (.bl false))) wNext)
  (wRet (wAndV (wIsi "bool" (wVar 9)) (w2 oEq (wVar 9) (wVar 8)))))))))))))
abbrev m_law : On := mLaw 63
theorem l_law (ds : List D) (S : Store) (Q : D → Store → Prop) (h : m_law ds S Q) : ds.length = 1 := by obtain ⟨_, _, rfl, _⟩ := h; rfl
set_option maxHeartbeats 4000000 in
theorem v_law (ds : List D) (S : Store) (Q : D → Store → Prop) (h : m_law ds S Q) : w_law m_p_pile m_p_next m_p_met m_p_met_bent m_p_parted m_p_parted_bent m_p_two_hold m_two_shown (fin Q) (dst 10 ds) S := by
  obtain ⟨d, ns, rfl, hc, hd, hl, q⟩ := h
  unfold w_law
  (repeat first | refine ⟨_, rfl, ?_⟩ | refine ⟨_, _, rfl, (rfl : atI _ _ = some _), ?_⟩ | refine ⟨_, _, rfl, isi_tuple, ?_⟩ | refine ⟨trivial, ?_⟩ | refine ⟨rfl, ?_⟩ | refine ⟨by show _ ≤ sizeLine; decide, ?_⟩)
  refine in_p_pile ⟨d, ns, rfl, hd, fun p S1 hp d1 => ?_⟩
  (repeat first | refine ⟨_, rfl, ?_⟩ | refine ⟨_, _, rfl, (rfl : atI _ _ = some _), ?_⟩ | refine ⟨_, _, rfl, isi_tuple, ?_⟩ | refine ⟨trivial, ?_⟩ | refine ⟨rfl, ?_⟩ | refine ⟨by show _ ≤ sizeLine; decide, ?_⟩)
  refine use_pnext d1.at (by omega) (by decide) fun way S2 a0 a1 d2 => ?_
  (repeat first | refine ⟨_, rfl, ?_⟩ | refine ⟨_, _, rfl, (rfl : atI _ _ = some _), ?_⟩ | refine ⟨_, _, rfl, isi_tuple, ?_⟩ | refine ⟨trivial, ?_⟩ | refine ⟨rfl, ?_⟩ | refine ⟨by show _ ≤ sizeLine; decide, ?_⟩)
  refine use_pnext d2.at (by omega) (by decide) fun r3 S3 b0 b1 d3 => ?_
  refine add_goP ?_
  dsimp only
  refine setc_goP ?_
  refine wSeq_cut (fun env S' => ∃ (size most : Nat), env = [some d, some (.ref p), some (.int way), some (.int size), some (.int most), none, none, none, none, none] ∧ 0 < size ∧ size ≤ 6 ∧ 2 ≤ most ∧ most ≤ 6 ∧ PkAt 10 p S') (fun env S4 hP => ?_) (fun nx hnx => ?_)
  rotate_left
  · refine ⟨_, rfl, use_pnext d3.at (by omega) (by decide) fun r4 S4 e0 e1 d4 => ?_⟩
    refine ite_nf (fun _ => ?_) fun _ => ?_
    · refine ⟨_, rfl, use_pnext d4.at (by omega) (by decide) fun r5 S5 f0 f1 d5 => ?_⟩
      obtain ⟨n, rfl⟩ := Int.eq_ofNat_of_zero_le f0
      refine hnx _ _ ⟨4 + n, 6, ?_, by omega, by omega, by omega, by omega, d5.at.up (by omega)⟩
      rw [show ((4 + n : Nat) : Int) = 4 + (n : Int) by omega]
      rfl
    · obtain ⟨n, rfl⟩ := Int.eq_ofNat_of_zero_le b0
      refine hnx _ _ ⟨1 + n, 4, ?_, by omega, by omega, by omega, by omega, d4.at.up (by omega)⟩
      rw [show ((1 + n : Nat) : Int) = 1 + (n : Int) by omega]
      rfl
  obtain ⟨size, most, rfl, s0, s6, m2, m6, hS4⟩ := hP
  refine wSeq_cut (fun env S' => ∃ (one other : List (List Rat)) (t : TwoT), env = [some d, some (.ref p), some (.int way), some (.int size), some (.int most), some (.tup (rowsD one)), some (.tup (rowsD other)), some t.d, none, none] ∧ TwoC one other size ∧ t.ok one other size ∧ (way = 0 → t.holds one other size = true)) (fun env S5 hP => ?_) (fun nx hnx => ?_)
  rotate_left
  · refine ⟨_, rfl, use_pnext hS4 (by omega) (by decide) fun r6 S5 e0 e1 d5 => ?_⟩
    refine ite_nf (fun _ => ?_) fun _ => ?_
    · (repeat first | refine ⟨_, rfl, ?_⟩ | refine ⟨_, _, rfl, (rfl : atI _ _ = some _), ?_⟩ | refine ⟨_, _, rfl, isi_tuple, ?_⟩ | refine ⟨trivial, ?_⟩ | refine ⟨rfl, ?_⟩ | refine ⟨by show _ ≤ sizeLine; decide, ?_⟩)
      refine in_p_met ⟨p, size, most, _, rfl, s0, s6, m2, m6, by omega, d5.at, fun one other a b S6 t ha hb hab hbb hh w6 => ?_⟩
      (repeat first | refine ⟨_, rfl, ?_⟩ | refine ⟨_, _, rfl, (rfl : atI _ _ = some _), ?_⟩ | refine ⟨_, _, rfl, isi_tuple, ?_⟩ | refine ⟨trivial, ?_⟩ | refine ⟨rfl, ?_⟩ | refine ⟨by show _ ≤ sizeLine; decide, ?_⟩)
      refine in_p_met_bent ⟨p, way, a, b, _, rfl, by rw [ha]; exact t.o0, by rw [ha]; exact t.o8, by rw [hb]; exact t.t0, by rw [hb]; exact t.t8, hab, hbb, by omega, w6.1, fun a' b' S7 ha' hb' hab' hbb' hz w7 => ?_⟩
      refine hnx _ _ ⟨one, other, .met a' b', rfl, t, ⟨by rw [ha', ha], by rw [hb', hb], hab', hbb'⟩, fun z => ?_⟩
      obtain ⟨rfl, rfl⟩ := hz z
      exact hh
    · (repeat first | refine ⟨_, rfl, ?_⟩ | refine ⟨_, _, rfl, (rfl : atI _ _ = some _), ?_⟩ | refine ⟨_, _, rfl, isi_tuple, ?_⟩ | refine ⟨trivial, ?_⟩ | refine ⟨rfl, ?_⟩ | refine ⟨by show _ ≤ sizeLine; decide, ?_⟩)
      refine in_p_parted ⟨p, size, most, _, rfl, s0, s6, m2, m6, by omega, d5.at, fun one other r n S6 t hr hrb hnb hh w6 => ?_⟩
      (repeat first | refine ⟨_, rfl, ?_⟩ | refine ⟨_, _, rfl, (rfl : atI _ _ = some _), ?_⟩ | refine ⟨_, _, rfl, isi_tuple, ?_⟩ | refine ⟨trivial, ?_⟩ | refine ⟨rfl, ?_⟩ | refine ⟨by show _ ≤ sizeLine; decide, ?_⟩)
      refine in_p_parted_bent ⟨p, way, one, other, r, n, size, _, rfl, s0, t, hr, hrb, hnb, by omega, w6.1, fun r' n' S7 hok hz d7 => ?_⟩
      refine ⟨_, rfl, ite_nf (fun h7 => ?_) fun h7 => ?_⟩
      · refine ⟨_, rfl, _, rfl, ?_⟩
        exact hnx _ _ ⟨other, one, .parted r' n', rfl, ⟨t.t0, t.t8, t.o0, t.o8, t.low, t.tw, t.ow⟩, hok, fun z => by omega⟩
      · refine hnx _ _ ⟨one, other, .parted r' n', rfl, t, hok, fun z => ?_⟩
        obtain ⟨rfl, rfl⟩ := hz z
        exact hh
  obtain ⟨one, other, t, rfl, tc, hok, hh⟩ := hP
  (repeat first | refine ⟨_, rfl, ?_⟩ | refine ⟨_, _, rfl, (rfl : atI _ _ = some _), ?_⟩ | refine ⟨_, _, rfl, isi_tuple, ?_⟩ | refine ⟨trivial, ?_⟩ | refine ⟨rfl, ?_⟩ | refine ⟨by show _ ≤ sizeLine; decide, ?_⟩)
  refine in_p_two_hold ⟨one, other, t, size, rfl, tc, hok, ?_⟩
  (repeat first | refine ⟨_, rfl, ?_⟩ | refine ⟨_, _, rfl, (rfl : atI _ _ = some _), ?_⟩ | refine ⟨_, _, rfl, isi_tuple, ?_⟩ | refine ⟨trivial, ?_⟩ | refine ⟨rfl, ?_⟩ | refine ⟨by show _ ≤ sizeLine; decide, ?_⟩)
  refine in_two_shown ⟨one, other, t, size, rfl, tc, hok, fun S6 => ?_⟩
  dsimp only
  refine wIf_andP (pa := decide (way = 0)) (pb := !(t.holds one other size)) (fun Q k => ⟨_, rfl, k⟩) (fun _ Q k => ⟨_, rfl, k⟩) (fun h1 h2 => ?_) (next_goP ?_)
  · rw [hh (of_decide_eq_true h1)] at h2
    cases h2
  (repeat first | refine ⟨_, rfl, ?_⟩ | refine ⟨_, _, rfl, (rfl : atI _ _ = some _), ?_⟩ | refine ⟨_, _, rfl, isi_tuple, ?_⟩ | refine ⟨trivial, ?_⟩ | refine ⟨rfl, ?_⟩ | refine ⟨by show _ ≤ sizeLine; decide, ?_⟩)
  refine eq_blB ?_
  simp only [beq_self_eq_true]
  exact q S6

end ND
set_option Elab.async false
set_option linter.all false
set_option maxRecDepth 100000
namespace ND
open PySem PySem.Spec PyProof.Rows L2
def topS (i : Nat) : Stmt := PySem.Challenge.pw_nearlaid_k73_two_shown.main.body.getD i (.Pass ⟨0, 0, 0, 0⟩)
abbrev c_ONE : D := (.tup [(.int 1), (.int 1)])
abbrev s_law_pile : Stmt := topS 11
abbrev n_law_pile : List Str := ["script"]
theorem sc_law_pile : FnScope n_law_pile ["script"] (defScope s_law_pile) := ⟨rfl, rfl, rfl, by decide +kernel, rfl, by decide +kernel, by decide +kernel⟩
abbrev s_law_next : Stmt := topS 12
abbrev n_law_next : List Str := ["pile", "most", "found", "cell"]
theorem sc_law_next : FnScope n_law_next ["pile", "most"] (defScope s_law_next) := ⟨rfl, rfl, rfl, by decide +kernel, rfl, by decide +kernel, by decide +kernel⟩
abbrev s_law_fraction : Stmt := topS 13
abbrev n_law_fraction : List Str := ["upper", "below", "one", "other"]
theorem sc_law_fraction : FnScope n_law_fraction ["upper", "below"] (defScope s_law_fraction) := ⟨rfl, rfl, rfl, by decide +kernel, rfl, by decide +kernel, by decide +kernel⟩
abbrev s_law_number : Stmt := topS 18
abbrev n_law_number : List Str := ["pile", "great", "way"]
theorem sc_law_number : FnScope n_law_number ["pile", "great"] (defScope s_law_number) := ⟨rfl, rfl, rfl, by decide +kernel, rfl, by decide +kernel, by decide +kernel⟩
abbrev s_law_row : Stmt := topS 19
abbrev n_law_row : List Str := ["pile", "many", "great", "k"]
theorem sc_law_row : FnScope n_law_row ["pile", "many", "great"] (defScope s_law_row) := ⟨rfl, rfl, rfl, by decide +kernel, rfl, by decide +kernel, by decide +kernel⟩
abbrev s_law_plus : Stmt := topS 14
abbrev n_law_plus : List Str := ["one", "other"]
theorem sc_law_plus : FnScope n_law_plus ["one", "other"] (defScope s_law_plus) := ⟨rfl, rfl, rfl, by decide +kernel, rfl, by decide +kernel, by decide +kernel⟩
abbrev s_law_times : Stmt := topS 16
abbrev n_law_times : List Str := ["one", "other"]
theorem sc_law_times : FnScope n_law_times ["one", "other"] (defScope s_law_times) := ⟨rfl, rfl, rfl, by decide +kernel, rfl, by decide +kernel, by decide +kernel⟩
abbrev s_law_body : Stmt := topS 23
abbrev n_law_body : List Str := ["pile", "many", "size", "great", "points", "k", "way", "point", "a", "b"]
theorem sc_law_body : FnScope n_law_body ["pile", "many", "size", "great"] (defScope s_law_body) := ⟨rfl, rfl, rfl, by decide +kernel, rfl, by decide +kernel, by decide +kernel⟩
abbrev s_law_weights : Stmt := topS 22
abbrev n_law_weights : List Str := ["pile", "many", "counts", "k", "one"]
theorem sc_law_weights : FnScope n_law_weights ["pile", "many"] (defScope s_law_weights) := ⟨rfl, rfl, rfl, by decide +kernel, rfl, by decide +kernel, by decide +kernel⟩
abbrev s_law_product : Stmt := topS 17
abbrev n_law_product : List Str := ["row", "other", "total", "one", "two"]
theorem sc_law_product : FnScope n_law_product ["row", "other"] (defScope s_law_product) := ⟨rfl, rfl, rfl, by decide +kernel, rfl, by decide +kernel, by decide +kernel⟩
abbrev s_law_sum : Stmt := topS 21
abbrev n_law_sum : List Str := ["points", "weights", "k", "point"]
theorem sc_law_sum : FnScope n_law_sum ["points", "weights"] (defScope s_law_sum) := ⟨rfl, rfl, rfl, by decide +kernel, rfl, by decide +kernel, by decide +kernel⟩
abbrev s_law_less : Stmt := topS 15
abbrev n_law_less : List Str := ["one", "other"]
theorem sc_law_less : FnScope n_law_less ["one", "other"] (defScope s_law_less) := ⟨rfl, rfl, rfl, by decide +kernel, rfl, by decide +kernel, by decide +kernel⟩
abbrev s_law_met_bodies : Stmt := topS 26
abbrev n_law_met_bodies : List Str := ["pile", "size", "most", "one", "first", "here", "other", "some", "middle", "last", "at", "a", "b", "weight"]
theorem sc_law_met_bodies : FnScope n_law_met_bodies ["pile", "size", "most"] (defScope s_law_met_bodies) := ⟨rfl, rfl, rfl, by decide +kernel, rfl, by decide +kernel, by decide +kernel⟩
abbrev s_law_gap : Stmt := topS 20
abbrev n_law_gap : List Str := ["pile"]
theorem sc_law_gap : FnScope n_law_gap ["pile"] (defScope s_law_gap) := ⟨rfl, rfl, rfl, by decide +kernel, rfl, by decide +kernel, by decide +kernel⟩
abbrev s_law_met_bent : Stmt := topS 28
abbrev n_law_met_bent : List Str := ["pile", "way", "told", "rows", "side", "at", "to", "gap"]
theorem sc_law_met_bent : FnScope n_law_met_bent ["pile", "way", "told"] (defScope s_law_met_bent) := ⟨rfl, rfl, rfl, by decide +kernel, rfl, by decide +kernel, by decide +kernel⟩
abbrev s_law_parted_bodies : Stmt := topS 27
abbrev n_law_parted_bodies : List Str := ["pile", "size", "most", "one", "row", "at", "level", "point", "height", "number", "other", "lack", "step", "k"]
theorem sc_law_parted_bodies : FnScope n_law_parted_bodies ["pile", "size", "most"] (defScope s_law_parted_bodies) := ⟨rfl, rfl, rfl, by decide +kernel, rfl, by decide +kernel, by decide +kernel⟩
abbrev s_law_parted_bent : Stmt := topS 29
abbrev n_law_parted_bent : List Str := ["pile", "way", "one", "other", "told", "row", "number", "at", "gap", "part"]
theorem sc_law_parted_bent : FnScope n_law_parted_bent ["pile", "way", "one", "other", "told"] (defScope s_law_parted_bent) := ⟨rfl, rfl, rfl, by decide +kernel, rfl, by decide +kernel, by decide +kernel⟩
abbrev s_law_are_weights : Stmt := topS 24
abbrev n_law_are_weights : List Str := ["weights", "total", "weight"]
theorem sc_law_are_weights : FnScope n_law_are_weights ["weights"] (defScope s_law_are_weights) := ⟨rfl, rfl, rfl, by decide +kernel, rfl, by decide +kernel, by decide +kernel⟩
abbrev s_law_two_hold : Stmt := topS 25
abbrev n_law_two_hold : List Str := ["one", "other", "told", "word", "first", "last", "point"]
theorem sc_law_two_hold : FnScope n_law_two_hold ["one", "other", "told"] (defScope s_law_two_hold) := ⟨rfl, rfl, rfl, by decide +kernel, rfl, by decide +kernel, by decide +kernel⟩
abbrev s_divisor : Stmt := topS 1
abbrev n_divisor : List Str := ["one", "other"]
theorem sc_divisor : FnScope n_divisor ["one", "other"] (defScope s_divisor) := ⟨rfl, rfl, rfl, by decide +kernel, rfl, by decide +kernel, by decide +kernel⟩
abbrev s_fraction : Stmt := topS 2
abbrev n_fraction : List Str := ["top", "below", "by"]
theorem sc_fraction : FnScope n_fraction ["top", "below"] (defScope s_fraction) := ⟨rfl, rfl, rfl, by decide +kernel, rfl, by decide +kernel, by decide +kernel⟩
abbrev s_product : Stmt := topS 4
abbrev n_product : List Str := ["row", "other", "top", "below", "one", "two", "part"]
theorem sc_product : FnScope n_product ["row", "other"] (defScope s_product) := ⟨rfl, rfl, rfl, by decide +kernel, rfl, by decide +kernel, by decide +kernel⟩
abbrev s_are_let : Stmt := topS 8
abbrev n_are_let : List Str := ["weights", "total", "weight"]
theorem sc_are_let : FnScope n_are_let ["weights"] (defScope s_are_let) := ⟨rfl, rfl, rfl, by decide +kernel, rfl, by decide +kernel, by decide +kernel⟩
abbrev s_sum_of : Stmt := topS 7
abbrev n_sum_of : List Str := ["body", "weights", "found", "k", "point"]
theorem sc_sum_of : FnScope n_sum_of ["body", "weights"] (defScope s_sum_of) := ⟨rfl, rfl, rfl, by decide +kernel, rfl, by decide +kernel, by decide +kernel⟩
abbrev s_compared : Stmt := topS 3
abbrev n_compared : List Str := ["one", "other", "far"]
theorem sc_compared : FnScope n_compared ["one", "other"] (defScope s_compared) := ⟨rfl, rfl, rfl, by decide +kernel, rfl, by decide +kernel, by decide +kernel⟩
abbrev s_two_shown : Stmt := topS 9
abbrev n_two_shown : List Str := ["one", "other", "told", "word", "first", "last", "point"]
theorem sc_two_shown : FnScope n_two_shown ["one", "other", "told"] (defScope s_two_shown) := ⟨rfl, rfl, rfl, by decide +kernel, rfl, by decide +kernel, by decide +kernel⟩
abbrev s_law : Stmt := topS 30
abbrev n_law : List Str := ["script", "pile", "way", "size", "most", "one", "other", "told", "due", "found"]
theorem sc_law : FnScope n_law ["script"] (defScope s_law) := ⟨rfl, rfl, rfl, by decide +kernel, rfl, by decide +kernel, by decide +kernel⟩
section
variable {P : Program} {w : World} {K : PySem.W.Frag} {mg : Str → Option Value} {base : Heap}
set_option maxHeartbeats 4000000 in
theorem ok_law_pile {f : Addr} {fd : FuncData} (F : Fun K "_law_pile" "_law_pile" s_law_pile f fd) : FnOk P w K mg base CX0 1 f fd ["script"] (spD K m_p_pile) :=
  okD F sc_law_pile l_p_pile fun cdv A outer s H E hr => ⟨w_p_pile,
  (dss_one (ds_ret (de_lstM (da_cons (de_var 0) (da_cons de_int (da_cons de_int (da_cons de_int (da_cons de_int da_nil)))))))), v_p_pile⟩
set_option maxHeartbeats 4000000 in
theorem ok_law_next {f : Addr} {fd : FuncData} (F : Fun K "_law_next" "_law_next" s_law_next f fd) (z_len : mg "len" = none) (z_abs : mg "abs" = none) (hN : base.NoSeer) (hT : P.given.tree = none) : FnOk P w K mg base CX0 33 f fd ["pile", "most"] (spD K m_p_next) :=
  okD F sc_law_next l_p_next fun cdv A outer s H E hr => have hs := seerD hN hT hr (by decide) rfl rfl; ⟨w_p_next,
  (dss_cons (ds_if (dt_cmp od_gt (de_ix odx_ix (de_var 0) de_int) de_int) (dss_cons (ds_set 2 sc_law_next.nd (Or.inl rfl) (de_bin od_mod (de_ix odx_ix (de_var 0) de_int) (de_var 1)))
  (dss_cons (ds_asg (vs := []) (de_bin (od_fdiv hs) (de_ix odx_ix (de_var 0) de_int) (de_var 1)) (dg_sub (de_var 0) de_int od_set))
  (dss_one (ds_ret (de_var 2))))) dss_nil)
  (dss_cons (ds_if (dt_cmp od_lt (de_ix odx_ix (de_var 0) de_int) (de_callB cd_len (by rfl) z_len bt_len (da_cons (de_ix odx_ix (de_var 0) de_int) da_nil))) (dss_cons (ds_set 3 sc_law_next.nd (Or.inl rfl) (de_ix odx_ix (de_ix odx_ix (de_var 0) de_int) (de_ix odx_ix (de_var 0) de_int)))
  (dss_cons (ds_asg (vs := []) (de_bin od_add (de_ix odx_ix (de_var 0) de_int) de_int) (dg_sub (de_var 0) de_int od_set))
  (dss_cons (ds_asg (vs := []) (de_bin od_mod (de_bin od_add (de_bin od_mul (de_ix odx_ix (de_var 0) de_int) de_int) (de_var 3)) de_int) (dg_sub (de_var 0) de_int od_set))
  (dss_cons (ds_if (dt_cmp od_ge (de_callB cd_abs (by rfl) z_abs bt_abs (da_cons (de_var 3) da_nil)) (de_bin od_pow de_int de_int)) (dss_cons (ds_asg (vs := []) (de_bin (od_fdiv hs) (de_callB cd_abs (by rfl) z_abs bt_abs (da_cons (de_var 3) da_nil)) (de_var 1)) (dg_sub (de_var 0) de_int od_set))
  (dss_one (ds_ret (de_bin od_mod (de_callB cd_abs (by rfl) z_abs bt_abs (da_cons (de_var 3) da_nil)) (de_var 1))))) dss_nil)
  (dss_one (ds_ret (de_bin od_mod (de_var 3) (de_var 1)))))))) dss_nil)
  (dss_cons (ds_asg (vs := []) (de_bin od_add (de_ix odx_ix (de_var 0) de_int) de_int) (dg_sub (de_var 0) de_int od_set))
  (dss_cons (ds_asg (vs := []) (de_bin od_mod (de_bin od_add (de_bin od_add (de_bin od_mul (de_ix odx_ix (de_var 0) de_int) (de_ix odx_ix (de_var 0) de_int)) (de_bin od_mul de_int (de_ix odx_ix (de_var 0) de_int))) de_int) de_int) (dg_sub (de_var 0) de_int od_set))
  (dss_one (ds_ret (de_bin od_mod (de_bin (od_fdiv hs) (de_ix odx_ix (de_var 0) de_int) de_int) (de_var 1)))))))), v_p_next⟩
set_option maxHeartbeats 4000000 in
theorem ok_law_fraction {f : Addr} {fd : FuncData} (F : Fun K "_law_fraction" "_law_fraction" s_law_fraction f fd) (z_abs : mg "abs" = none) (hN : base.NoSeer) (hT : P.given.tree = none) : FnOk P w K mg base CX0 33 f fd ["upper", "below"] (spD K m_p_fraction) :=
  okD F sc_law_fraction l_p_fraction fun cdv A outer s H E hr => have hs := seerD hN hT hr (by decide) rfl rfl; ⟨w_p_fraction,
  (dss_cons (ds_if (dt_cmp od_lt (de_var 1) de_int) (dss_cons (ds_set 0 sc_law_fraction.nd (Or.inl rfl) (de_bin od_sub de_int (de_var 0)))
  (dss_one (ds_set 1 sc_law_fraction.nd (Or.inl rfl) (de_bin od_sub de_int (de_var 1))))) dss_nil)
  (dss_cons (ds_set 2 sc_law_fraction.nd (Or.inl rfl) (de_callB cd_abs (by rfl) z_abs bt_abs (da_cons (de_var 0) da_nil)))
  (dss_cons (ds_set 3 sc_law_fraction.nd (Or.inl rfl) (de_var 1))
  (dss_cons (ds_while PassesOwn.never (dt_cmp od_gt (de_var 3) de_int) (dss_one (ds_par 2 3 rfl sc_law_fraction.nd rfl rfl (da_cons (de_var 3) (da_cons (de_bin od_mod (de_var 2) (de_var 3)) da_nil)))))
  (dss_one (ds_ret (de_tup (da_cons (de_bin (od_fdiv hs) (de_var 0) (de_var 2)) (da_cons (de_bin (od_fdiv hs) (de_var 1) (de_var 2)) da_nil))))))))), v_p_fraction⟩
set_option maxHeartbeats 4000000 in
theorem ok_law_number {f : Addr} {fd : FuncData} (F : Fun K "_law_number" "_law_number" s_law_number f fd) (k_law_next : CalD P w K mg base 33 "_law_next" m_p_next) (k_law_fraction : CalD P w K mg base 33 "_law_fraction" m_p_fraction) : FnOk P w K mg base CX0 34 f fd ["pile", "great"] (spD K m_p_number) :=
  okD F sc_law_number l_p_number fun cdv A outer s H E hr => ⟨w_p_number m_p_next m_p_fraction,
  (dss_cons (ds_set 2 sc_law_number.nd (Or.inl rfl) (de_call (k_law_next.up (by decide)) hr (by rfl) (da_cons (de_var 0) (da_cons de_int da_nil))))
  (dss_cons (ds_if (dt_cmp od_lt (de_var 2) de_int) (dss_one (ds_ret (de_tup (da_cons (de_bin od_sub (de_call (k_law_next.up (by decide)) hr (by rfl) (da_cons (de_var 0) (da_cons de_int da_nil))) de_int) (da_cons de_int da_nil))))) dss_nil)
  (dss_cons (ds_if (dt_cmp (od_eq hr.units) (de_var 2) de_int) (dss_one (ds_ret (de_tup (da_cons de_int (da_cons de_int da_nil))))) dss_nil)
  (dss_cons (ds_if (dt_w (dw_and (dt_cmp (od_eq hr.units) (de_var 2) de_int) (dw_and1 (dt_val (de_var 1))))) (dss_one (ds_ret (de_call (k_law_fraction.up (by decide)) hr (by rfl) (da_cons (de_bin od_add (de_bin od_sub (de_call (k_law_next.up (by decide)) hr (by rfl) (da_cons (de_var 0) (da_cons (de_bin od_sub (de_bin od_mul de_int (de_bin od_pow de_int de_int)) de_int) da_nil))) (de_bin od_pow de_int de_int)) de_int) (da_cons (de_bin od_add de_int (de_call (k_law_next.up (by decide)) hr (by rfl) (da_cons (de_var 0) (da_cons (de_bin od_sub (de_bin od_pow de_int de_int) de_int) da_nil)))) da_nil))))) dss_nil)
  (dss_one (ds_ret (de_call (k_law_fraction.up (by decide)) hr (by rfl) (da_cons (de_bin od_sub (de_call (k_law_next.up (by decide)) hr (by rfl) (da_cons (de_var 0) (da_cons de_int da_nil))) de_int) (da_cons (de_bin od_add de_int (de_call (k_law_next.up (by decide)) hr (by rfl) (da_cons (de_var 0) (da_cons de_int da_nil)))) da_nil))))))))), v_p_number⟩
set_option maxHeartbeats 4000000 in
theorem ok_law_row {f : Addr} {fd : FuncData} (F : Fun K "_law_row" "_law_row" s_law_row f fd) (k_law_number : CalD P w K mg base 34 "_law_number" m_p_number) (z_tuple : mg "tuple" = none) (z_range : mg "range" = none) : FnOk P w K mg base CX0 35 f fd ["pile", "many", "great"] (spD K m_p_row) :=
  okD F sc_law_row l_p_row fun cdv A outer s H E hr => ⟨w_p_row m_p_number,
  (dss_one (ds_ret (de_callTy cd_tuple (by rfl) z_tuple bt_tuple (da_cons (de_lc (own := [("k", 3)]) rfl sc_law_row.nd (di_rng1 (by rfl) z_range (de_var 1)) (blkOk_by (N := n_law_row) (sc := (defScope s_law_row)) (by decide +kernel)) (fun _ _ _ _ _ => (dg_name 3 sc_law_row.nd (Or.inl rfl))) (fun _ _ _ _ _ => dts_nil) (fun _ _ _ _ _ => (de_call (k_law_number.up (by decide)) hr (by rfl) (da_cons (de_var 0) (da_cons (de_var 2) da_nil))))) da_nil)))), v_p_row⟩
set_option maxHeartbeats 4000000 in
theorem ok_law_plus {f : Addr} {fd : FuncData} (F : Fun K "_law_plus" "_law_plus" s_law_plus f fd) (k_law_fraction : CalD P w K mg base 33 "_law_fraction" m_p_fraction) : FnOk P w K mg base CX0 34 f fd ["one", "other"] (spD K m_p_plus) :=
  okD F sc_law_plus l_p_plus fun cdv A outer s H E hr => ⟨w_p_plus m_p_fraction,
  (dss_one (ds_ret (de_call (k_law_fraction.up (by decide)) hr (by rfl) (da_cons (de_bin od_add (de_bin od_mul (de_ix odx_ix (de_var 0) de_int) (de_ix odx_ix (de_var 1) de_int)) (de_bin od_mul (de_ix odx_ix (de_var 1) de_int) (de_ix odx_ix (de_var 0) de_int))) (da_cons (de_bin od_mul (de_ix odx_ix (de_var 0) de_int) (de_ix odx_ix (de_var 1) de_int)) da_nil))))), v_p_plus⟩
set_option maxHeartbeats 4000000 in
theorem ok_law_times {f : Addr} {fd : FuncData} (F : Fun K "_law_times" "_law_times" s_law_times f fd) (k_law_fraction : CalD P w K mg base 33 "_law_fraction" m_p_fraction) : FnOk P w K mg base CX0 34 f fd ["one", "other"] (spD K m_p_times) :=
  okD F sc_law_times l_p_times fun cdv A outer s H E hr => ⟨w_p_times m_p_fraction,
  (dss_one (ds_ret (de_call (k_law_fraction.up (by decide)) hr (by rfl) (da_cons (de_bin od_mul (de_ix odx_ix (de_var 0) de_int) (de_ix odx_ix (de_var 1) de_int)) (da_cons (de_bin od_mul (de_ix odx_ix (de_var 0) de_int) (de_ix odx_ix (de_var 1) de_int)) da_nil))))), v_p_times⟩
set_option maxHeartbeats 4000000 in
theorem ok_law_body {f : Addr} {fd : FuncData} (F : Fun K "_law_body" "_law_body" s_law_body f fd) (k_law_next : CalD P w K mg base 33 "_law_next" m_p_next) (k_law_row : CalD P w K mg base 35 "_law_row" m_p_row) (k_law_plus : CalD P w K mg base 34 "_law_plus" m_p_plus) (k_law_times : CalD P w K mg base 34 "_law_times" m_p_times) (z_range : mg "range" = none) (z_len : mg "len" = none) (z_tuple : mg "tuple" = none) (z_zip : mg "zip" = none) : FnOk P w K mg base CX0 36 f fd ["pile", "many", "size", "great"] (spD K m_p_body) :=
  okD F sc_law_body l_p_body fun cdv A outer s H E hr => ⟨w_p_body m_p_next m_p_row m_p_plus m_p_times,
  (dss_cons (ds_set 4 sc_law_body.nd (Or.inl rfl) (de_lstM da_nil))
  (dss_cons (ds_for (vs := [5]) PassesOwn.never rfl (di_rng1 (by rfl) z_range (de_var 1)) (dg_name 5 sc_law_body.nd (Or.inl rfl)) (dss_cons (ds_set 6 sc_law_body.nd (Or.inl rfl) (de_call (k_law_next.up (by decide)) hr (by rfl) (da_cons (de_var 0) (da_cons de_int da_nil))))
  (dss_cons (ds_set 7 sc_law_body.nd (Or.inl rfl) (de_call (k_law_row.up (by decide)) hr (by rfl) (da_cons (de_var 0) (da_cons (de_var 2) (da_cons (de_var 3) da_nil)))))
  (dss_cons (ds_if (dt_w (dw_and (dt_cmp (od_eq hr.units) (de_var 6) de_int) (dw_and1 (dt_cmp (od_ne hr.units) (de_var 4) (de_lst da_nil))))) (dss_one (ds_set 7 sc_law_body.nd (Or.inl rfl) (de_ix odx_ix (de_var 4) (de_call (k_law_next.up (by decide)) hr (by rfl) (da_cons (de_var 0) (da_cons (de_callB cd_len (by rfl) z_len bt_len (da_cons (de_var 4) da_nil)) da_nil)))))) dss_nil)
  (dss_cons (ds_if (dt_w (dw_and (dt_cmp (od_eq hr.units) (de_var 6) de_int) (dw_and (dt_cmp od_gt (de_callB cd_len (by rfl) z_len bt_len (da_cons (de_var 4) da_nil)) de_int) (dw_and1 (dt_not (dt_val (de_var 3))))))) (dss_one (ds_set 7 sc_law_body.nd (Or.inl rfl) (de_callTy cd_tuple (by rfl) z_tuple bt_tuple (da_cons (de_lc (own := [("a", 8), ("b", 9)]) rfl sc_law_body.nd (di_zip (by rfl) z_zip (da_cons (de_ix odx_ix (de_var 4) de_int) (da_cons (de_ix odx_ix (de_var 4) (de_neg de_int)) da_nil))) (blkOk_by (N := n_law_body) (sc := (defScope s_law_body)) (by decide +kernel)) (fun _ _ _ _ _ => (dg_tup rfl (dgs_cons (dg_name 8 sc_law_body.nd (Or.inl rfl)) (dgs_cons (dg_name 9 sc_law_body.nd (Or.inl rfl)) dgs_nil)))) (fun _ _ _ _ _ => dts_nil) (fun _ _ _ _ _ => (de_call (k_law_times.up (by decide)) hr (by rfl) (da_cons (de_tup (da_cons de_int (da_cons de_int da_nil))) (da_cons (de_call (k_law_plus.up (by decide)) hr (by rfl) (da_cons (de_var 8) (da_cons (de_var 9) da_nil))) da_nil))))) da_nil)))) dss_nil)
  (dss_one (ds_expr (de_append (de_var 4) (de_var 7)))))))))
  (dss_one (ds_ret (de_fz (de_callTy cd_tuple (by rfl) z_tuple bt_tuple (da_cons (de_var 4) da_nil))))))), v_p_body⟩
set_option maxHeartbeats 4000000 in
theorem ok_law_weights {f : Addr} {fd : FuncData} (F : Fun K "_law_weights" "_law_weights" s_law_weights f fd) (k_law_next : CalD P w K mg base 33 "_law_next" m_p_next) (k_law_fraction : CalD P w K mg base 33 "_law_fraction" m_p_fraction) (z_range : mg "range" = none) (z_tuple : mg "tuple" = none) (z_sum : mg "sum" = none) : FnOk P w K mg base CX0 34 f fd ["pile", "many"] (spD K m_p_weights) :=
  okD F sc_law_weights l_p_weights fun cdv A outer s H E hr => ⟨w_p_weights m_p_next m_p_fraction,
  (dss_cons (ds_set 2 sc_law_weights.nd (Or.inr rfl) (de_lcM (own := [("k", 3)]) rfl sc_law_weights.nd (di_rng1 (by rfl) z_range (de_var 1)) (blkOk_by (N := n_law_weights) (sc := (defScope s_law_weights)) (by decide +kernel)) (fun _ _ _ _ _ => (dg_name 3 sc_law_weights.nd (Or.inl rfl))) (fun _ _ _ _ _ => dts_nil) (fun _ _ _ _ _ => (de_call (k_law_next.up (by decide)) hr (by rfl) (da_cons (de_var 0) (da_cons de_int da_nil))))))
  (dss_cons (ds_asg (vs := []) (de_bin od_add de_int (de_call (k_law_next.up (by decide)) hr (by rfl) (da_cons (de_var 0) (da_cons de_int da_nil)))) (dg_sub (de_var 2) (de_call (k_law_next.up (by decide)) hr (by rfl) (da_cons (de_var 0) (da_cons (de_var 1) da_nil))) od_set))
  (dss_one (ds_ret (de_fz (de_callTy cd_tuple (by rfl) z_tuple bt_tuple (da_cons (de_lc (own := [("one", 4)]) rfl sc_law_weights.nd (di_seq (de_var 2)) (blkOk_by (N := n_law_weights) (sc := (defScope s_law_weights)) (by decide +kernel)) (fun _ _ _ _ _ => (dg_name 4 sc_law_weights.nd (Or.inl rfl))) (fun _ _ _ _ _ => dts_nil) (fun _ _ _ _ _ => (de_call (k_law_fraction.up (by decide)) hr (by rfl) (da_cons (de_var 4) (da_cons (de_callB (cd_sum rfl) (by rfl) z_sum bt_sum (da_cons (de_var 2) da_nil)) da_nil))))) da_nil))))))), v_p_weights⟩
set_option maxHeartbeats 4000000 in
theorem ok_law_product {f : Addr} {fd : FuncData} (F : Fun K "_law_product" "_law_product" s_law_product f fd) (k_law_times : CalD P w K mg base 34 "_law_times" m_p_times) (k_law_plus : CalD P w K mg base 34 "_law_plus" m_p_plus) (z_zip : mg "zip" = none) : FnOk P w K mg base CX0 35 f fd ["row", "other"] (spD K m_p_product) :=
  okD F sc_law_product l_p_product fun cdv A outer s H E hr => ⟨w_p_product m_p_times m_p_plus,
  (dss_cons (ds_set 2 sc_law_product.nd (Or.inl rfl) (de_tup (da_cons de_int (da_cons de_int da_nil))))
  (dss_cons (ds_for (vs := [3, 4]) PassesOwn.never rfl (di_zip (by rfl) z_zip (da_cons (de_var 0) (da_cons (de_var 1) da_nil))) (dg_tup rfl (dgs_cons (dg_name 3 sc_law_product.nd (Or.inl rfl)) (dgs_cons (dg_name 4 sc_law_product.nd (Or.inl rfl)) dgs_nil))) (dss_one (ds_set 2 sc_law_product.nd (Or.inl rfl) (de_call (k_law_plus.up (by decide)) hr (by rfl) (da_cons (de_var 2) (da_cons (de_call (k_law_times.up (by decide)) hr (by rfl) (da_cons (de_var 3) (da_cons (de_var 4) da_nil))) da_nil))))))
  (dss_one (ds_ret (de_var 2))))), v_p_product⟩
set_option maxHeartbeats 4000000 in
theorem ok_law_sum {f : Addr} {fd : FuncData} (F : Fun K "_law_sum" "_law_sum" s_law_sum f fd) (k_law_product : CalD P w K mg base 35 "_law_product" m_p_product) (z_tuple : mg "tuple" = none) (z_range : mg "range" = none) (z_len : mg "len" = none) : FnOk P w K mg base CX0 36 f fd ["points", "weights"] (spD K m_p_sum) :=
  okD F sc_law_sum l_p_sum fun cdv A outer s H E hr => ⟨w_p_sum m_p_product,
  (dss_one (ds_ret (de_callTy cd_tuple (by rfl) z_tuple bt_tuple (da_cons (de_lc (own := [("k", 2)]) rfl sc_law_sum.nd (di_rng1 (by rfl) z_range (de_callB cd_len (by rfl) z_len bt_len (da_cons (de_ix odx_ix (de_var 0) de_int) da_nil))) (blkOk_by (N := n_law_sum) (sc := (defScope s_law_sum)) (by decide +kernel)) (fun _ _ _ _ _ => (dg_name 2 sc_law_sum.nd (Or.inr rfl))) (fun _ _ _ _ _ => dts_nil) (fun _ _ _ _ _ => (de_call (k_law_product.up (by decide)) hr (by rfl) (da_cons (de_lc (own := [("point", 3)]) rfl sc_law_sum.nd (di_seq (de_var 0)) (blkOk_by (N := n_law_sum) (sc := (relS _ (defScope s_law_sum))) (by decide +kernel)) (fun _ _ _ _ _ => (dg_name 3 sc_law_sum.nd (Or.inl rfl))) (fun _ _ _ _ _ => dts_nil) (fun _ _ _ _ _ => (de_ix odx_ix (de_var 3) (de_var 2)))) (da_cons (de_var 1) da_nil))))) da_nil)))), v_p_sum⟩
set_option maxHeartbeats 4000000 in
theorem ok_law_less {f : Addr} {fd : FuncData} (F : Fun K "_law_less" "_law_less" s_law_less f fd) (k_law_fraction : CalD P w K mg base 33 "_law_fraction" m_p_fraction) : FnOk P w K mg base CX0 34 f fd ["one", "other"] (spD K m_p_less) :=
  okD F sc_law_less l_p_less fun cdv A outer s H E hr => ⟨w_p_less m_p_fraction,
  (dss_one (ds_ret (de_call (k_law_fraction.up (by decide)) hr (by rfl) (da_cons (de_bin od_sub (de_bin od_mul (de_ix odx_ix (de_var 0) de_int) (de_ix odx_ix (de_var 1) de_int)) (de_bin od_mul (de_ix odx_ix (de_var 1) de_int) (de_ix odx_ix (de_var 0) de_int))) (da_cons (de_bin od_mul (de_ix odx_ix (de_var 0) de_int) (de_ix odx_ix (de_var 1) de_int)) da_nil))))), v_p_less⟩
set_option maxHeartbeats 4000000 in
theorem ok_law_met_bodies {f : Addr} {fd : FuncData} (F : Fun K "_law_met_bodies" "_law_met_bodies" s_law_met_bodies f fd) (k_law_next : CalD P w K mg base 33 "_law_next" m_p_next) (k_law_body : CalD P w K mg base 36 "_law_body" m_p_body) (k_law_weights : CalD P w K mg base 34 "_law_weights" m_p_weights) (k_law_sum : CalD P w K mg base 36 "_law_sum" m_p_sum) (k_law_plus : CalD P w K mg base 34 "_law_plus" m_p_plus) (k_law_less : CalD P w K mg base 34 "_law_less" m_p_less) (k_law_times : CalD P w K mg base 34 "_law_times" m_p_times) (z_len : mg "len" = none) (z_list : mg "list" = none) (z_tuple : mg "tuple" = none) (z_zip : mg "zip" = none) : FnOk P w K mg base CX0 37 f fd ["pile", "size", "most"] (spD K m_p_met) :=
  okD F sc_law_met_bodies l_p_met fun cdv A outer s H E hr => ⟨w_p_met m_p_next m_p_body m_p_weights m_p_sum m_p_plus m_p_less m_p_times,
  (dss_cons (ds_set 3 sc_law_met_bodies.nd (Or.inl rfl) (de_call (k_law_body.up (by decide)) hr (by rfl) (da_cons (de_var 0) (da_cons (de_bin od_add de_int (de_call (k_law_next.up (by decide)) hr (by rfl) (da_cons (de_var 0) (da_cons (de_var 2) da_nil)))) (da_cons (de_var 1) (da_cons de_bl da_nil))))))
  (dss_cons (ds_set 4 sc_law_met_bodies.nd (Or.inl rfl) (de_call (k_law_weights.up (by decide)) hr (by rfl) (da_cons (de_var 0) (da_cons (de_callB cd_len (by rfl) z_len bt_len (da_cons (de_var 3) da_nil)) da_nil))))
  (dss_cons (ds_set 5 sc_law_met_bodies.nd (Or.inl rfl) (de_call (k_law_sum.up (by decide)) hr (by rfl) (da_cons (de_var 3) (da_cons (de_var 4) da_nil))))
  (dss_cons (ds_set 6 sc_law_met_bodies.nd (Or.inl rfl) (de_callTy cd_listM (by rfl) z_list bt_list (da_cons (de_call (k_law_body.up (by decide)) hr (by rfl) (da_cons (de_var 0) (da_cons (de_bin od_add de_int (de_call (k_law_next.up (by decide)) hr (by rfl) (da_cons (de_var 0) (da_cons (de_bin od_sub (de_var 2) de_int) da_nil)))) (da_cons (de_var 1) (da_cons de_bl da_nil))))) da_nil)))
  (dss_cons (ds_set 7 sc_law_met_bodies.nd (Or.inl rfl) (de_call (k_law_weights.up (by decide)) hr (by rfl) (da_cons (de_var 0) (da_cons (de_callB cd_len (by rfl) z_len bt_len (da_cons (de_var 6) da_nil)) da_nil))))
  (dss_cons (ds_set 8 sc_law_met_bodies.nd (Or.inl rfl) (de_call (k_law_sum.up (by decide)) hr (by rfl) (da_cons (de_var 6) (da_cons (de_var 7) da_nil))))
  (dss_cons (ds_expr (de_append (de_var 6) (de_callTy cd_tuple (by rfl) z_tuple bt_tuple (da_cons (de_lc (own := [("a", 11), ("b", 12)]) rfl sc_law_met_bodies.nd (di_zip (by rfl) z_zip (da_cons (de_var 5) (da_cons (de_var 8) da_nil))) (blkOk_by (N := n_law_met_bodies) (sc := (defScope s_law_met_bodies)) (by decide +kernel)) (fun _ _ _ _ _ => (dg_tup rfl (dgs_cons (dg_name 11 sc_law_met_bodies.nd (Or.inl rfl)) (dgs_cons (dg_name 12 sc_law_met_bodies.nd (Or.inl rfl)) dgs_nil)))) (fun _ _ _ _ _ => dts_nil) (fun _ _ _ _ _ => (de_call (k_law_less.up (by decide)) hr (by rfl) (da_cons (de_call (k_law_plus.up (by decide)) hr (by rfl) (da_cons (de_var 11) (da_cons (de_var 11) da_nil))) (da_cons (de_var 12) da_nil))))) da_nil))))
  (dss_cons (ds_set 9 sc_law_met_bodies.nd (Or.inl rfl) (de_bin od_add (de_callTy cd_tuple (by rfl) z_tuple bt_tuple (da_cons (de_lc (own := [("weight", 13)]) rfl sc_law_met_bodies.nd (di_seq (de_var 7)) (blkOk_by (N := n_law_met_bodies) (sc := (defScope s_law_met_bodies)) (by decide +kernel)) (fun _ _ _ _ _ => (dg_name 13 sc_law_met_bodies.nd (Or.inl rfl))) (fun _ _ _ _ _ => dts_nil) (fun _ _ _ _ _ => (de_call (k_law_times.up (by decide)) hr (by rfl) (da_cons (de_tup (da_cons de_int (da_cons de_int da_nil))) (da_cons (de_var 13) da_nil))))) da_nil)) (de_tup (da_cons (de_tup (da_cons de_int (da_cons de_int da_nil))) da_nil))))
  (dss_cons (ds_set 10 sc_law_met_bodies.nd (Or.inl rfl) (de_call (k_law_next.up (by decide)) hr (by rfl) (da_cons (de_var 0) (da_cons (de_callB cd_len (by rfl) z_len bt_len (da_cons (de_var 6) da_nil)) da_nil))))
  (dss_one (ds_ret (de_fz (de_tup (da_cons (de_var 3) (da_cons (de_callTy cd_tuple (by rfl) z_tuple bt_tuple (da_cons (de_bin od_add (de_slice (de_var 6) (do_some (de_var 10)) do_none) (de_slice (de_var 6) do_none (do_some (de_var 10)))) da_nil)) (da_cons (de_tup (da_cons de_str (da_cons (de_var 4) (da_cons (de_bin od_add (de_slice (de_var 9) (do_some (de_var 10)) do_none) (de_slice (de_var 9) do_none (do_some (de_var 10)))) da_nil)))) da_nil)))))))))))))))), v_p_met⟩
set_option maxHeartbeats 4000000 in
theorem ok_law_gap {f : Addr} {fd : FuncData} (F : Fun K "_law_gap" "_law_gap" s_law_gap f fd) (k_law_next : CalD P w K mg base 33 "_law_next" m_p_next) (k_law_fraction : CalD P w K mg base 33 "_law_fraction" m_p_fraction) : FnOk P w K mg base CX0 34 f fd ["pile"] (spD K m_p_gap) :=
  okD F sc_law_gap l_p_gap fun cdv A outer s H E hr => ⟨w_p_gap m_p_next m_p_fraction,
  (dss_one (ds_ret (de_call (k_law_fraction.up (by decide)) hr (by rfl) (da_cons (de_bin od_add de_int (de_call (k_law_next.up (by decide)) hr (by rfl) (da_cons (de_var 0) (da_cons de_int da_nil)))) (da_cons (de_bin od_add de_int (de_call (k_law_next.up (by decide)) hr (by rfl) (da_cons (de_var 0) (da_cons de_int da_nil)))) da_nil))))), v_p_gap⟩
set_option maxHeartbeats 4000000 in
theorem ok_law_met_bent {f : Addr} {fd : FuncData} (F : Fun K "_law_met_bent" "_law_met_bent" s_law_met_bent f fd) (k_law_next : CalD P w K mg base 33 "_law_next" m_p_next) (k_law_gap : CalD P w K mg base 34 "_law_gap" m_p_gap) (k_law_plus : CalD P w K mg base 34 "_law_plus" m_p_plus) (k_law_less : CalD P w K mg base 34 "_law_less" m_p_less) (k_law_weights : CalD P w K mg base 34 "_law_weights" m_p_weights) (z_list : mg "list" = none) (z_len : mg "len" = none) (z_tuple : mg "tuple" = none) : FnOk P w K mg base CX0 35 f fd ["pile", "way", "told"] (spD K m_p_met_bent) :=
  okD F sc_law_met_bent l_p_met_bent fun cdv A outer s H E hr => ⟨w_p_met_bent m_p_next m_p_gap m_p_plus m_p_less m_p_weights,
  (dss_cons (ds_set 3 sc_law_met_bent.nd (Or.inl rfl) (de_lstM (da_cons (de_callTy cd_listM (by rfl) z_list bt_list (da_cons (de_ix odx_ix (de_var 2) de_int) da_nil)) (da_cons (de_callTy cd_listM (by rfl) z_list bt_list (da_cons (de_ix odx_ix (de_var 2) de_int) da_nil)) da_nil))))
  (dss_cons (ds_set 4 sc_law_met_bent.nd (Or.inl rfl) (de_ix odx_ix (de_var 3) (de_call (k_law_next.up (by decide)) hr (by rfl) (da_cons (de_var 0) (da_cons de_int da_nil)))))
  (dss_cons (ds_set 5 sc_law_met_bent.nd (Or.inl rfl) (de_call (k_law_next.up (by decide)) hr (by rfl) (da_cons (de_var 0) (da_cons (de_callB cd_len (by rfl) z_len bt_len (da_cons (de_var 4) da_nil)) da_nil))))
  (dss_cons (ds_set 6 sc_law_met_bent.nd (Or.inl rfl) (de_call (k_law_next.up (by decide)) hr (by rfl) (da_cons (de_var 0) (da_cons (de_callB cd_len (by rfl) z_len bt_len (da_cons (de_var 4) da_nil)) da_nil))))
  (dss_cons (ds_set 7 sc_law_met_bent.nd (Or.inl rfl) (de_call (k_law_gap.up (by decide)) hr (by rfl) (da_cons (de_var 0) da_nil)))
  (dss_cons (ds_if (dt_cmp (od_eq hr.units) (de_var 1) de_int) (dss_one (ds_asg (vs := []) (de_call (k_law_plus.up (by decide)) hr (by rfl) (da_cons (de_ix odx_ix (de_var 4) (de_var 5)) (da_cons (de_var 7) da_nil))) (dg_sub (de_var 4) (de_var 5) od_set))) dss_nil)
  (dss_cons (ds_if (dt_cmp (od_eq hr.units) (de_var 1) de_int) (dss_one (ds_asg (vs := []) (de_tup (da_cons (de_ix odx_ix (de_var 4) (de_var 6)) (da_cons (de_ix odx_ix (de_var 4) (de_var 5)) da_nil))) (dg_tup rfl (dgs_cons (dg_sub (de_var 4) (de_var 5) od_set) (dgs_cons (dg_sub (de_var 4) (de_var 6) od_set) dgs_nil))))) dss_nil)
  (dss_cons (ds_if (dt_cmp (od_eq hr.units) (de_var 1) de_int) (dss_cons (ds_asg (vs := []) (de_call (k_law_plus.up (by decide)) hr (by rfl) (da_cons (de_ix odx_ix (de_var 4) (de_var 5)) (da_cons (de_var 7) da_nil))) (dg_sub (de_var 4) (de_var 5) od_set))
  (dss_one (ds_asg (vs := []) (de_call (k_law_less.up (by decide)) hr (by rfl) (da_cons (de_ix odx_ix (de_var 4) (de_var 6)) (da_cons (de_var 7) da_nil))) (dg_sub (de_var 4) (de_var 6) od_set)))) dss_nil)
  (dss_cons (ds_if (dt_cmp (od_eq hr.units) (de_var 1) de_int) (dss_one (ds_asg (vs := []) (de_call (k_law_weights.up (by decide)) hr (by rfl) (da_cons (de_var 0) (da_cons (de_callB cd_len (by rfl) z_len bt_len (da_cons (de_ix odx_ix (de_var 3) de_int) da_nil)) da_nil))) (dg_sub (de_var 3) de_int od_set))) dss_nil)
  (dss_one (ds_ret (de_fz (de_tup (da_cons de_str (da_cons (de_callTy cd_tuple (by rfl) z_tuple bt_tuple (da_cons (de_ix odx_ix (de_var 3) de_int) da_nil)) (da_cons (de_callTy cd_tuple (by rfl) z_tuple bt_tuple (da_cons (de_ix odx_ix (de_var 3) de_int) da_nil)) da_nil)))))))))))))))), v_p_met_bent⟩
set_option maxHeartbeats 4000000 in
theorem ok_law_parted_bodies {f : Addr} {fd : FuncData} (F : Fun K "_law_parted_bodies" "_law_parted_bodies" s_law_parted_bodies f fd) (k_law_next : CalD P w K mg base 33 "_law_next" m_p_next) (k_law_body : CalD P w K mg base 36 "_law_body" m_p_body) (k_law_product : CalD P w K mg base 35 "_law_product" m_p_product) (k_law_less : CalD P w K mg base 34 "_law_less" m_p_less) (k_law_gap : CalD P w K mg base 34 "_law_gap" m_p_gap) (k_law_plus : CalD P w K mg base 34 "_law_plus" m_p_plus) (k_law_fraction : CalD P w K mg base 33 "_law_fraction" m_p_fraction) (z_range : mg "range" = none) (z_tuple : mg "tuple" = none) : FnOk P w K mg base CX0 37 f fd ["pile", "size", "most"] (spD K m_p_parted) :=
  okD F sc_law_parted_bodies l_p_parted fun cdv A outer s H E hr => ⟨w_p_parted m_p_next m_p_body m_p_product m_p_less m_p_gap m_p_plus m_p_fraction,
  (dss_cons (ds_set 3 sc_law_parted_bodies.nd (Or.inl rfl) (de_call (k_law_body.up (by decide)) hr (by rfl) (da_cons (de_var 0) (da_cons (de_bin od_add de_int (de_call (k_law_next.up (by decide)) hr (by rfl) (da_cons (de_var 0) (da_cons (de_var 2) da_nil)))) (da_cons (de_var 1) (da_cons de_bl da_nil))))))
  (dss_cons (ds_setLcM (own := [("k", 13)]) 4 rfl sc_law_parted_bodies.nd rfl (sw_true rfl rfl rfl (by decide +kernel)) (di_rng1 (by rfl) z_range (de_var 1)) (blkOk_by (N := n_law_parted_bodies) (sc := (defScope s_law_parted_bodies)) (by decide +kernel)) (fun _ _ _ _ _ => (dg_name 13 sc_law_parted_bodies.nd (Or.inl rfl))) (fun _ _ _ _ _ => dts_nil) (fun _ _ _ _ _ => (de_tup (da_cons (de_bin od_sub (de_call (k_law_next.up (by decide)) hr (by rfl) (da_cons (de_var 0) (da_cons de_int da_nil))) de_int) (da_cons de_int da_nil)))))
  (dss_cons (ds_set 5 sc_law_parted_bodies.nd (Or.inl rfl) (de_call (k_law_next.up (by decide)) hr (by rfl) (da_cons (de_var 0) (da_cons (de_var 1) da_nil))))
  (dss_cons (ds_asg (vs := []) (de_tup (da_cons (de_bin od_add de_int (de_call (k_law_next.up (by decide)) hr (by rfl) (da_cons (de_var 0) (da_cons de_int da_nil)))) (da_cons de_int da_nil))) (dg_sub (de_var 4) (de_var 5) od_set))
  (dss_cons (ds_set 6 sc_law_parted_bodies.nd (Or.inl rfl) (de_call (k_law_product.up (by decide)) hr (by rfl) (da_cons (de_var 4) (da_cons (de_ix odx_ix (de_var 3) de_int) da_nil))))
  (dss_cons (ds_for (vs := [7]) PassesOwn.never rfl (di_seq (de_var 3)) (dg_name 7 sc_law_parted_bodies.nd (Or.inl rfl)) (dss_cons (ds_set 8 sc_law_parted_bodies.nd (Or.inl rfl) (de_call (k_law_product.up (by decide)) hr (by rfl) (da_cons (de_var 4) (da_cons (de_var 7) da_nil))))
  (dss_one (ds_if (dt_cmp od_gt (de_ix odx_ix (de_call (k_law_less.up (by decide)) hr (by rfl) (da_cons (de_var 8) (da_cons (de_var 6) da_nil))) de_int) de_int) (dss_one (ds_set 6 sc_law_parted_bodies.nd (Or.inl rfl) (de_var 8))) dss_nil))))
  (dss_cons (ds_set 9 sc_law_parted_bodies.nd (Or.inl rfl) (de_call (k_law_plus.up (by decide)) hr (by rfl) (da_cons (de_var 6) (da_cons (de_call (k_law_gap.up (by decide)) hr (by rfl) (da_cons (de_var 0) da_nil)) da_nil))))
  (dss_cons (ds_set 10 sc_law_parted_bodies.nd (Or.inl rfl) (de_lstM da_nil))
  (dss_cons (ds_for (vs := [7]) PassesOwn.never rfl (di_seq (de_call (k_law_body.up (by decide)) hr (by rfl) (da_cons (de_var 0) (da_cons (de_bin od_add de_int (de_call (k_law_next.up (by decide)) hr (by rfl) (da_cons (de_var 0) (da_cons (de_var 2) da_nil)))) (da_cons (de_var 1) (da_cons de_bl da_nil)))))) (dg_name 7 sc_law_parted_bodies.nd (Or.inl rfl)) (dss_cons (ds_set 11 sc_law_parted_bodies.nd (Or.inl rfl) (de_call (k_law_less.up (by decide)) hr (by rfl) (da_cons (de_call (k_law_plus.up (by decide)) hr (by rfl) (da_cons (de_var 9) (da_cons (de_call (k_law_gap.up (by decide)) hr (by rfl) (da_cons (de_var 0) da_nil)) da_nil))) (da_cons (de_call (k_law_product.up (by decide)) hr (by rfl) (da_cons (de_var 4) (da_cons (de_var 7) da_nil))) da_nil))))
  (dss_cons (ds_if (dt_cmp od_gt (de_ix odx_ix (de_var 11) de_int) de_int) (dss_cons (ds_set 12 sc_law_parted_bodies.nd (Or.inl rfl) (de_call (k_law_fraction.up (by decide)) hr (by rfl) (da_cons (de_bin od_mul (de_ix odx_ix (de_var 11) de_int) (de_ix odx_ix (de_ix odx_ix (de_var 4) (de_var 5)) de_int)) (da_cons (de_bin od_mul (de_ix odx_ix (de_var 11) de_int) (de_ix odx_ix (de_ix odx_ix (de_var 4) (de_var 5)) de_int)) da_nil))))
  (dss_one (ds_set 7 sc_law_parted_bodies.nd (Or.inl rfl) (de_bin od_add (de_bin od_add (de_slice (de_var 7) do_none (do_some (de_var 5))) (de_tup (da_cons (de_call (k_law_plus.up (by decide)) hr (by rfl) (da_cons (de_ix odx_ix (de_var 7) (de_var 5)) (da_cons (de_var 12) da_nil))) da_nil))) (de_slice (de_var 7) (do_some (de_bin od_add (de_var 5) de_int)) do_none))))) dss_nil)
  (dss_one (ds_expr (de_append (de_var 10) (de_var 7)))))))
  (dss_one (ds_ret (de_fz (de_tup (da_cons (de_var 3) (da_cons (de_callTy cd_tuple (by rfl) z_tuple bt_tuple (da_cons (de_var 10) da_nil)) (da_cons (de_tup (da_cons de_str (da_cons (de_callTy cd_tuple (by rfl) z_tuple bt_tuple (da_cons (de_var 4) da_nil)) (da_cons (de_var 9) da_nil)))) da_nil)))))))))))))))), v_p_parted⟩
set_option maxHeartbeats 4000000 in
theorem ok_law_parted_bent {f : Addr} {fd : FuncData} (F : Fun K "_law_parted_bent" "_law_parted_bent" s_law_parted_bent f fd) (k_law_next : CalD P w K mg base 33 "_law_next" m_p_next) (k_law_gap : CalD P w K mg base 34 "_law_gap" m_p_gap) (k_law_less : CalD P w K mg base 34 "_law_less" m_p_less) (k_law_plus : CalD P w K mg base 34 "_law_plus" m_p_plus) (k_law_product : CalD P w K mg base 35 "_law_product" m_p_product) (z_len : mg "len" = none) (z_tuple : mg "tuple" = none) : FnOk P w K mg base CX0 36 f fd ["pile", "way", "one", "other", "told"] (spD K m_p_parted_bent) :=
  okD F sc_law_parted_bent l_p_parted_bent fun cdv A outer s H E hr => ⟨w_p_parted_bent m_p_next m_p_gap m_p_less m_p_plus m_p_product,
  (dss_cons (ds_set 5 sc_law_parted_bent.nd (Or.inl rfl) (de_ix odx_ix (de_var 4) de_int))
  (dss_cons (ds_set 6 sc_law_parted_bent.nd (Or.inl rfl) (de_ix odx_ix (de_var 4) de_int))
  (dss_cons (ds_set 7 sc_law_parted_bent.nd (Or.inl rfl) (de_call (k_law_next.up (by decide)) hr (by rfl) (da_cons (de_var 0) (da_cons (de_callB cd_len (by rfl) z_len bt_len (da_cons (de_var 5) da_nil)) da_nil))))
  (dss_cons (ds_set 8 sc_law_parted_bent.nd (Or.inl rfl) (de_call (k_law_gap.up (by decide)) hr (by rfl) (da_cons (de_var 0) da_nil)))
  (dss_cons (ds_if (dt_cmp (od_eq hr.units) (de_var 1) de_int) (dss_one (ds_set 5 sc_law_parted_bent.nd (Or.inl rfl) (de_bin od_add (de_bin od_add (de_slice (de_var 5) do_none (do_some (de_var 7))) (de_tup (da_cons (de_call (k_law_less.up (by decide)) hr (by rfl) (da_cons (de_ix odx_ix (de_var 5) (de_var 7)) (da_cons (de_var 8) da_nil))) da_nil))) (de_slice (de_var 5) (do_some (de_bin od_add (de_var 7) de_int)) do_none)))) dss_nil)
  (dss_cons (ds_if (dt_cmp (od_eq hr.units) (de_var 1) de_int) (dss_one (ds_set 6 sc_law_parted_bent.nd (Or.inl rfl) (de_call (k_law_plus.up (by decide)) hr (by rfl) (da_cons (de_var 6) (da_cons (de_var 8) da_nil))))) dss_nil)
  (dss_cons (ds_if (dt_cmp (od_eq hr.units) (de_var 1) de_int) (dss_one (ds_set 6 sc_law_parted_bent.nd (Or.inl rfl) (de_call (k_law_less.up (by decide)) hr (by rfl) (da_cons (de_var 6) (da_cons (de_var 8) da_nil))))) dss_nil)
  (dss_cons (ds_if (dt_cmp (od_eq hr.units) (de_var 1) de_int) (dss_one (ds_set 6 sc_law_parted_bent.nd (Or.inl rfl) (de_call (k_law_product.up (by decide)) hr (by rfl) (da_cons (de_var 5) (da_cons (de_ix odx_ix (de_var 2) (de_call (k_law_next.up (by decide)) hr (by rfl) (da_cons (de_var 0) (da_cons (de_callB cd_len (by rfl) z_len bt_len (da_cons (de_var 2) da_nil)) da_nil)))) da_nil))))) dss_nil)
  (dss_cons (ds_if (dt_cmp (od_eq hr.units) (de_var 1) de_int) (dss_one (ds_set 6 sc_law_parted_bent.nd (Or.inl rfl) (de_call (k_law_product.up (by decide)) hr (by rfl) (da_cons (de_var 5) (da_cons (de_ix odx_ix (de_var 3) (de_call (k_law_next.up (by decide)) hr (by rfl) (da_cons (de_var 0) (da_cons (de_callB cd_len (by rfl) z_len bt_len (da_cons (de_var 3) da_nil)) da_nil)))) da_nil))))) dss_nil)
  (dss_cons (ds_if (dt_cmp (od_eq hr.units) (de_var 1) de_int) (dss_cons (ds_set 5 sc_law_parted_bent.nd (Or.inl rfl) (de_callTy cd_tuple (by rfl) z_tuple bt_tuple (da_cons (de_lc (own := [("part", 9)]) rfl sc_law_parted_bent.nd (di_seq (de_var 5)) (blkOk_by (N := n_law_parted_bent) (sc := (defScope s_law_parted_bent)) (by decide +kernel)) (fun _ _ _ _ _ => (dg_name 9 sc_law_parted_bent.nd (Or.inl rfl))) (fun _ _ _ _ _ => dts_nil) (fun _ _ _ _ _ => (de_tup (da_cons (de_bin od_sub de_int (de_ix odx_ix (de_var 9) de_int)) (da_cons (de_ix odx_ix (de_var 9) de_int) da_nil))))) da_nil)))
  (dss_one (ds_set 6 sc_law_parted_bent.nd (Or.inl rfl) (de_tup (da_cons (de_bin od_sub de_int (de_ix odx_ix (de_var 6) de_int)) (da_cons (de_ix odx_ix (de_var 6) de_int) da_nil)))))) dss_nil)
  (dss_one (ds_ret (de_tup (da_cons de_str (da_cons (de_var 5) (da_cons (de_var 6) da_nil)))))))))))))))), v_p_parted_bent⟩
set_option maxHeartbeats 4000000 in
theorem ok_law_are_weights {f : Addr} {fd : FuncData} (F : Fun K "_law_are_weights" "_law_are_weights" s_law_are_weights f fd) (k_law_plus : CalD P w K mg base 34 "_law_plus" m_p_plus) : FnOk P w K mg base CX0 35 f fd ["weights"] (spD K m_p_are_weights) :=
  okD F sc_law_are_weights l_p_are_weights fun cdv A outer s H E hr => ⟨w_p_are_weights m_p_plus,
  (dss_cons (ds_set 1 sc_law_are_weights.nd (Or.inl rfl) (de_tup (da_cons de_int (da_cons de_int da_nil))))
  (dss_cons (ds_for (vs := [2]) PassesOwn.never rfl (di_seq (de_var 0)) (dg_name 2 sc_law_are_weights.nd (Or.inl rfl)) (dss_cons (ds_if (dt_cmp od_lt (de_ix odx_ix (de_var 2) de_int) de_int) (dss_one (ds_ret de_bl)) dss_nil)
  (dss_one (ds_set 1 sc_law_are_weights.nd (Or.inl rfl) (de_call (k_law_plus.up (by decide)) hr (by rfl) (da_cons (de_var 1) (da_cons (de_var 2) da_nil)))))))
  (dss_one (ds_ret (de_cmp (od_eq hr.units) (de_var 1) (de_tup (da_cons de_int (da_cons de_int da_nil)))))))), v_p_are_weights⟩
set_option maxHeartbeats 4000000 in
theorem ok_law_two_hold {f : Addr} {fd : FuncData} (F : Fun K "_law_two_hold" "_law_two_hold" s_law_two_hold f fd) (k_law_are_weights : CalD P w K mg base 35 "_law_are_weights" m_p_are_weights) (k_law_sum : CalD P w K mg base 36 "_law_sum" m_p_sum) (k_law_product : CalD P w K mg base 35 "_law_product" m_p_product) (k_law_less : CalD P w K mg base 34 "_law_less" m_p_less) : FnOk P w K mg base CX0 37 f fd ["one", "other", "told"] (spD K m_p_two_hold) :=
  okD F sc_law_two_hold l_p_two_hold fun cdv A outer s H E hr => ⟨w_p_two_hold m_p_are_weights m_p_sum m_p_product m_p_less,
  (dss_cons (ds_asg (vs := [3, 4, 5]) (de_var 2) (dg_tup rfl (dgs_cons (dg_name 3 sc_law_two_hold.nd (Or.inl rfl)) (dgs_cons (dg_name 4 sc_law_two_hold.nd (Or.inl rfl)) (dgs_cons (dg_name 5 sc_law_two_hold.nd (Or.inl rfl)) dgs_nil)))))
  (dss_cons (ds_if (dt_cmp (od_eq hr.units) (de_var 3) de_str) (dss_cons (ds_if (dt_w (dw_or (dt_not (dt_val (de_call (k_law_are_weights.up (by decide)) hr (by rfl) (da_cons (de_var 4) da_nil)))) (dw_or1 (dt_not (dt_val (de_call (k_law_are_weights.up (by decide)) hr (by rfl) (da_cons (de_var 5) da_nil))))))) (dss_one (ds_ret de_bl)) dss_nil)
  (dss_one (ds_ret (de_cmp (od_eq hr.units) (de_call (k_law_sum.up (by decide)) hr (by rfl) (da_cons (de_var 0) (da_cons (de_var 4) da_nil))) (de_call (k_law_sum.up (by decide)) hr (by rfl) (da_cons (de_var 1) (da_cons (de_var 5) da_nil))))))) dss_nil)
  (dss_cons (ds_for (vs := [6]) PassesOwn.never rfl (di_seq (de_var 0)) (dg_name 6 sc_law_two_hold.nd (Or.inl rfl)) (dss_one (ds_if (dt_cmp od_le (de_ix odx_ix (de_call (k_law_less.up (by decide)) hr (by rfl) (da_cons (de_var 5) (da_cons (de_call (k_law_product.up (by decide)) hr (by rfl) (da_cons (de_var 4) (da_cons (de_var 6) da_nil))) da_nil))) de_int) de_int) (dss_one (ds_ret de_bl)) dss_nil)))
  (dss_cons (ds_for (vs := [6]) PassesOwn.never rfl (di_seq (de_var 1)) (dg_name 6 sc_law_two_hold.nd (Or.inl rfl)) (dss_one (ds_if (dt_cmp od_le (de_ix odx_ix (de_call (k_law_less.up (by decide)) hr (by rfl) (da_cons (de_call (k_law_product.up (by decide)) hr (by rfl) (da_cons (de_var 4) (da_cons (de_var 6) da_nil))) (da_cons (de_var 5) da_nil))) de_int) de_int) (dss_one (ds_ret de_bl)) dss_nil)))
  (dss_one (ds_ret de_bl)))))), v_p_two_hold⟩
set_option maxHeartbeats 4000000 in
theorem ok_divisor {f : Addr} {fd : FuncData} (F : Fun K "divisor" "divisor" s_divisor f fd) : FnOk P w K mg base CX0 1 f fd ["one", "other"] (spD K m_divisor) :=
  okD F sc_divisor l_divisor fun cdv A outer s H E hr => ⟨w_divisor,
  (dss_cons (ds_while PassesOwn.never (dt_cmp od_gt (de_var 1) de_int) (dss_one (ds_par 0 1 rfl sc_divisor.nd rfl rfl (da_cons (de_var 1) (da_cons (de_bin od_mod (de_var 0) (de_var 1)) da_nil)))))
  (dss_one (ds_ret (de_var 0)))), v_divisor⟩
set_option maxHeartbeats 4000000 in
theorem ok_fraction {f : Addr} {fd : FuncData} (F : Fun K "fraction" "fraction" s_fraction f fd) (k_divisor : CalD P w K mg base 1 "divisor" m_divisor) (z_abs : mg "abs" = none) (hN : base.NoSeer) (hT : P.given.tree = none) : FnOk P w K mg base CX0 33 f fd ["top", "below"] (spD K m_fraction) :=
  okD F sc_fraction l_fraction fun cdv A outer s H E hr => have hs := seerD hN hT hr (by decide) rfl rfl; ⟨w_fraction m_divisor,
  (dss_cons (ds_if (dt_cmp od_lt (de_var 1) de_int) (dss_one (ds_par 0 1 rfl sc_fraction.nd rfl rfl (da_cons (de_neg (de_var 0)) (da_cons (de_neg (de_var 1)) da_nil)))) dss_nil)
  (dss_cons (ds_set 2 sc_fraction.nd (Or.inl rfl) (de_call (k_divisor.up (by decide)) hr (by rfl) (da_cons (de_callB cd_abs (by rfl) z_abs bt_abs (da_cons (de_var 0) da_nil)) (da_cons (de_var 1) da_nil))))
  (dss_one (ds_ret (de_tup (da_cons (de_bin (od_fdiv hs) (de_var 0) (de_var 2)) (da_cons (de_bin (od_fdiv hs) (de_var 1) (de_var 2)) da_nil))))))), v_fraction⟩
set_option maxHeartbeats 4000000 in
theorem ok_product {f : Addr} {fd : FuncData} (F : Fun K "product" "product" s_product f fd) (k_fraction : CalD P w K mg base 33 "fraction" m_fraction) (z_zip : mg "zip" = none) : FnOk P w K mg base CX0 34 f fd ["row", "other"] (spD K m_product) :=
  okD F sc_product l_product fun cdv A outer s H E hr => ⟨w_product m_fraction,
  (dss_cons (ds_set 2 sc_product.nd (Or.inl rfl) de_int)
  (dss_cons (ds_set 3 sc_product.nd (Or.inl rfl) de_int)
  (dss_cons (ds_for (vs := [4, 5]) PassesOwn.never rfl (di_zip (by rfl) z_zip (da_cons (de_var 0) (da_cons (de_var 1) da_nil))) (dg_tup rfl (dgs_cons (dg_name 4 sc_product.nd (Or.inl rfl)) (dgs_cons (dg_name 5 sc_product.nd (Or.inl rfl)) dgs_nil))) (dss_cons (ds_set 6 sc_product.nd (Or.inl rfl) (de_bin od_mul (de_ix odx_ix (de_var 4) de_int) (de_ix odx_ix (de_var 5) de_int)))
  (dss_one (ds_if (dt_cmp (od_eq hr.units) (de_var 6) (de_var 3)) (dss_one (ds_aug 2 sc_product.nd (Or.inl rfl) (de_bin od_mul (de_ix odx_ix (de_var 4) de_int) (de_ix odx_ix (de_var 5) de_int)) od_iadd)) (dss_one (ds_if (dt_w (dw_and (dt_cmp (od_ne hr.units) (de_ix odx_ix (de_var 4) de_int) de_int) (dw_and1 (dt_cmp (od_ne hr.units) (de_ix odx_ix (de_var 5) de_int) de_int)))) (dss_cons (ds_set 2 sc_product.nd (Or.inl rfl) (de_bin od_add (de_bin od_mul (de_var 2) (de_var 6)) (de_bin od_mul (de_bin od_mul (de_ix odx_ix (de_var 4) de_int) (de_ix odx_ix (de_var 5) de_int)) (de_var 3))))
  (dss_one (ds_aug 3 sc_product.nd (Or.inl rfl) (de_var 6) od_imul))) dss_nil))))))
  (dss_one (ds_ret (de_call (k_fraction.up (by decide)) hr (by rfl) (da_cons (de_var 2) (da_cons (de_var 3) da_nil)))))))), v_product⟩
set_option maxHeartbeats 4000000 in
theorem ok_are_let {f : Addr} {fd : FuncData} (F : Fun K "are_let" "are_let" s_are_let f fd) (k_product : CalD P w K mg base 34 "product" m_product) (g_ONE : GlobD K mg "ONE" c_ONE) (z_len : mg "len" = none) (z_all : mg "all" = none) : FnOk P w K mg base CX0 35 f fd ["weights"] (spD K m_are_let) :=
  okD F sc_are_let l_are_let fun cdv A outer s H E hr => ⟨w_are_let m_product,
  (dss_cons (ds_set 1 sc_are_let.nd (Or.inl rfl) (de_call (k_product.up (by decide)) hr (by rfl) (da_cons (de_var 0) (da_cons (de_bin od_mul (de_tup (da_cons (de_glob (by rfl) g_ONE) da_nil)) (de_callB cd_len (by rfl) z_len bt_len (da_cons (de_var 0) da_nil))) da_nil))))
  (dss_one (ds_ret (de_and (de_cmp (od_eq hr.units) (de_var 1) (de_glob (by rfl) g_ONE)) (de_one (de_callB (cd_all rfl) (by rfl) z_all bt_all (da_cons (de_lc (own := [("weight", 2)]) rfl sc_are_let.nd (di_seq (de_var 0)) (blkOk_by (N := n_are_let) (sc := (defScope s_are_let)) (by decide +kernel)) (fun _ _ _ _ _ => (dg_name 2 sc_are_let.nd (Or.inl rfl))) (fun _ _ _ _ _ => dts_nil) (fun _ _ _ _ _ => (de_cmp od_ge (de_ix odx_ix (de_var 2) de_int) de_int))) da_nil))))))), v_are_let⟩
set_option maxHeartbeats 4000000 in
theorem ok_sum_of {f : Addr} {fd : FuncData} (F : Fun K "sum_of" "sum_of" s_sum_of f fd) (k_product : CalD P w K mg base 34 "product" m_product) (z_range : mg "range" = none) (z_len : mg "len" = none) (z_tuple : mg "tuple" = none) : FnOk P w K mg base CX0 35 f fd ["body", "weights"] (spD K m_sum_of) :=
  okD F sc_sum_of l_sum_of fun cdv A outer s H E hr => ⟨w_sum_of m_product,
  (dss_cons (ds_set 2 sc_sum_of.nd (Or.inl rfl) (de_lstM da_nil))
  (dss_cons (ds_for (vs := [3]) PassesOwn.never rfl (di_rng1 (by rfl) z_range (de_callB cd_len (by rfl) z_len bt_len (da_cons (de_ix odx_ix (de_var 0) de_int) da_nil))) (dg_name 3 sc_sum_of.nd (Or.inr rfl)) (dss_one (ds_expr (de_append (de_var 2) (de_call (k_product.up (by decide)) hr (by rfl) (da_cons (de_callTy cd_tuple (by rfl) z_tuple bt_tuple (da_cons (de_lc (own := [("point", 4)]) rfl sc_sum_of.nd (di_seq (de_var 0)) (blkOk_by (N := n_sum_of) (sc := (defScope s_sum_of)) (by decide +kernel)) (fun _ _ _ _ _ => (dg_name 4 sc_sum_of.nd (Or.inl rfl))) (fun _ _ _ _ _ => dts_nil) (fun _ _ _ _ _ => (de_ix odx_ix (de_var 4) (de_var 3)))) da_nil)) (da_cons (de_var 1) da_nil)))))))
  (dss_one (ds_ret (de_fz (de_callTy cd_tuple (by rfl) z_tuple bt_tuple (da_cons (de_var 2) da_nil))))))), v_sum_of⟩
set_option maxHeartbeats 4000000 in
theorem ok_compared {f : Addr} {fd : FuncData} (F : Fun K "compared" "compared" s_compared f fd) (z_int : mg "int" = none) : FnOk P w K mg base CX0 1 f fd ["one", "other"] (spD K m_compared) :=
  okD F sc_compared l_compared fun cdv A outer s H E hr => ⟨w_compared,
  (dss_cons (ds_set 2 sc_compared.nd (Or.inl rfl) (de_bin od_sub (de_bin od_mul (de_ix odx_ix (de_var 0) de_int) (de_ix odx_ix (de_var 1) de_int)) (de_bin od_mul (de_ix odx_ix (de_var 1) de_int) (de_ix odx_ix (de_var 0) de_int))))
  (dss_one (ds_ret (de_bin od_sub (de_callTy cd_int (by rfl) z_int bt_int (da_cons (de_cmp od_gt (de_var 2) de_int) da_nil)) (de_callTy cd_int (by rfl) z_int bt_int (da_cons (de_cmp od_lt (de_var 2) de_int) da_nil)))))), v_compared⟩
set_option maxHeartbeats 4000000 in
theorem ok_two_shown {f : Addr} {fd : FuncData} (F : Fun K "two_shown" "two_shown" s_two_shown f fd) (k_are_let : CalD P w K mg base 35 "are_let" m_are_let) (k_sum_of : CalD P w K mg base 35 "sum_of" m_sum_of) (k_product : CalD P w K mg base 34 "product" m_product) (k_compared : CalD P w K mg base 1 "compared" m_compared) : FnOk P w K mg base CX0 36 f fd ["one", "other", "told"] (spD K m_two_shown) :=
  okD F sc_two_shown l_two_shown fun cdv A outer s H E hr => ⟨w_two_shown m_are_let m_sum_of m_product m_compared,
  (dss_cons (ds_asg (vs := [3, 4, 5]) (de_var 2) (dg_tup rfl (dgs_cons (dg_name 3 sc_two_shown.nd (Or.inl rfl)) (dgs_cons (dg_name 4 sc_two_shown.nd (Or.inl rfl)) (dgs_cons (dg_name 5 sc_two_shown.nd (Or.inl rfl)) dgs_nil)))))
  (dss_cons (ds_if (dt_cmp (od_eq hr.units) (de_var 3) de_str) (dss_one (ds_ret (de_and (de_call (k_are_let.up (by decide)) hr (by rfl) (da_cons (de_var 4) da_nil)) (de_and (de_call (k_are_let.up (by decide)) hr (by rfl) (da_cons (de_var 5) da_nil)) (de_one (de_cmp (od_eq hr.units) (de_call (k_sum_of.up (by decide)) hr (by rfl) (da_cons (de_var 0) (da_cons (de_var 4) da_nil))) (de_call (k_sum_of.up (by decide)) hr (by rfl) (da_cons (de_var 1) (da_cons (de_var 5) da_nil))))))))) dss_nil)
  (dss_cons (ds_for (vs := [6]) PassesOwn.never rfl (di_seq (de_var 0)) (dg_name 6 sc_two_shown.nd (Or.inl rfl)) (dss_one (ds_if (dt_cmp od_ge (de_call (k_compared.up (by decide)) hr (by rfl) (da_cons (de_call (k_product.up (by decide)) hr (by rfl) (da_cons (de_var 4) (da_cons (de_var 6) da_nil))) (da_cons (de_var 5) da_nil))) de_int) (dss_one (ds_ret de_bl)) dss_nil)))
  (dss_cons (ds_for (vs := [6]) PassesOwn.never rfl (di_seq (de_var 1)) (dg_name 6 sc_two_shown.nd (Or.inl rfl)) (dss_one (ds_if (dt_cmp od_le (de_call (k_compared.up (by decide)) hr (by rfl) (da_cons (de_call (k_product.up (by decide)) hr (by rfl) (da_cons (de_var 4) (da_cons (de_var 6) da_nil))) (da_cons (de_var 5) da_nil))) de_int) (dss_one (ds_ret de_bl)) dss_nil)))
  (dss_one (ds_ret de_bl)))))), v_two_shown⟩
set_option maxHeartbeats 4000000 in
theorem ok_law {f : Addr} {fd : FuncData} (F : Fun K "law" "law" s_law f fd) (k_law_pile : CalD P w K mg base 1 "_law_pile" m_p_pile) (k_law_next : CalD P w K mg base 33 "_law_next" m_p_next) (k_law_met_bodies : CalD P w K mg base 37 "_law_met_bodies" m_p_met) (k_law_met_bent : CalD P w K mg base 35 "_law_met_bent" m_p_met_bent) (k_law_parted_bodies : CalD P w K mg base 37 "_law_parted_bodies" m_p_parted) (k_law_parted_bent : CalD P w K mg base 36 "_law_parted_bent" m_p_parted_bent) (k_law_two_hold : CalD P w K mg base 37 "_law_two_hold" m_p_two_hold) (k_two_shown : CalD P w K mg base 36 "two_shown" m_two_shown) (z_isinstance : mg "isinstance" = none) (z_bool : mg "bool" = none) : FnOk P w K mg base CX0 38 f fd ["script"] (spD K m_law) :=
  okD F sc_law l_law fun cdv A outer s H E hr => ⟨w_law m_p_pile m_p_next m_p_met m_p_met_bent m_p_parted m_p_parted_bent m_p_two_hold m_two_shown,
  (dss_cons (ds_set 1 sc_law.nd (Or.inl rfl) (de_call (k_law_pile.up (by decide)) hr (by rfl) (da_cons (de_var 0) da_nil)))
  (dss_cons (ds_set 2 sc_law.nd (Or.inl rfl) (de_call (k_law_next.up (by decide)) hr (by rfl) (da_cons (de_var 1) (da_cons de_int da_nil))))
  (dss_cons (ds_set 3 sc_law.nd (Or.inl rfl) (de_bin od_add de_int (de_call (k_law_next.up (by decide)) hr (by rfl) (da_cons (de_var 1) (da_cons de_int da_nil)))))
  (dss_cons (ds_set 4 sc_law.nd (Or.inl rfl) de_int)
  (dss_cons (ds_if (dt_cmp (od_eq hr.units) (de_call (k_law_next.up (by decide)) hr (by rfl) (da_cons (de_var 1) (da_cons de_int da_nil))) de_int) (dss_cons (ds_set 3 sc_law.nd (Or.inl rfl) (de_bin od_add de_int (de_call (k_law_next.up (by decide)) hr (by rfl) (da_cons (de_var 1) (da_cons de_int da_nil)))))
  (dss_one (ds_set 4 sc_law.nd (Or.inl rfl) de_int))) dss_nil)
  (dss_cons (ds_if (dt_cmp (od_eq hr.units) (de_call (k_law_next.up (by decide)) hr (by rfl) (da_cons (de_var 1) (da_cons de_int da_nil))) de_int) (dss_cons (ds_asg (vs := [5, 6, 7]) (de_call (k_law_met_bodies.up (by decide)) hr (by rfl) (da_cons (de_var 1) (da_cons (de_var 3) (da_cons (de_var 4) da_nil)))) (dg_tup rfl (dgs_cons (dg_name 5 sc_law.nd (Or.inl rfl)) (dgs_cons (dg_name 6 sc_law.nd (Or.inl rfl)) (dgs_cons (dg_name 7 sc_law.nd (Or.inl rfl)) dgs_nil)))))
  (dss_one (ds_set 7 sc_law.nd (Or.inl rfl) (de_call (k_law_met_bent.up (by decide)) hr (by rfl) (da_cons (de_var 1) (da_cons (de_var 2) (da_cons (de_var 7) da_nil))))))) (dss_cons (ds_asg (vs := [5, 6, 7]) (de_call (k_law_parted_bodies.up (by decide)) hr (by rfl) (da_cons (de_var 1) (da_cons (de_var 3) (da_cons (de_var 4) da_nil)))) (dg_tup rfl (dgs_cons (dg_name 5 sc_law.nd (Or.inl rfl)) (dgs_cons (dg_name 6 sc_law.nd (Or.inl rfl)) (dgs_cons (dg_name 7 sc_law.nd (Or.inl rfl)) dgs_nil)))))
  (dss_cons (ds_set 7 sc_law.nd (Or.inl rfl) (de_call (k_law_parted_bent.up (by decide)) hr (by rfl) (da_cons (de_var 1) (da_cons (de_var 2) (da_cons (de_var 5) (da_cons (de_var 6) (da_cons (de_var 7) da_nil)))))))
  (dss_one (ds_if (dt_cmp (od_eq hr.units) (de_var 2) de_int) (dss_one (ds_par 5 6 rfl sc_law.nd rfl rfl (da_cons (de_var 6) (da_cons (de_var 5) da_nil)))) dss_nil)))))
  (dss_cons (ds_set 8 sc_law.nd (Or.inl rfl) (de_call (k_law_two_hold.up (by decide)) hr (by rfl) (da_cons (de_var 5) (da_cons (de_var 6) (da_cons (de_var 7) da_nil)))))
  (dss_cons (ds_set 9 sc_law.nd (Or.inl rfl) (de_call (k_two_shown.up (by decide)) hr (by rfl) (da_cons (de_var 5) (da_cons (de_var 6) (da_cons (de_var 7) da_nil)))))
  (dss_cons (ds_if (dt_w (dw_and (dt_cmp (od_eq hr.units) (de_var 2) de_int) (dw_and1 (dt_not (dt_val (de_var 8)))))) (dss_one (ds_ret de_bl)) dss_nil)
  (dss_one (ds_ret (de_and (de_isi (by rfl) z_isinstance (by rfl) z_bool bt_bool (de_var 9)) (de_one (de_cmp (od_eq hr.units) (de_var 9) (de_var 8))))))))))))))), v_law⟩
set_option maxHeartbeats 4000000 in
theorem all_mk {l : PySem.W.OpenLaw} {w : World} {K : PySem.W.Frag} {h : Heap} {mg : Str → Option Value} {fa f0 f1 f2 f3 f4 f5 f6 f7 f8 f9 f10 f11 f12 f13 f14 f15 f16 f17 f18 f19 f20 f21 f22 f23 f24 f25 f26 : Addr} (X : K.In h) (G : h.Ns mainGlobals mg) (hT : l.prog.given.tree = none) (hfa : mg "law" = some (.ref fa))
    {od0 an0 od1 an1 od2 an2 od3 an3 od4 an4 od5 an5 od6 an6 od7 an7 od8 an8 od9 an9 od10 an10 od11 an11 od12 an12 od13 an13 od14 an14 od15 an15 od16 an16 od17 an17 od18 an18 od19 an19 od20 an20 od21 an21 od22 an22 od23 an23 od24 an24 od25 an25 od26 an26 : Option Addr} {sl0 sl1 sl2 sl3 sl4 sl5 sl6 sl7 sl8 sl9 sl10 sl11 sl12 sl13 sl14 sl15 sl16 sl17 sl18 sl19 sl20 sl21 sl22 sl23 sl24 sl25 sl26 : Array (Option Value)} {oc0 kV0 dc0 pm0 cd0 ct0 oc1 kV1 dc1 pm1 cd1 ct1 oc2 kV2 dc2 pm2 cd2 ct2 oc3 kV3 dc3 pm3 cd3 ct3 oc4 kV4 dc4 pm4 cd4 ct4 oc5 kV5 dc5 pm5 cd5 ct5 oc6 kV6 dc6 pm6 cd6 ct6 oc7 kV7 dc7 pm7 cd7 ct7 oc8 kV8 dc8 pm8 cd8 ct8 oc9 kV9 dc9 pm9 cd9 ct9 oc10 kV10 dc10 pm10 cd10 ct10 oc11 kV11 dc11 pm11 cd11 ct11 oc12 kV12 dc12 pm12 cd12 ct12 oc13 kV13 dc13 pm13 cd13 ct13 oc14 kV14 dc14 pm14 cd14 ct14 oc15 kV15 dc15 pm15 cd15 ct15 oc16 kV16 dc16 pm16 cd16 ct16 oc17 kV17 dc17 pm17 cd17 ct17 oc18 kV18 dc18 pm18 cd18 ct18 oc19 kV19 dc19 pm19 cd19 ct19 oc20 kV20 dc20 pm20 cd20 ct20 oc21 kV21 dc21 pm21 cd21 ct21 oc22 kV22 dc22 pm22 cd22 ct22 oc23 kV23 dc23 pm23 cd23 ct23 oc24 kV24 dc24 pm24 cd24 ct24 oc25 kV25 dc25 pm25 cd25 ct25 oc26 kV26 dc26 pm26 cd26 ct26 : Value} {ga0 : Addr} {go0 : Option Addr} {gs0 : Array (Option Value)} {gn0 : Nat} {gt0_0 gt0_1 : Tok}
    (a0 : PySem.W.nsIn K mainGlobals "_law_pile" = some (some (.ref f0))) (l0 : K.lookup f0 = some ⟨oc0, od0, .func (PySem.W.fnOf "_law_pile" "_law_pile" (defArgs s_law_pile) (defBody s_law_pile) (defScope s_law_pile) .none kV0 dc0 pm0 an0 cd0 ct0), sl0⟩) (c0 : PySem.W.codeIn K cd0 "_law_pile" = true) (k0 : PySem.W.keepIn K (.ref f0) = true)
    (a1 : PySem.W.nsIn K mainGlobals "_law_next" = some (some (.ref f1))) (l1 : K.lookup f1 = some ⟨oc1, od1, .func (PySem.W.fnOf "_law_next" "_law_next" (defArgs s_law_next) (defBody s_law_next) (defScope s_law_next) .none kV1 dc1 pm1 an1 cd1 ct1), sl1⟩) (c1 : PySem.W.codeIn K cd1 "_law_next" = true) (k1 : PySem.W.keepIn K (.ref f1) = true)
    (a2 : PySem.W.nsIn K mainGlobals "_law_fraction" = some (some (.ref f2))) (l2 : K.lookup f2 = some ⟨oc2, od2, .func (PySem.W.fnOf "_law_fraction" "_law_fraction" (defArgs s_law_fraction) (defBody s_law_fraction) (defScope s_law_fraction) .none kV2 dc2 pm2 an2 cd2 ct2), sl2⟩) (c2 : PySem.W.codeIn K cd2 "_law_fraction" = true) (k2 : PySem.W.keepIn K (.ref f2) = true)
    (a3 : PySem.W.nsIn K mainGlobals "_law_number" = some (some (.ref f3))) (l3 : K.lookup f3 = some ⟨oc3, od3, .func (PySem.W.fnOf "_law_number" "_law_number" (defArgs s_law_number) (defBody s_law_number) (defScope s_law_number) .none kV3 dc3 pm3 an3 cd3 ct3), sl3⟩) (c3 : PySem.W.codeIn K cd3 "_law_number" = true) (k3 : PySem.W.keepIn K (.ref f3) = true)
    (a4 : PySem.W.nsIn K mainGlobals "_law_row" = some (some (.ref f4))) (l4 : K.lookup f4 = some ⟨oc4, od4, .func (PySem.W.fnOf "_law_row" "_law_row" (defArgs s_law_row) (defBody s_law_row) (defScope s_law_row) .none kV4 dc4 pm4 an4 cd4 ct4), sl4⟩) (c4 : PySem.W.codeIn K cd4 "_law_row" = true) (k4 : PySem.W.keepIn K (.ref f4) = true)
    (a5 : PySem.W.nsIn K mainGlobals "_law_plus" = some (some (.ref f5))) (l5 : K.lookup f5 = some ⟨oc5, od5, .func (PySem.W.fnOf "_law_plus" "_law_plus" (defArgs s_law_plus) (defBody s_law_plus) (defScope s_law_plus) .none kV5 dc5 pm5 an5 cd5 ct5), sl5⟩) (c5 : PySem.W.codeIn K cd5 "_law_plus" = true) (k5 : PySem.W.keepIn K (.ref f5) = true)
    (a6 : PySem.W.nsIn K mainGlobals "_law_times" = some (some (.ref f6))) (l6 : K.lookup f6 = some ⟨oc6, od6, .func (PySem.W.fnOf "_law_times" "_law_times" (defArgs s_law_times) (defBody s_law_times) (defScope s_law_times) .none kV6 dc6 pm6 an6 cd6 ct6), sl6⟩) (c6 : PySem.W.codeIn K cd6 "_law_times" = true) (k6 : PySem.W.keepIn K (.ref f6) = true)
    (a7 : PySem.W.nsIn K mainGlobals "_law_body" = some (some (.ref f7))) (l7 : K.lookup f7 = some ⟨oc7, od7, .func (PySem.W.fnOf "_law_body" "_law_body" (defArgs s_law_body) (defBody s_law_body) (defScope s_law_body) .none kV7 dc7 pm7 an7 cd7 ct7), sl7⟩) (c7 : PySem.W.codeIn K cd7 "_law_body" = true) (k7 : PySem.W.keepIn K (.ref f7) = true)
    (a8 : PySem.W.nsIn K mainGlobals "_law_weights" = some (some (.ref f8))) (l8 : K.lookup f8 = some ⟨oc8, od8, .func (PySem.W.fnOf "_law_weights" "_law_weights" (defArgs s_law_weights) (defBody s_law_weights) (defScope s_law_weights) .none kV8 dc8 pm8 an8 cd8 ct8), sl8⟩) (c8 : PySem.W.codeIn K cd8 "_law_weights" = true) (k8 : PySem.W.keepIn K (.ref f8) = true)
    (a9 : PySem.W.nsIn K mainGlobals "_law_product" = some (some (.ref f9))) (l9 : K.lookup f9 = some ⟨oc9, od9, .func (PySem.W.fnOf "_law_product" "_law_product" (defArgs s_law_product) (defBody s_law_product) (defScope s_law_product) .none kV9 dc9 pm9 an9 cd9 ct9), sl9⟩) (c9 : PySem.W.codeIn K cd9 "_law_product" = true) (k9 : PySem.W.keepIn K (.ref f9) = true)
    (a10 : PySem.W.nsIn K mainGlobals "_law_sum" = some (some (.ref f10))) (l10 : K.lookup f10 = some ⟨oc10, od10, .func (PySem.W.fnOf "_law_sum" "_law_sum" (defArgs s_law_sum) (defBody s_law_sum) (defScope s_law_sum) .none kV10 dc10 pm10 an10 cd10 ct10), sl10⟩) (c10 : PySem.W.codeIn K cd10 "_law_sum" = true) (k10 : PySem.W.keepIn K (.ref f10) = true)
    (a11 : PySem.W.nsIn K mainGlobals "_law_less" = some (some (.ref f11))) (l11 : K.lookup f11 = some ⟨oc11, od11, .func (PySem.W.fnOf "_law_less" "_law_less" (defArgs s_law_less) (defBody s_law_less) (defScope s_law_less) .none kV11 dc11 pm11 an11 cd11 ct11), sl11⟩) (c11 : PySem.W.codeIn K cd11 "_law_less" = true) (k11 : PySem.W.keepIn K (.ref f11) = true)
    (a12 : PySem.W.nsIn K mainGlobals "_law_met_bodies" = some (some (.ref f12))) (l12 : K.lookup f12 = some ⟨oc12, od12, .func (PySem.W.fnOf "_law_met_bodies" "_law_met_bodies" (defArgs s_law_met_bodies) (defBody s_law_met_bodies) (defScope s_law_met_bodies) .none kV12 dc12 pm12 an12 cd12 ct12), sl12⟩) (c12 : PySem.W.codeIn K cd12 "_law_met_bodies" = true) (k12 : PySem.W.keepIn K (.ref f12) = true)
    (a13 : PySem.W.nsIn K mainGlobals "_law_gap" = some (some (.ref f13))) (l13 : K.lookup f13 = some ⟨oc13, od13, .func (PySem.W.fnOf "_law_gap" "_law_gap" (defArgs s_law_gap) (defBody s_law_gap) (defScope s_law_gap) .none kV13 dc13 pm13 an13 cd13 ct13), sl13⟩) (c13 : PySem.W.codeIn K cd13 "_law_gap" = true) (k13 : PySem.W.keepIn K (.ref f13) = true)
    (a14 : PySem.W.nsIn K mainGlobals "_law_met_bent" = some (some (.ref f14))) (l14 : K.lookup f14 = some ⟨oc14, od14, .func (PySem.W.fnOf "_law_met_bent" "_law_met_bent" (defArgs s_law_met_bent) (defBody s_law_met_bent) (defScope s_law_met_bent) .none kV14 dc14 pm14 an14 cd14 ct14), sl14⟩) (c14 : PySem.W.codeIn K cd14 "_law_met_bent" = true) (k14 : PySem.W.keepIn K (.ref f14) = true)
    (a15 : PySem.W.nsIn K mainGlobals "_law_parted_bodies" = some (some (.ref f15))) (l15 : K.lookup f15 = some ⟨oc15, od15, .func (PySem.W.fnOf "_law_parted_bodies" "_law_parted_bodies" (defArgs s_law_parted_bodies) (defBody s_law_parted_bodies) (defScope s_law_parted_bodies) .none kV15 dc15 pm15 an15 cd15 ct15), sl15⟩) (c15 : PySem.W.codeIn K cd15 "_law_parted_bodies" = true) (k15 : PySem.W.keepIn K (.ref f15) = true)
    (a16 : PySem.W.nsIn K mainGlobals "_law_parted_bent" = some (some (.ref f16))) (l16 : K.lookup f16 = some ⟨oc16, od16, .func (PySem.W.fnOf "_law_parted_bent" "_law_parted_bent" (defArgs s_law_parted_bent) (defBody s_law_parted_bent) (defScope s_law_parted_bent) .none kV16 dc16 pm16 an16 cd16 ct16), sl16⟩) (c16 : PySem.W.codeIn K cd16 "_law_parted_bent" = true) (k16 : PySem.W.keepIn K (.ref f16) = true)
    (a17 : PySem.W.nsIn K mainGlobals "_law_are_weights" = some (some (.ref f17))) (l17 : K.lookup f17 = some ⟨oc17, od17, .func (PySem.W.fnOf "_law_are_weights" "_law_are_weights" (defArgs s_law_are_weights) (defBody s_law_are_weights) (defScope s_law_are_weights) .none kV17 dc17 pm17 an17 cd17 ct17), sl17⟩) (c17 : PySem.W.codeIn K cd17 "_law_are_weights" = true) (k17 : PySem.W.keepIn K (.ref f17) = true)
    (a18 : PySem.W.nsIn K mainGlobals "_law_two_hold" = some (some (.ref f18))) (l18 : K.lookup f18 = some ⟨oc18, od18, .func (PySem.W.fnOf "_law_two_hold" "_law_two_hold" (defArgs s_law_two_hold) (defBody s_law_two_hold) (defScope s_law_two_hold) .none kV18 dc18 pm18 an18 cd18 ct18), sl18⟩) (c18 : PySem.W.codeIn K cd18 "_law_two_hold" = true) (k18 : PySem.W.keepIn K (.ref f18) = true)
    (a19 : PySem.W.nsIn K mainGlobals "divisor" = some (some (.ref f19))) (l19 : K.lookup f19 = some ⟨oc19, od19, .func (PySem.W.fnOf "divisor" "divisor" (defArgs s_divisor) (defBody s_divisor) (defScope s_divisor) .none kV19 dc19 pm19 an19 cd19 ct19), sl19⟩) (c19 : PySem.W.codeIn K cd19 "divisor" = true) (k19 : PySem.W.keepIn K (.ref f19) = true)
    (a20 : PySem.W.nsIn K mainGlobals "fraction" = some (some (.ref f20))) (l20 : K.lookup f20 = some ⟨oc20, od20, .func (PySem.W.fnOf "fraction" "fraction" (defArgs s_fraction) (defBody s_fraction) (defScope s_fraction) .none kV20 dc20 pm20 an20 cd20 ct20), sl20⟩) (c20 : PySem.W.codeIn K cd20 "fraction" = true) (k20 : PySem.W.keepIn K (.ref f20) = true)
    (a21 : PySem.W.nsIn K mainGlobals "product" = some (some (.ref f21))) (l21 : K.lookup f21 = some ⟨oc21, od21, .func (PySem.W.fnOf "product" "product" (defArgs s_product) (defBody s_product) (defScope s_product) .none kV21 dc21 pm21 an21 cd21 ct21), sl21⟩) (c21 : PySem.W.codeIn K cd21 "product" = true) (k21 : PySem.W.keepIn K (.ref f21) = true)
    (a22 : PySem.W.nsIn K mainGlobals "are_let" = some (some (.ref f22))) (l22 : K.lookup f22 = some ⟨oc22, od22, .func (PySem.W.fnOf "are_let" "are_let" (defArgs s_are_let) (defBody s_are_let) (defScope s_are_let) .none kV22 dc22 pm22 an22 cd22 ct22), sl22⟩) (c22 : PySem.W.codeIn K cd22 "are_let" = true) (k22 : PySem.W.keepIn K (.ref f22) = true)
    (a23 : PySem.W.nsIn K mainGlobals "sum_of" = some (some (.ref f23))) (l23 : K.lookup f23 = some ⟨oc23, od23, .func (PySem.W.fnOf "sum_of" "sum_of" (defArgs s_sum_of) (defBody s_sum_of) (defScope s_sum_of) .none kV23 dc23 pm23 an23 cd23 ct23), sl23⟩) (c23 : PySem.W.codeIn K cd23 "sum_of" = true) (k23 : PySem.W.keepIn K (.ref f23) = true)
    (a24 : PySem.W.nsIn K mainGlobals "compared" = some (some (.ref f24))) (l24 : K.lookup f24 = some ⟨oc24, od24, .func (PySem.W.fnOf "compared" "compared" (defArgs s_compared) (defBody s_compared) (defScope s_compared) .none kV24 dc24 pm24 an24 cd24 ct24), sl24⟩) (c24 : PySem.W.codeIn K cd24 "compared" = true) (k24 : PySem.W.keepIn K (.ref f24) = true)
    (a25 : PySem.W.nsIn K mainGlobals "two_shown" = some (some (.ref f25))) (l25 : K.lookup f25 = some ⟨oc25, od25, .func (PySem.W.fnOf "two_shown" "two_shown" (defArgs s_two_shown) (defBody s_two_shown) (defScope s_two_shown) .none kV25 dc25 pm25 an25 cd25 ct25), sl25⟩) (c25 : PySem.W.codeIn K cd25 "two_shown" = true) (k25 : PySem.W.keepIn K (.ref f25) = true)
    (a26 : PySem.W.nsIn K mainGlobals "law" = some (some (.ref f26))) (l26 : K.lookup f26 = some ⟨oc26, od26, .func (PySem.W.fnOf "law" "law" (defArgs s_law) (defBody s_law) (defScope s_law) .none kV26 dc26 pm26 an26 cd26 ct26), sl26⟩) (c26 : PySem.W.codeIn K cd26 "law" = true) (k26 : PySem.W.keepIn K (.ref f26) = true)
    (ga0_ : PySem.W.nsIn K mainGlobals "ONE" = some (some (.ref ga0))) (gl0_ : K.lookup ga0 = some ⟨.type "tuple", go0, .seq #[.int 1 gt0_0, .int 1 gt0_1] gn0, gs0⟩) (z_len_ : PySem.W.nsIn K mainGlobals "len" = some none) (z_abs_ : PySem.W.nsIn K mainGlobals "abs" = some none) (z_tuple_ : PySem.W.nsIn K mainGlobals "tuple" = some none) (z_range_ : PySem.W.nsIn K mainGlobals "range" = some none) (z_zip_ : PySem.W.nsIn K mainGlobals "zip" = some none) (z_sum_ : PySem.W.nsIn K mainGlobals "sum" = some none) (z_list_ : PySem.W.nsIn K mainGlobals "list" = some none) (z_all_ : PySem.W.nsIn K mainGlobals "all" = some none) (z_int_ : PySem.W.nsIn K mainGlobals "int" = some none) (z_isinstance_ : PySem.W.nsIn K mainGlobals "isinstance" = some none) (z_bool_ : PySem.W.nsIn K mainGlobals "bool" = some none) :
    ∃ fd : FuncData, (∀ (s : Shared) (v : Value), BindsTo s fd ⟨[v], []⟩ [("script", v)]) ∧ ∀ base : Heap, K.In base → base.Ns mainGlobals mg → base.NoSeer → FnOk l.prog w K mg base CX0 38 fa fd ["script"] (spD K m_law) := by
  have e := hfa.symm.trans (PySem.W.mg_of X G a26)
  cases e
  refine ⟨PySem.W.fnOf "law" "law" (defArgs s_law) (defBody s_law) (defScope s_law) .none kV26 dc26 pm26 an26 cd26 ct26, fun s v => .of_eq rfl, fun base _ _ hN => ?_⟩
  have z_len := PySem.W.mg_none_of X G z_len_
  have z_abs := PySem.W.mg_none_of X G z_abs_
  have z_tuple := PySem.W.mg_none_of X G z_tuple_
  have z_range := PySem.W.mg_none_of X G z_range_
  have z_zip := PySem.W.mg_none_of X G z_zip_
  have z_sum := PySem.W.mg_none_of X G z_sum_
  have z_list := PySem.W.mg_none_of X G z_list_
  have z_all := PySem.W.mg_none_of X G z_all_
  have z_int := PySem.W.mg_none_of X G z_int_
  have z_isinstance := PySem.W.mg_none_of X G z_isinstance_
  have z_bool := PySem.W.mg_none_of X G z_bool_
  have g_ONE : GlobD K mg "ONE" c_ONE := glob_tup (ns := [1, 1]) (PySem.W.mg_of X G ga0_) gl0_ (by rfl) (by show 2 ≤ sizeLine; decide)
  have F0 := fun_mk (st := s_law_pile) l0 c0 k0
  have b0 := F0.binds (ps := ["script"]) fun _ _ _ _ _ _ us hl => match us, hl with | [_], _ => rfl
  have k_law_pile : CalD l.prog w K mg base 1 "_law_pile" m_p_pile := calD F0 (PySem.W.mg_of X G a0) b0 (ok_law_pile F0)
  have F1 := fun_mk (st := s_law_next) l1 c1 k1
  have b1 := F1.binds (ps := ["pile", "most"]) fun _ _ _ _ _ _ us hl => match us, hl with | [_, _], _ => rfl
  have k_law_next : CalD l.prog w K mg base 33 "_law_next" m_p_next := calD F1 (PySem.W.mg_of X G a1) b1 (ok_law_next F1 z_len z_abs hN hT)
  have F2 := fun_mk (st := s_law_fraction) l2 c2 k2
  have b2 := F2.binds (ps := ["upper", "below"]) fun _ _ _ _ _ _ us hl => match us, hl with | [_, _], _ => rfl
  have k_law_fraction : CalD l.prog w K mg base 33 "_law_fraction" m_p_fraction := calD F2 (PySem.W.mg_of X G a2) b2 (ok_law_fraction F2 z_abs hN hT)
  have F3 := fun_mk (st := s_law_number) l3 c3 k3
  have b3 := F3.binds (ps := ["pile", "great"]) fun _ _ _ _ _ _ us hl => match us, hl with | [_, _], _ => rfl
  have k_law_number : CalD l.prog w K mg base 34 "_law_number" m_p_number := calD F3 (PySem.W.mg_of X G a3) b3 (ok_law_number F3 k_law_next k_law_fraction)
  have F4 := fun_mk (st := s_law_row) l4 c4 k4
  have b4 := F4.binds (ps := ["pile", "many", "great"]) fun _ _ _ _ _ _ us hl => match us, hl with | [_, _, _], _ => rfl
  have k_law_row : CalD l.prog w K mg base 35 "_law_row" m_p_row := calD F4 (PySem.W.mg_of X G a4) b4 (ok_law_row F4 k_law_number z_tuple z_range)
  have F5 := fun_mk (st := s_law_plus) l5 c5 k5
  have b5 := F5.binds (ps := ["one", "other"]) fun _ _ _ _ _ _ us hl => match us, hl with | [_, _], _ => rfl
  have k_law_plus : CalD l.prog w K mg base 34 "_law_plus" m_p_plus := calD F5 (PySem.W.mg_of X G a5) b5 (ok_law_plus F5 k_law_fraction)
  have F6 := fun_mk (st := s_law_times) l6 c6 k6
  have b6 := F6.binds (ps := ["one", "other"]) fun _ _ _ _ _ _ us hl => match us, hl with | [_, _], _ => rfl
  have k_law_times : CalD l.prog w K mg base 34 "_law_times" m_p_times := calD F6 (PySem.W.mg_of X G a6) b6 (ok_law_times F6 k_law_fraction)
  have F7 := fun_mk (st := s_law_body) l7 c7 k7
  have b7 := F7.binds (ps := ["pile", "many", "size", "great"]) fun _ _ _ _ _ _ us hl => match us, hl with | [_, _, _, _], _ => rfl
  have k_law_body : CalD l.prog w K mg base 36 "_law_body" m_p_body := calD F7 (PySem.W.mg_of X G a7) b7 (ok_law_body F7 k_law_next k_law_row k_law_plus k_law_times z_range z_len z_tuple z_zip)
  have F8 := fun_mk (st := s_law_weights) l8 c8 k8
  have b8 := F8.binds (ps := ["pile", "many"]) fun _ _ _ _ _ _ us hl => match us, hl with | [_, _], _ => rfl
  have k_law_weights : CalD l.prog w K mg base 34 "_law_weights" m_p_weights := calD F8 (PySem.W.mg_of X G a8) b8 (ok_law_weights F8 k_law_next k_law_fraction z_range z_tuple z_sum)
  have F9 := fun_mk (st := s_law_product) l9 c9 k9
  have b9 := F9.binds (ps := ["row", "other"]) fun _ _ _ _ _ _ us hl => match us, hl with | [_, _], _ => rfl
  have k_law_product : CalD l.prog w K mg base 35 "_law_product" m_p_product := calD F9 (PySem.W.mg_of X G a9) b9 (ok_law_product F9 k_law_times k_law_plus z_zip)
  have F10 := fun_mk (st := s_law_sum) l10 c10 k10
  have b10 := F10.binds (ps := ["points", "weights"]) fun _ _ _ _ _ _ us hl => match us, hl with | [_, _], _ => rfl
  have k_law_sum : CalD l.prog w K mg base 36 "_law_sum" m_p_sum := calD F10 (PySem.W.mg_of X G a10) b10 (ok_law_sum F10 k_law_product z_tuple z_range z_len)
  have F11 := fun_mk (st := s_law_less) l11 c11 k11
  have b11 := F11.binds (ps := ["one", "other"]) fun _ _ _ _ _ _ us hl => match us, hl with | [_, _], _ => rfl
  have k_law_less : CalD l.prog w K mg base 34 "_law_less" m_p_less := calD F11 (PySem.W.mg_of X G a11) b11 (ok_law_less F11 k_law_fraction)
  have F12 := fun_mk (st := s_law_met_bodies) l12 c12 k12
  have b12 := F12.binds (ps := ["pile", "size", "most"]) fun _ _ _ _ _ _ us hl => match us, hl with | [_, _, _], _ => rfl
  have k_law_met_bodies : CalD l.prog w K mg base 37 "_law_met_bodies" m_p_met := calD F12 (PySem.W.mg_of X G a12) b12 (ok_law_met_bodies F12 k_law_next k_law_body k_law_weights k_law_sum k_law_plus k_law_less k_law_times z_len z_list z_tuple z_zip)
  have F13 := fun_mk (st := s_law_gap) l13 c13 k13
  have b13 := F13.binds (ps := ["pile"]) fun _ _ _ _ _ _ us hl => match us, hl with | [_], _ => rfl
  have k_law_gap : CalD l.prog w K mg base 34 "_law_gap" m_p_gap := calD F13 (PySem.W.mg_of X G a13) b13 (ok_law_gap F13 k_law_next k_law_fraction)
  have F14 := fun_mk (st := s_law_met_bent) l14 c14 k14
  have b14 := F14.binds (ps := ["pile", "way", "told"]) fun _ _ _ _ _ _ us hl => match us, hl with | [_, _, _], _ => rfl
  have k_law_met_bent : CalD l.prog w K mg base 35 "_law_met_bent" m_p_met_bent := calD F14 (PySem.W.mg_of X G a14) b14 (ok_law_met_bent F14 k_law_next k_law_gap k_law_plus k_law_less k_law_weights z_list z_len z_tuple)
  have F15 := fun_mk (st := s_law_parted_bodies) l15 c15 k15
  have b15 := F15.binds (ps := ["pile", "size", "most"]) fun _ _ _ _ _ _ us hl => match us, hl with | [_, _, _], _ => rfl
  have k_law_parted_bodies : CalD l.prog w K mg base 37 "_law_parted_bodies" m_p_parted := calD F15 (PySem.W.mg_of X G a15) b15 (ok_law_parted_bodies F15 k_law_next k_law_body k_law_product k_law_less k_law_gap k_law_plus k_law_fraction z_range z_tuple)
  have F16 := fun_mk (st := s_law_parted_bent) l16 c16 k16
  have b16 := F16.binds (ps := ["pile", "way", "one", "other", "told"]) fun _ _ _ _ _ _ us hl => match us, hl with | [_, _, _, _, _], _ => rfl
  have k_law_parted_bent : CalD l.prog w K mg base 36 "_law_parted_bent" m_p_parted_bent := calD F16 (PySem.W.mg_of X G a16) b16 (ok_law_parted_bent F16 k_law_next k_law_gap k_law_less k_law_plus k_law_product z_len z_tuple)
  have F17 := fun_mk (st := s_law_are_weights) l17 c17 k17
  have b17 := F17.binds (ps := ["weights"]) fun _ _ _ _ _ _ us hl => match us, hl with | [_], _ => rfl
  have k_law_are_weights : CalD l.prog w K mg base 35 "_law_are_weights" m_p_are_weights := calD F17 (PySem.W.mg_of X G a17) b17 (ok_law_are_weights F17 k_law_plus)
  have F18 := fun_mk (st := s_law_two_hold) l18 c18 k18
  have b18 := F18.binds (ps := ["one", "other", "told"]) fun _ _ _ _ _ _ us hl => match us, hl with | [_, _, _], _ => rfl
  have k_law_two_hold : CalD l.prog w K mg base 37 "_law_two_hold" m_p_two_hold := calD F18 (PySem.W.mg_of X G a18) b18 (ok_law_two_hold F18 k_law_are_weights k_law_sum k_law_product k_law_less)
  have F19 := fun_mk (st := s_divisor) l19 c19 k19
  have b19 := F19.binds (ps := ["one", "other"]) fun _ _ _ _ _ _ us hl => match us, hl with | [_, _], _ => rfl
  have k_divisor : CalD l.prog w K mg base 1 "divisor" m_divisor := calD F19 (PySem.W.mg_of X G a19) b19 (ok_divisor F19)
  have F20 := fun_mk (st := s_fraction) l20 c20 k20
  have b20 := F20.binds (ps := ["top", "below"]) fun _ _ _ _ _ _ us hl => match us, hl with | [_, _], _ => rfl
  have k_fraction : CalD l.prog w K mg base 33 "fraction" m_fraction := calD F20 (PySem.W.mg_of X G a20) b20 (ok_fraction F20 k_divisor z_abs hN hT)
  have F21 := fun_mk (st := s_product) l21 c21 k21
  have b21 := F21.binds (ps := ["row", "other"]) fun _ _ _ _ _ _ us hl => match us, hl with | [_, _], _ => rfl
  have k_product : CalD l.prog w K mg base 34 "product" m_product := calD F21 (PySem.W.mg_of X G a21) b21 (ok_product F21 k_fraction z_zip)
  have F22 := fun_mk (st := s_are_let) l22 c22 k22
  have b22 := F22.binds (ps := ["weights"]) fun _ _ _ _ _ _ us hl => match us, hl with | [_], _ => rfl
  have k_are_let : CalD l.prog w K mg base 35 "are_let" m_are_let := calD F22 (PySem.W.mg_of X G a22) b22 (ok_are_let F22 k_product g_ONE z_len z_all)
  have F23 := fun_mk (st := s_sum_of) l23 c23 k23
  have b23 := F23.binds (ps := ["body", "weights"]) fun _ _ _ _ _ _ us hl => match us, hl with | [_, _], _ => rfl
  have k_sum_of : CalD l.prog w K mg base 35 "sum_of" m_sum_of := calD F23 (PySem.W.mg_of X G a23) b23 (ok_sum_of F23 k_product z_range z_len z_tuple)
  have F24 := fun_mk (st := s_compared) l24 c24 k24
  have b24 := F24.binds (ps := ["one", "other"]) fun _ _ _ _ _ _ us hl => match us, hl with | [_, _], _ => rfl
  have k_compared : CalD l.prog w K mg base 1 "compared" m_compared := calD F24 (PySem.W.mg_of X G a24) b24 (ok_compared F24 z_int)
  have F25 := fun_mk (st := s_two_shown) l25 c25 k25
  have b25 := F25.binds (ps := ["one", "other", "told"]) fun _ _ _ _ _ _ us hl => match us, hl with | [_, _, _], _ => rfl
  have k_two_shown : CalD l.prog w K mg base 36 "two_shown" m_two_shown := calD F25 (PySem.W.mg_of X G a25) b25 (ok_two_shown F25 k_are_let k_sum_of k_product k_compared)
  have F26 := fun_mk (st := s_law) l26 c26 k26
  exact ok_law F26 k_law_pile k_law_next k_law_met_bodies k_law_met_bent k_law_parted_bodies k_law_parted_bent k_law_two_hold k_two_shown z_isinstance z_bool
end
end ND
set_option Elab.async false
set_option maxRecDepth 100000
open PySem PySem.W PyProof.Rows
set_option maxHeartbeats 0 in
theorem PySem.Challenge.cw_nearlaid_k73_two_shown_holds : PySem.Challenge.rw_nearlaid_k73_two_shown.Holds := by
  w_on; o_law; k_head; (case hw => w_witness2)
  k_fill
  refine ND.walkP (l := PySem.Challenge.rw_nearlaid_k73_two_shown) (n := 63) (k := 38) (x := "script") (sp := fun w => ND.spD _ (ND.mLaw 63)) rfl (by decide) rfl ⟨rfl, by decide, by decide⟩ (by decide +kernel) (fun w h Y => PySem.W.kIn_of Y) ?F (fun _ _ a ns hl hS => ND.law_sp hl hS)
  case F =>
    intro w mg fa h KX G hmg
    refine' ND.all_mk KX G rfl hmg ?a0 ?l0 ?c0 ?k0 ?a1 ?l1 ?c1 ?k1 ?a2 ?l2 ?c2 ?k2 ?a3 ?l3 ?c3 ?k3 ?a4 ?l4 ?c4 ?k4 ?a5 ?l5 ?c5 ?k5 ?a6 ?l6 ?c6 ?k6 ?a7 ?l7 ?c7 ?k7 ?a8 ?l8 ?c8 ?k8 ?a9 ?l9 ?c9 ?k9 ?a10 ?l10 ?c10 ?k10 ?a11 ?l11 ?c11 ?k11 ?a12 ?l12 ?c12 ?k12 ?a13 ?l13 ?c13 ?k13 ?a14 ?l14 ?c14 ?k14 ?a15 ?l15 ?c15 ?k15 ?a16 ?l16 ?c16 ?k16 ?a17 ?l17 ?c17 ?k17 ?a18 ?l18 ?c18 ?k18 ?a19 ?l19 ?c19 ?k19 ?a20 ?l20 ?c20 ?k20 ?a21 ?l21 ?c21 ?k21 ?a22 ?l22 ?c22 ?k22 ?a23 ?l23 ?c23 ?k23 ?a24 ?l24 ?c24 ?k24 ?a25 ?l25 ?c25 ?k25 ?a26 ?l26 ?c26 ?k26 ?ga0_ ?gl0_ ?z_len_ ?z_abs_ ?z_tuple_ ?z_range_ ?z_zip_ ?z_sum_ ?z_list_ ?z_all_ ?z_int_ ?z_isinstance_ ?z_bool_
    (case a0 => k_is); (case l0 => k_is); (case c0 => k_is); (case k0 => k_is); (case a1 => k_is); (case l1 => k_is); (case c1 => k_is); (case k1 => k_is); (case a2 => k_is); (case l2 => k_is); (case c2 => k_is); (case k2 => k_is); (case a3 => k_is); (case l3 => k_is); (case c3 => k_is); (case k3 => k_is); (case a4 => k_is); (case l4 => k_is); (case c4 => k_is); (case k4 => k_is); (case a5 => k_is); (case l5 => k_is); (case c5 => k_is); (case k5 => k_is); (case a6 => k_is); (case l6 => k_is); (case c6 => k_is); (case k6 => k_is); (case a7 => k_is); (case l7 => k_is); (case c7 => k_is); (case k7 => k_is); (case a8 => k_is); (case l8 => k_is); (case c8 => k_is); (case k8 => k_is); (case a9 => k_is); (case l9 => k_is); (case c9 => k_is); (case k9 => k_is); (case a10 => k_is); (case l10 => k_is); (case c10 => k_is); (case k10 => k_is); (case a11 => k_is); (case l11 => k_is); (case c11 => k_is); (case k11 => k_is); (case a12 => k_is); (case l12 => k_is); (case c12 => k_is); (case k12 => k_is); (case a13 => k_is); (case l13 => k_is); (case c13 => k_is); (case k13 => k_is); (case a14 => k_is); (case l14 => k_is); (case c14 => k_is); (case k14 => k_is); (case a15 => k_is); (case l15 => k_is); (case c15 => k_is); (case k15 => k_is); (case a16 => k_is); (case l16 => k_is); (case c16 => k_is); (case k16 => k_is); (case a17 => k_is); (case l17 => k_is); (case c17 => k_is); (case k17 => k_is); (case a18 => k_is); (case l18 => k_is); (case c18 => k_is); (case k18 => k_is); (case a19 => k_is); (case l19 => k_is); (case c19 => k_is); (case k19 => k_is); (case a20 => k_is); (case l20 => k_is); (case c20 => k_is); (case k20 => k_is); (case a21 => k_is); (case l21 => k_is); (case c21 => k_is); (case k21 => k_is); (case a22 => k_is); (case l22 => k_is); (case c22 => k_is); (case k22 => k_is); (case a23 => k_is); (case l23 => k_is); (case c23 => k_is); (case k23 => k_is); (case a24 => k_is); (case l24 => k_is); (case c24 => k_is); (case k24 => k_is); (case a25 => k_is); (case l25 => k_is); (case c25 => k_is); (case k25 => k_is); (case a26 => k_is); (case l26 => k_is); (case c26 => k_is); (case k26 => k_is); (case ga0_ => k_is); (case gl0_ => k_is); (case z_len_ => k_is); (case z_abs_ => k_is); (case z_tuple_ => k_is); (case z_range_ => k_is); (case z_zip_ => k_is); (case z_sum_ => k_is); (case z_list_ => k_is); (case z_all_ => k_is); (case z_int_ => k_is); (case z_isinstance_ => k_is); (case z_bool_ => k_is)
