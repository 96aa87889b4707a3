import PyProof.Rows.All
import Wide.All
import OpenK.AllK
import Wide.FinOn
import HandS.ForMost
import HandS.ForExc
import HandS.TupMul
import HandS.Lambda
import HandS.IsInst
import HandS.ExcIs
import HandS.ExcOwn
import HandS.TupAny
import HandS.Style
import HandS.Flow
import HandS.Deep
import HandS.Wide
import HandS.WideBits
import HandS.TupLe
import HandS.Text
import PyProof.Rows.InDataRows
import HandS.Walk
import HandS.Zip
import HandS.Rev
import KE.GoesEnum
import HandS.SetFor
import HandS.Strs
import HandS.Conv
import HandS.SortInts
import KE.DatumIndex
import HandS.SetTxt0
import KE.SortKeyHeap
import HandS.SortKw
import HandS.Replace
import HandS.RaiseMore
import KE.DataMinMax
import HandS.More
import KE.KDictPairs
import KE.KIndexArg
import PySem.Challenge.RW_rowlets_k21_rules_that_are_not_plain
set_option Elab.async false
set_option linter.all false
set_option maxRecDepth 100000
set_option maxHeartbeats 4000000
namespace Pu
open PySem PySem.Spec PyProof.Rows L2

/-! ### values as trees, objects that change -/
abbrev Ky := Sum Int String
inductive D where
  | non | bl (b : Bool) | int (i : Int) | str (s : String) | tup (xs : List D) | lst (xs : List D) | dic (kvs : List (Sum Int String × D)) | ref (a : Nat)
  | ty (n : String) | frz (xs : List D) | xc (c : String) | tux (xs : List D)
instance : Inhabited D := ⟨.non⟩
inductive O where
  | lst (xs : List D) | dic (kvs : List (Ky × D)) | lkd (kvs : List (Ky × D))
instance : Inhabited O := ⟨.lst []⟩
abbrev HH := List O
abbrev En := List (Option D)
inductive R (α : Type) where
  | ok (a : α) (h : HH) | exc (c : String) (h : HH) | stuck
abbrev Ex := En → HH → R D
abbrev Exs := En → HH → R (List D)
abbrev Et := En → HH → R Bool

def kyV : Ky → Key
  | .inl i => .inl i
  | .inr s => .inr (Str.ofString s)
/-- which addresses hold the objects that change; which no value may lean on; the tables of code objects -/
structure Tk where
  L : List Addr
  B : Addr → Prop
  Q : List (Addr × Str)
/-- an exception that was caught, of the class C, at a -/
def ExT (C : Value) (a : Addr) : HO := .ext fun h => ∃ (oe : Obj) (vs : Array Value), h.get? a = some oe ∧ Zc C none oe ∧ oe.data = .fields vs
theorem ExT.nt {C : Value} {a : Addr} {ps : Array Value} : ExT C a ≠ .tbl ps := fun z => nomatch z

/-- a tuple that is known to have no dict of its own -/
def XT (K : PySem.W.Frag) (H : Hp) (a : Addr) (xs : List V) : Prop := (∃ o : Obj, H a = some (.frz o (.tup xs)) ∧ o.dict = none) ∨
  ∃ (o : Obj) (its : Array Value) (n : Nat), K.lookup a = some o ∧ o.cls = .type "tuple" ∧ o.data = .seq its n ∧ its.size ≤ sizeLine ∧ Vals xs its.toList ∧ o.dict = none
theorem XT.sq {K : PySem.W.Frag} {H : Hp} {a : Addr} {xs : List V} (x : XT K H a xs) : SqT K H a xs := by
  rcases x with ⟨o, e, _⟩ | ⟨o, its, n, e, c, d, z, v, _⟩
  · exact .inl (.inr ⟨o, e⟩)
  · exact .inr ⟨o, its, n, e, c, d, z, v⟩
section
variable (K : PySem.W.Frag) (T : Tk) (H : Hp)
mutual
def rel : D → V → Prop
  | .non, v => v = .non
  | .bl b, v => v = .bl b
  | .int i, v => v = .int i
  | .str s, v => v = .str (Str.ofString s)
  | .tup ds, v => ∃ a vs, v = .ref a ∧ XT K H a vs ∧ rels ds vs
  | .tux ds, v => ∃ a vs, v = .ref a ∧ SqT K H a vs ∧ rels ds vs
  | .lst ds, v => ∃ a vs, v = .ref a ∧ H a = some (.lst vs) ∧ ¬ T.B a ∧ rels ds vs
  | .frz ds, v => ∃ a vs, v = .ref a ∧ ((Rd H a (.lst vs) ∧ ¬ T.B a) ∨ (∀ G, SqL K G a vs)) ∧ rels ds vs
  | .dic ds, v => ∃ a vs, v = .ref a ∧ H a = some (.dK vs) ∧ ¬ T.B a ∧ relk ds vs
  | .ref i, v => ∃ a, v = .ref a ∧ T.L[i]? = some a
  | .ty n, v => v = .ty n
  | .xc c, v => ∃ a C, v = .ref a ∧ PySem.W.nsIn K mainGlobals (Str.ofString c) = some (some C) ∧ H a = some (ExT C a)
def rels : List D → List V → Prop
  | [], vs => vs = []
  | d :: ds, vs => ∃ v r, vs = v :: r ∧ rel d v ∧ rels ds r
def relk : List (Sum Int String × D) → List (Key × V) → Prop
  | [], vs => vs = []
  | (k, d) :: ds, vs => ∃ v r, vs = (kyV k, v) :: r ∧ rel d v ∧ relk ds r
end
def relO (a : Addr) : O → Prop
  | .lst ds => ∃ vs, H a = some (.lst vs) ∧ rels K T H ds vs
  | .dic ds => ∃ vs, H a = some (.dK vs) ∧ relk K T H ds vs
  | .lkd ds => ∃ vs, (∃ o, H a = some (.frz o (.dK vs))) ∧ relk K T H ds vs
structure RelH (h : HH) : Prop where
  len : T.L.length = h.length
  nd : T.L.Nodup
  at_ : ∀ (i : Nat) (o : O), h[i]? = some o → ∃ a, T.L[i]? = some a ∧ relO K T H a o
  sub : ∀ a, a ∈ T.L → T.B a
  occ : ∀ a, T.B a → ∃ xs, H a = some (.lst xs) ∨ ∃ xs, H a = some (.dK xs) ∨ ∃ o, H a = some (.frz o (.dK xs))
  tabs : LamX.Tabs T.Q H
def relE (env : En) (σ : L2.St) : Prop := env.length = σ.length ∧ ∀ (i : Nat) (d : D), env[i]? = some (some d) → ∃ v, σ[i]? = some (some v) ∧ rel K T H d v
end

structure Le (T : Tk) (H : Hp) (T' : Tk) (H' : Hp) : Prop where
  pre : ∃ M, T'.L = T.L ++ M
  more : ∀ a, T.B a → T'.B a
  fresh : ∀ a, T'.B a → T.B a ∨ H a = none
  freshL : ∀ a, a ∈ T'.L → a ∈ T.L ∨ H a = none
  keep : ∀ a o, H a = some o → a ∉ T.L → (∀ ps, o ≠ .tbl ps) → H' a = some o
  kt : ∀ a ps, H a = some (.tbl ps) → a ∉ T.L → ∃ ps', H' a = some (.tbl ps')
  tq : T'.Q = T.Q
  lk : ∀ a q xs, H a = some (.frz q (.dK xs)) → H' a = some (.frz q (.dK xs))

section
variable {K : PySem.W.Frag} {T T' T'' : Tk} {H H' H'' : Hp} {h h' : HH}
theorem Le.refl : Le T H T H := ⟨⟨[], by simp⟩, fun _ h => h, fun _ h => .inl h, fun _ h => .inl h, fun _ _ e _ _ => e, fun _ ps e _ => ⟨ps, e⟩, rfl, fun _ _ _ e => e⟩
theorem Le.get {i : Nat} {a : Addr} (l : Le T H T' H') (e : T.L[i]? = some a) : T'.L[i]? = some a := by
  obtain ⟨M, q⟩ := l.pre
  rw [q, List.getElem?_append_left (List.getElem?_eq_some_iff.mp e).1]
  exact e
theorem Le.not {a : Addr} {o : HO} (l : Le T H T' H') (e : H a = some o) (n : ¬ T.B a) : ¬ T'.B a := fun q => by
  rcases l.fresh a q with z | z
  · exact n z
  · rw [z] at e; cases e
theorem RelH.out (r : RelH K T H h) {a : Addr} (n : ¬ T.B a) : a ∉ T.L := fun q => n (r.sub a q)
/-- what is told as changing is a list, a dict -/
structure Mu (T : Tk) (H : Hp) : Prop where
  sub : ∀ a, a ∈ T.L → T.B a
  occ : ∀ a, T.B a → ∃ xs, H a = some (.lst xs) ∨ ∃ xs, H a = some (.dK xs) ∨ ∃ o, H a = some (.frz o (.dK xs))
theorem RelH.mut (r : RelH K T H h) : Mu T H := ⟨r.sub, r.occ⟩
theorem Mu.out (m : Mu T H) {a : Addr} (n : ¬ T.B a) : a ∉ T.L := fun q => n (m.sub a q)
theorem Mu.free (m : Mu T H) {a : Addr} (n : H a = none) : ¬ T.B a := fun q => by
  obtain ⟨_, z | ⟨_, z | ⟨_, z⟩⟩⟩ := m.occ a q <;> (rw [n] at z; cases z)
theorem Le.trans (a : Le T H T' H') (m : Mu T H) (b : Le T' H' T'' H'') : Le T H T'' H'' := by
  have k : ∀ x o, H x = some o → x ∉ T.L → x ∉ T'.L := fun x o e n q => by
    rcases a.freshL x q with z | z
    · exact n z
    · rw [z] at e; cases e
  have gone : ∀ x, H' x = none → x ∈ T.L ∨ H x = none := fun x z => by
    by_cases hl : x ∈ T.L
    · exact .inl hl
    · cases q : H x with
      | none => exact .inr rfl
      | some o =>
        by_cases ht : ∃ ps, o = .tbl ps
        · obtain ⟨ps, rfl⟩ := ht
          obtain ⟨ps', e⟩ := a.kt x ps q hl
          rw [e] at z; cases z
        · rw [a.keep x o q hl fun ps e => ht ⟨ps, e⟩] at z; cases z
  refine ⟨?_, fun x hx => b.more x (a.more x hx), fun x hx => ?_, fun x hx => ?_, fun x o e n ht => b.keep x o (a.keep x o e n ht) (k x o e n) ht, fun x ps e n => ?_, b.tq.trans a.tq, fun x q xs e => b.lk x q xs (a.lk x q xs e)⟩
  · obtain ⟨M, q⟩ := a.pre
    obtain ⟨M', q'⟩ := b.pre
    exact ⟨M ++ M', by rw [q', q, List.append_assoc]⟩
  · rcases b.fresh x hx with z | z
    · exact a.fresh x z
    · exact (gone x z).imp (m.sub x) id
  · rcases b.freshL x hx with z | z
    · exact a.freshL x z
    · exact gone x z
  · obtain ⟨ps', e'⟩ := a.kt x ps e n
    exact b.kt x ps' e' (k x _ e n)
theorem Le.rd {a : Addr} {u : HO} (l : Le T H T' H') (m : Mu T H) (r : Rd H a u) (n : ¬ T.B a) (hu : ∀ ps, u ≠ .tbl ps := by exact fun _ z => nomatch z) : Rd H' a u ∧ ¬ T'.B a := by
  rcases r with r | ⟨o, r⟩
  · exact ⟨.inl (l.keep _ _ r (m.out n) hu), l.not r n⟩
  · exact ⟨.inr ⟨o, l.keep _ _ r (m.out n) fun _ z => nomatch z⟩, l.not r n⟩
theorem Mu.nt (m : Mu T H) {a : Addr} {xs : List V} (e : Rd H a (.tup xs)) : ¬ T.B a := fun q => by
  rcases e with e | ⟨o, e⟩
  · obtain ⟨ys, z | ⟨_, z | ⟨_, z⟩⟩⟩ := m.occ a q <;> (rw [e] at z; cases z)
  · obtain ⟨ys, z | ⟨_, z | ⟨_, z⟩⟩⟩ := m.occ a q <;> (rw [e] at z; cases z)
theorem Le.sqT (l : Le T H T' H') (m : Mu T H) {a : Addr} {xs : List V} (e : SqT K H a xs) : SqT K H' a xs := by
  rcases e with e | e
  · exact .inl (l.rd m e (m.nt e)).1
  · exact .inr e
theorem Le.xt (l : Le T H T' H') (m : Mu T H) {a : Addr} {xs : List V} (e : XT K H a xs) : XT K H' a xs := by
  rcases e with ⟨o, e, d⟩ | e
  · refine .inl ⟨o, l.keep _ _ e (fun q => ?_) (fun _ z => nomatch z), d⟩
    obtain ⟨ys, z | ⟨_, z | ⟨_, z⟩⟩⟩ := m.occ a (m.sub a q) <;> (rw [e] at z; cases z)
  · exact .inr e
mutual
theorem rel_mono (l : Le T H T' H') (m : Mu T H) : ∀ (d : D) (v : V), rel K T H d v → rel K T' H' d v
  | .non, v, r => by unfold rel at r ⊢; exact r
  | .bl b, v, r => by unfold rel at r ⊢; exact r
  | .int i, v, r => by unfold rel at r ⊢; exact r
  | .str s, v, r => by unfold rel at r ⊢; exact r
  | .ty s, v, r => by unfold rel at r ⊢; exact r
  | .xc s, v, r => by
    unfold rel at r ⊢
    obtain ⟨a, C, e, n, h⟩ := r
    exact ⟨a, C, e, n, l.keep _ _ h (fun q => by
      obtain ⟨xs, z | ⟨ys, z | ⟨_, z⟩⟩⟩ := m.occ a (m.sub a q) <;> (rw [h] at z; cases z)) fun ps => ExT.nt⟩
  | .tup ds, v, r => by
    unfold rel at r ⊢
    obtain ⟨a, vs, e, s, q⟩ := r
    exact ⟨a, vs, e, l.xt m s, rels_mono l m ds vs q⟩
  | .tux ds, v, r => by
    unfold rel at r ⊢
    obtain ⟨a, vs, e, s, q⟩ := r
    exact ⟨a, vs, e, l.sqT m s, rels_mono l m ds vs q⟩
  | .lst ds, v, r => by
    unfold rel at r ⊢
    obtain ⟨a, vs, e, s, n, q⟩ := r
    exact ⟨a, vs, e, l.keep _ _ s (m.out n) (fun _ z => nomatch z), l.not s n, rels_mono l m ds vs q⟩
  | .frz ds, v, r => by
    unfold rel at r ⊢
    obtain ⟨a, vs, e, s, q⟩ := r
    refine ⟨a, vs, e, ?_, rels_mono l m ds vs q⟩
    rcases s with ⟨s, n⟩ | s
    · exact .inl (l.rd m s n)
    · exact .inr s
  | .dic ds, v, r => by
    unfold rel at r ⊢
    obtain ⟨a, vs, e, s, n, q⟩ := r
    exact ⟨a, vs, e, l.keep _ _ s (m.out n) (fun _ z => nomatch z), l.not s n, relk_mono l m ds vs q⟩
  | .ref i, v, r => by
    unfold rel at r ⊢
    obtain ⟨a, e, q⟩ := r
    exact ⟨a, e, l.get q⟩
theorem rels_mono (l : Le T H T' H') (m : Mu T H) : ∀ (ds : List D) (vs : List V), rels K T H ds vs → rels K T' H' ds vs
  | [], vs, r => by unfold rels at r ⊢; exact r
  | d :: ds, vs, r => by
    unfold rels at r ⊢
    obtain ⟨v, t, e, r1, r2⟩ := r
    exact ⟨v, t, e, rel_mono l m d v r1, rels_mono l m ds t r2⟩
theorem relk_mono (l : Le T H T' H') (m : Mu T H) : ∀ (ds : List (Sum Int String × D)) (vs : List (Key × V)), relk K T H ds vs → relk K T' H' ds vs
  | [], vs, r => by unfold relk at r ⊢; exact r
  | (k, d) :: ds, vs, r => by
    unfold relk at r ⊢
    obtain ⟨v, t, e, r1, r2⟩ := r
    exact ⟨v, t, e, rel_mono l m d v r1, relk_mono l m ds t r2⟩
end
theorem relE_mono (l : Le T H T' H') (m : Mu T H) {env : En} {σ : L2.St} (r : relE K T H env σ) : relE K T' H' env σ :=
  ⟨r.1, fun i d e => let ⟨v, e1, q⟩ := r.2 i d e; ⟨v, e1, rel_mono l m d v q⟩⟩
theorem relO_mono (l : Le T H T' H') (m : Mu T H) {a : Addr} {x : O} (e : H' a = H a) (r : relO K T H a x) : relO K T' H' a x := by
  cases x with
  | lst ds => obtain ⟨vs, q, rr⟩ := r; exact ⟨vs, by rw [e]; exact q, rels_mono l m ds vs rr⟩
  | dic ds => obtain ⟨vs, q, rr⟩ := r; exact ⟨vs, by rw [e]; exact q, relk_mono l m ds vs rr⟩
  | lkd ds => obtain ⟨vs, q, rr⟩ := r; exact ⟨vs, by rw [e]; exact q, relk_mono l m ds vs rr⟩
theorem rels_length : ∀ {ds : List D} {vs : List V}, rels K T H ds vs → vs.length = ds.length
  | [], vs, r => by unfold rels at r; rw [r]; rfl
  | d :: ds, vs, r => by
    unfold rels at r
    obtain ⟨v, t, e, _, r2⟩ := r
    rw [e, List.length_cons, List.length_cons, rels_length r2]
theorem rels_nil : rels K T H [] [] := by unfold rels; rfl
theorem rels_cons {d : D} {ds : List D} {v : V} {vs : List V} (a : rel K T H d v) (b : rels K T H ds vs) : rels K T H (d :: ds) (v :: vs) := by
  unfold rels; exact ⟨v, vs, rfl, a, b⟩
theorem rels_append {ds es : List D} {vs ws : List V} (a : rels K T H ds vs) (b : rels K T H es ws) : rels K T H (ds ++ es) (vs ++ ws) := by
  induction ds generalizing vs with
  | nil => unfold rels at a; subst a; exact b
  | cons d ds ih =>
    unfold rels at a
    obtain ⟨v, t, e, r1, r2⟩ := a
    subst e
    exact rels_cons r1 (ih r2)
theorem rels_get {ds : List D} {vs : List V} (a : rels K T H ds vs) : ∀ {i : Nat} {d : D}, ds[i]? = some d → ∃ v, vs[i]? = some v ∧ rel K T H d v := by
  induction ds generalizing vs with
  | nil => intro i d e; simp at e
  | cons d ds ih =>
    intro i d' e
    unfold rels at a
    obtain ⟨v, t, e1, r1, r2⟩ := a
    subst e1
    cases i with
    | zero => simp at e; subst e; exact ⟨v, by simp, r1⟩
    | succ i => simpa using ih r2 (by simpa using e)
theorem rels_take {ds : List D} {vs : List V} (n : Nat) (a : rels K T H ds vs) : rels K T H (ds.take n) (vs.take n) := by
  induction ds generalizing vs n with
  | nil => unfold rels at a; subst a; simpa using rels_nil
  | cons d ds ih =>
    unfold rels at a
    obtain ⟨v, t, e1, r1, r2⟩ := a
    subst e1
    cases n with
    | zero => simpa using rels_nil
    | succ n => simpa using rels_cons r1 (ih n r2)
theorem rels_drop {ds : List D} {vs : List V} (n : Nat) (a : rels K T H ds vs) : rels K T H (ds.drop n) (vs.drop n) := by
  induction ds generalizing vs n with
  | nil => unfold rels at a; subst a; simpa using rels_nil
  | cons d ds ih =>
    have a0 := a
    unfold rels at a
    obtain ⟨v, t, e1, r1, r2⟩ := a
    subst e1
    cases n with
    | zero => simpa using a0
    | succ n => simpa using ih n r2
theorem rels_reverse {ds : List D} {vs : List V} (a : rels K T H ds vs) : rels K T H ds.reverse vs.reverse := by
  induction ds generalizing vs with
  | nil => unfold rels at a; subst a; simpa using rels_nil
  | cons d ds ih =>
    unfold rels at a
    obtain ⟨v, t, e1, r1, r2⟩ := a
    subst e1
    simpa using rels_append (ih r2) (rels_cons r1 rels_nil)
theorem rels_set {ds : List D} {vs : List V} {d : D} {v : V} (a : rels K T H ds vs) (b : rel K T H d v) (i : Nat) : rels K T H (ds.set i d) (vs.set i v) := by
  induction ds generalizing vs i with
  | nil => unfold rels at a; subst a; simpa using rels_nil
  | cons d ds ih =>
    unfold rels at a
    obtain ⟨v, t, e1, r1, r2⟩ := a
    subst e1
    cases i with
    | zero => simpa using rels_cons b r2
    | succ i => simpa using rels_cons r1 (ih r2 i)
theorem Le.new {p : Addr} {o : HO} (hp : H p = none) : Le T H T (upd H p o) := ⟨⟨[], by simp⟩, fun _ h => h, fun _ h => .inl h, fun _ h => .inl h, fun a u e _ _ => by rw [upd_ne (ne_of_none e hp)]; exact e, fun a ps e _ => ⟨ps, by rw [upd_ne (ne_of_none e hp)]; exact e⟩, rfl, fun a q xs e => by rw [upd_ne (ne_of_none e hp)]; exact e⟩
/-- the tables stay where another object is written -/
theorem tabs_upd {Q : List (Addr × Str)} {H : Hp} {a : Addr} {o : HO} (t : LamX.Tabs Q H) (n : ∀ u, H a = some u → ∃ xs, u = .lst xs ∨ ∃ ys, u = .dK ys ∨ ∃ o, u = .frz o (.dK ys)) : LamX.Tabs Q (upd H a o) := fun p hp => by
  obtain ⟨ps, e, tr, c⟩ := t p hp
  have ne : ∀ b u, H b = some u → (∀ xs, u ≠ .lst xs) → (∀ xs, u ≠ .dK xs) → (∀ o xs, u ≠ .frz o (.dK xs)) → b ≠ a := fun b u e n1 n2 n3 z => by
    rw [z] at e
    obtain ⟨xs, w | ⟨ys, w | ⟨o, w⟩⟩⟩ := n u e
    · exact n1 _ w
    · exact n2 _ w
    · exact n3 _ _ w
  refine ⟨ps, by rw [upd_ne (ne _ _ e (fun _ z => nomatch z) (fun _ z => nomatch z) (fun _ _ z => nomatch z))]; exact e, tr, fun pos cv h => ?_⟩
  obtain ⟨c, e1, e2⟩ := c pos cv h
  exact ⟨c, e1, by rw [upd_ne (ne _ _ e2 (fun _ z => nomatch z) (fun _ z => nomatch z) (fun _ _ z => nomatch z))]; exact e2⟩
theorem tabs_new {Q : List (Addr × Str)} {H : Hp} {a : Addr} {o : HO} (t : LamX.Tabs Q H) (n : H a = none) : LamX.Tabs Q (upd H a o) := tabs_upd t fun u e => by rw [n] at e; cases e
theorem RelH.new {p : Addr} {o : HO} (r : RelH K T H h) (hp : H p = none) : RelH K T (upd H p o) h :=
  ⟨r.len, r.nd, fun i x e => by
    obtain ⟨a, e1, q⟩ := r.at_ i x e
    refine ⟨a, e1, relO_mono (Le.new hp) r.mut (upd_ne ?_) q⟩
    cases x with
    | lst ds => obtain ⟨vs, q, _⟩ := q; exact ne_of_none q hp
    | dic ds => obtain ⟨vs, q, _⟩ := q; exact ne_of_none q hp
    | lkd ds => obtain ⟨vs, ⟨_, q⟩, _⟩ := q; exact ne_of_none q hp, r.sub, fun a ha => by
    obtain ⟨xs, z | ⟨ys, z | ⟨o', z⟩⟩⟩ := r.occ a ha
    · exact ⟨xs, .inl (by rw [upd_ne (ne_of_none z hp)]; exact z)⟩
    · exact ⟨xs, .inr ⟨ys, .inl (by rw [upd_ne (ne_of_none z hp)]; exact z)⟩⟩
    · exact ⟨xs, .inr ⟨ys, .inr ⟨o', by rw [upd_ne (ne_of_none z hp)]; exact z⟩⟩⟩, tabs_new r.tabs hp⟩
end

/-! ### readings -/
/-- behind a value -/
def After (K : PySem.W.Frag) (mg : Str → Option Value) (W : WX) (T : Tk) (H : Hp) (σ : L2.St) {α β : Type} (q : Tk → Hp → α → β → Prop) (Q : β → Hp → Prop) : R α → Prop
  | .ok d h' => ∀ T' H' v, Le T H T' H' → RelH K T' H' h' → q T' H' d v → Q v H'
  | .exc c h' => ∀ C T' H', mg (Str.ofString c) = some C → Le T H T' H' → RelH K T' H' h' → W C none σ H'
  | .stuck => False
def rdG (K : PySem.W.Frag) (mg : Str → Option Value) (W : WX) {α β : Type} (q : Tk → Hp → α → β → Prop) (f : En → HH → R α) (σ : L2.St) (H : Hp) (Q : β → Hp → Prop) : Prop :=
  ∃ T env h, RelH K T H h ∧ relE K T H env σ ∧ After K mg W T H σ q Q (f env h)
abbrev relB : Tk → Hp → Bool → Bool → Prop := fun _ _ a b => a = b
def rd (X : Cx) (W : WX) (f : Ex) : TE := rdG X.K X.mg W (rel X.K) f
def rds (X : Cx) (W : WX) (f : Exs) : TA := rdG X.K X.mg W (rels X.K) f
def rdt (X : Cx) (W : WX) (f : Et) : TT := rdG X.K X.mg W relB f

def R.bind {α β : Type} (x : R α) (k : α → HH → R β) : R β := match x with
  | .ok a h => k a h
  | .exc c h => .exc c h
  | .stuck => .stuck

section
variable {K : PySem.W.Frag} {mg : Str → Option Value} {W : WX} {T : Tk} {H : Hp} {h : HH} {σ : L2.St} {α β γ δ : Type} {q : Tk → Hp → α → β → Prop} {q2 : Tk → Hp → γ → δ → Prop}
/-- as After.bind, what is left is told from the start -/
theorem After.bind0 {r : R α} {g : α → HH → R γ} {Q : δ → Hp → Prop} {P : β → Hp → Prop} (a : After K mg W T H σ q2 Q (r.bind g))
    (hT : ∀ d h' T' H' v, r = .ok d h' → Le T H T' H' → RelH K T' H' h' → q T' H' d v → After K mg W T H σ q2 Q (g d h') → P v H') : After K mg W T H σ q P r := by
  revert a hT
  cases r with
  | ok d h' => exact fun a hT T' H' v l rr qq => hT d h' T' H' v rfl l rr qq a
  | exc c h' => exact fun a _ => a
  | stuck => exact fun a _ => a
/-- from a later place -/
theorem After.later {r : R γ} {T' : Tk} {H' : Hp} {Q : δ → Hp → Prop} (a : After K mg W T H σ q2 Q r) (l : Le T H T' H') (m : Mu T H) : After K mg W T' H' σ q2 Q r := by
  revert a
  cases r with
  | ok d2 h2 => exact fun a' T2 H2 v2 l2 rr qq2 => a' T2 H2 v2 (l.trans m l2) rr qq2
  | exc c h2 => exact fun a' C T2 H2 hm l2 rr => a' C T2 H2 hm (l.trans m l2) rr
  | stuck => exact fun a' => a'
/-- one behind the other: the first part's reading, then the rest from there -/
theorem After.bind {r : R α} {g : α → HH → R γ} {Q : δ → Hp → Prop} {P : β → Hp → Prop} (a : After K mg W T H σ q2 Q (r.bind g)) (m : Mu T H)
    (hT : ∀ d h' T' H' v, r = .ok d h' → Le T H T' H' → RelH K T' H' h' → q T' H' d v → After K mg W T' H' σ q2 Q (g d h') → P v H') : After K mg W T H σ q P r :=
  a.bind0 fun d h' T' H' v e l rr qq a' => hT d h' T' H' v e l rr qq (a'.later l m)
/-- a part that is done at once -/
theorem After.done {d : α} {v : β} {Q : β → Hp → Prop} (a : After K mg W T H σ q Q (.ok d h)) (r : RelH K T H h) (hq : q T H d v) : Q v H := a T H v Le.refl r hq
/-- a new object that is not tracked as changing -/
theorem After.new {d : α} {v : β} {Q : β → Hp → Prop} {p : Addr} {o : HO} (a : After K mg W T H σ q Q (.ok d h)) (r : RelH K T H h) (hp : H p = none) (hq : q T (upd H p o) d v) : Q v (upd H p o) :=
  a T (upd H p o) v (Le.new hp) (r.new hp) hq
end
theorem PE.mono {X : Cx} {e : Expr} {t t' : TE} (h : PE X e t) (i : ∀ σ H Q, t' σ H Q → t σ H Q) : PE X e t' := ⟨fun pins s σ H Q I hq => h.run pins s σ H Q I (i σ H Q hq)⟩
theorem PT.mono {X : Cx} {e : Expr} {t t' : TT} (h : PT X e t) (i : ∀ σ H Q, t' σ H Q → t σ H Q) : PT X e t' := ⟨fun pins s σ H Q I hq => h.run pins s σ H Q I (i σ H Q hq)⟩
theorem PW.mono {X : Cx} {e : Expr} {t t' : TT} (h : PW X e t) (i : ∀ σ H Q, t' σ H Q → t σ H Q) : PW X e t' := ⟨fun w pins s σ H Q I hq => h.run w pins s σ H Q I (i σ H Q hq)⟩
theorem PA.mono {X : Cx} {e : List Expr} {t t' : TA} (h : PA X e t) (i : ∀ σ H Q, t' σ H Q → t σ H Q) : PA X e t' := ⟨fun pos pins s σ H Q I hq => h.run pos pins s σ H Q I (i σ H Q hq)⟩
theorem PS.mono {X : Cx} {e : Stmt} {t t' : TS} (h : PS X e t) (i : ∀ D σ H, t' D σ H → t D σ H) : PS X e t' := ⟨fun pins s σ H Q I hq => h.run pins s σ H Q I (i Q σ H hq)⟩
theorem PSs.mono {X : Cx} {e : List Stmt} {t t' : TS} (h : PSs X e t) (i : ∀ D σ H, t' D σ H → t D σ H) : PSs X e t' := ⟨fun pins s σ H Q I hq => h.run pins s σ H Q I (i Q σ H hq)⟩
end Pu

namespace Pu
open PySem PySem.Spec PyProof.Rows L2

/-- what a body's derivation may lean on -/
structure Cok (X : Cx) (W : WX) (k : Nat) : Prop where
  calm : X.calm = true
  tk : Takes X W
  po : PassesOwn (model X.prog X.w) X.A X.env X.xe
  hr : Room k X.A
  gd : X.A.guards = some []

abbrev SE (X : Cx) (W : WX) (e : Expr) (f : Ex) : Prop := PE X e (rd X W f)
abbrev ST (X : Cx) (W : WX) (e : Expr) (f : Et) : Prop := PT X e (rdt X W f)
abbrev SW (X : Cx) (W : WX) (e : Expr) (f : Et) : Prop := PW X e (rdt X W f)
structure SA (X : Cx) (W : WX) (es : List Expr) (f : Exs) : Prop where
  pa : PA X es (rds X W f)
  len : ∀ env h ds h', f env h = .ok ds h' → ds.length = es.length

/-! ### names, constants, argument lists -/
def eC (d : D) : Ex := fun _ h => .ok d h
def eV (i : Nat) : Ex := fun env h => match env[i]? with
  | some (some d) => .ok d h
  | _ => .stuck
def aNil : Exs := fun _ h => .ok [] h
def aCons (f : Ex) (g : Exs) : Exs := fun env h => (f env h).bind fun a h1 => (g env h1).bind fun r h2 => .ok (a :: r) h2

section
variable {X : Cx} {W : WX}
theorem rd_const {d : D} {v : V} (hd : ∀ T H, rel X.K T H d v) {σ : L2.St} {H : Hp} {Q : VK} (h : rd X W (eC d) σ H Q) : tC v σ H Q := by
  obtain ⟨T, env, hh, r1, r2, a⟩ := h
  exact a.done r1 (hd T H)
theorem se_of {e : Expr} {d : D} {v : V} (h : PE X e (tC v)) (hd : ∀ T H, rel X.K T H d v) : SE X W e (eC d) := PE.mono h fun _ _ _ => rd_const hd
theorem se_int {i j pos} : SE X W (.Constant (.int i) j pos) (eC (.int i)) := se_of pe_int fun _ _ => by unfold rel; rfl
theorem se_bl {b j pos} : SE X W (.Constant (.bool b) j pos) (eC (.bl b)) := se_of pe_bl fun _ _ => by unfold rel; rfl
theorem se_non {j pos} : SE X W (.Constant .none j pos) (eC .non) := se_of pe_non fun _ _ => by unfold rel; rfl
theorem se_str {x : String} {y : Str} {j pos} (h : y = Str.ofString x := by rfl) : SE X W (.Constant (.str y) j pos) (eC (.str x)) := se_of pe_str fun _ _ => by unfold rel; rw [h]
theorem se_var {i : Nat} {x : Str} {pos : Pos} (hN : X.N[i]? = some x) (hv : Vis X.env.scope x) (hd : (x == ("__debug__" : Str)) = false := by decide) (hcd : (x == ("__classdict__" : Str)) = false := by decide) : SE X W (.Name x pos) (eV i) :=
  PE.mono (pe_var hN hv hd hcd) fun σ H Q h => by
    obtain ⟨T, env, hh, r1, r2, a⟩ := h
    unfold eV at a
    split at a
    · rename_i d e
      obtain ⟨v, e1, q⟩ := r2.2 i d e
      exact ⟨v, e1, a.done r1 q⟩
    · exact a.elim
theorem se_glob {x : Str} {v : V} {d : D} {u : Value} {pos : Pos} (hg : Gl X x) (hm : X.mg x = some u) (r : RelV v u) (hd : ∀ T H, rel X.K T H d v) (hdb : (x == ("__debug__" : Str)) = false := by decide) : SE X W (.Name x pos) (eC d) :=
  se_of (pe_glob hg hm r hdb) hd

theorem sa_nil : SA X W [] aNil := by
  refine ⟨PA.mono pa_nil fun σ H Q h => ?_, fun env h ds h' e => ?_⟩
  · obtain ⟨T, env, hh, r1, r2, a⟩ := h
    exact a.done r1 rels_nil
  · cases e; rfl
theorem R.bind_ok {α β : Type} {r : R α} {k : α → HH → R β} {b : β} {h' : HH} (e : r.bind k = .ok b h') : ∃ a h, r = .ok a h ∧ k a h = .ok b h' := by
  cases r with
  | ok a h => exact ⟨a, h, rfl, e⟩
  | exc c h => cases e
  | stuck => cases e
theorem sa_cons {e : Expr} {es : List Expr} {f : Ex} {g : Exs} (ha : SE X W e f) (hr : SA X W es g) (hs : starEach (e :: es) X.env = (false, eval e X.env) :: starEach es X.env := by rfl) : SA X W (e :: es) (aCons f g) := by
  refine ⟨PA.mono (pa_cons ha hr.pa hs) fun σ H Q h => ?_, fun env h ds h' e => ?_⟩
  · obtain ⟨T, env, hh, r1, r2, a⟩ := h
    refine ⟨T, env, hh, r1, r2, a.bind r1.mut fun d h1 L1 H1 v _ l1 q1 rv a1 => ?_⟩
    refine ⟨L1, env, h1, q1, relE_mono l1 r1.mut r2, a1.bind q1.mut fun ds h2 L2 H2 vs _ l2 q2 rvs a2 => ?_⟩
    exact a2.done q2 (rels_cons (rel_mono l2 q1.mut d v rv) rvs)
  · obtain ⟨a, h1, e1, e⟩ := R.bind_ok e
    obtain ⟨r, h2, e2, e⟩ := R.bind_ok e
    cases e
    rw [List.length_cons, List.length_cons, hr.len _ _ _ _ e2]
end

/-! ### displays -/
def qF (K : PySem.W.Frag) (G : Hp) : Tk → Hp → List D → V → Prop := fun T H ds v => ∃ a vs, v = .ref a ∧ H a = some (.lst vs) ∧ a ∉ T.L ∧ T.B a ∧ G a = none ∧ rels K T H ds vs
/-- a list that was just made -/
def rdF (X : Cx) (W : WX) (f : Exs) : TE := fun σ H Q => rdG X.K X.mg W (qF X.K H) f σ H Q
abbrev SF (X : Cx) (W : WX) (e : Expr) (f : Exs) : Prop := PE X e (rdF X W f)
def eTup (g : Exs) : Ex := fun env h => (g env h).bind fun ds h1 => .ok (.tup ds) h1
def eVal (g : Exs) : Ex := fun env h => (g env h).bind fun ds h1 => .ok (.lst ds) h1
def eNew (g : Exs) : Ex := fun env h => (g env h).bind fun ds h1 => .ok (.ref h1.length) (h1 ++ [.lst ds])

section
variable {K : PySem.W.Frag} {mg : Str → Option Value} {W : WX} {T T' T1 : Tk} {H H' H1 : Hp} {h : HH} {σ : L2.St} {a : Addr}
theorem rel_tup {ds : List D} {vs : List V} {p : Addr} {o : Obj} (e : H p = some (.frz o (.tup vs))) (d : o.dict = none) (r : rels K T H ds vs) : rel K T H (.tup ds) (.ref p) := by
  unfold rel; exact ⟨p, vs, rfl, .inl ⟨o, e, d⟩, r⟩
theorem rel_tux {ds : List D} {vs : List V} {p : Addr} (e : H p = some (.tup vs)) (r : rels K T H ds vs) : rel K T H (.tux ds) (.ref p) := by
  unfold rel; exact ⟨p, vs, rfl, SqT.of e, r⟩
theorem rel_lst {ds : List D} {vs : List V} {p : Addr} (e : H p = some (.lst vs)) (n : ¬ T.B p) (r : rels K T H ds vs) : rel K T H (.lst ds) (.ref p) := by
  unfold rel; exact ⟨p, vs, rfl, e, n, r⟩
/-- blocked -/
def Tk.blk (T : Tk) (a : Addr) : Tk := ⟨T.L, fun b => T.B b ∨ b = a, T.Q⟩
/-- told as changing -/
def Tk.add (T : Tk) (a : Addr) : Tk := ⟨T.L ++ [a], fun b => T.B b ∨ b = a, T.Q⟩
/-- no longer blocked -/
def Tk.un (T : Tk) (a : Addr) : Tk := ⟨T.L, fun b => T.B b ∧ b ≠ a, T.Q⟩
/-- a list or a dict -/
def LD (o : HO) : Prop := ∃ xs, o = .lst xs ∨ ∃ ys, o = .dK ys ∨ ∃ q, o = .frz q (.dK ys)
theorem LD.lst {xs} : LD (.lst xs) := ⟨xs, .inl rfl⟩
theorem LD.dK {xs} : LD (.dK xs) := ⟨[], .inr ⟨xs, .inl rfl⟩⟩
theorem LD.lk {o xs} : LD (.frz o (.dK xs)) := ⟨[], .inr ⟨xs, .inr ⟨o, rfl⟩⟩⟩
theorem LD.at {o : HO} (l : LD o) {H : Hp} {a : Addr} (e : H a = some o) : ∃ xs, H a = some (.lst xs) ∨ ∃ xs, H a = some (.dK xs) ∨ ∃ o, H a = some (.frz o (.dK xs)) := by
  obtain ⟨xs, z | ⟨ys, z | ⟨q, z⟩⟩⟩ := l
  · exact ⟨xs, .inl (z ▸ e)⟩
  · exact ⟨[], .inr ⟨ys, .inl (z ▸ e)⟩⟩
  · exact ⟨[], .inr ⟨ys, .inr ⟨q, z ▸ e⟩⟩⟩
theorem Le.blk {o : HO} (n : H a = none) : Le T H (T.blk a) (upd H a o) :=
  ⟨⟨[], by simp [Tk.blk]⟩, fun _ h => .inl h, fun b h => h.imp id fun e => by rw [e]; exact n, fun _ h => .inl h, fun b u e _ _ => by rw [upd_ne (ne_of_none e n)]; exact e, fun b ps e _ => ⟨ps, by rw [upd_ne (ne_of_none e n)]; exact e⟩, rfl, fun b q xs e => by rw [upd_ne (ne_of_none e n)]; exact e⟩
theorem RelH.blk {o : HO} (r : RelH K T H h) (n : H a = none) (ho : LD o := by first | exact LD.lst | exact LD.dK) : RelH K (T.blk a) (upd H a o) h := by
  refine ⟨r.len, r.nd, fun i x e => ?_, fun b hb => .inl (r.sub b hb), fun b hb => ?_, tabs_new r.tabs n⟩
  · obtain ⟨b, e1, q⟩ := r.at_ i x e
    refine ⟨b, e1, relO_mono (Le.blk n) r.mut (upd_ne ?_) q⟩
    cases x with
    | lst ds => obtain ⟨vs, q, _⟩ := q; exact ne_of_none q n
    | dic ds => obtain ⟨vs, q, _⟩ := q; exact ne_of_none q n
    | lkd ds => obtain ⟨vs, ⟨_, q⟩, _⟩ := q; exact ne_of_none q n
  · rcases hb with hb | hb
    · obtain ⟨xs, z | ⟨ys, z | ⟨o', z⟩⟩⟩ := r.occ b hb
      · exact ⟨xs, .inl (by rw [upd_ne (ne_of_none z n)]; exact z)⟩
      · exact ⟨xs, .inr ⟨ys, .inl (by rw [upd_ne (ne_of_none z n)]; exact z)⟩⟩
      · exact ⟨xs, .inr ⟨ys, .inr ⟨o', by rw [upd_ne (ne_of_none z n)]; exact z⟩⟩⟩
    · exact ho.at (by rw [hb, upd_same])
mutual
/-- what is blocked is leant on by no value: it may be written -/
theorem rel_bw {o : HO} (m : Mu T H) (hb : T.B a) : ∀ (d : D) (v : V), rel K T H d v → rel K T (upd H a o) d v
  | .non, v, r => by unfold rel at r ⊢; exact r
  | .bl b, v, r => by unfold rel at r ⊢; exact r
  | .int i, v, r => by unfold rel at r ⊢; exact r
  | .str s, v, r => by unfold rel at r ⊢; exact r
  | .ty s, v, r => by unfold rel at r ⊢; exact r
  | .xc s, v, r => by
    unfold rel at r ⊢
    obtain ⟨b, C, e, n, h⟩ := r
    refine ⟨b, C, e, n, ?_⟩
    rw [upd_ne (a := a) (b := b)]
    · exact h
    · intro z
      rw [z] at h
      obtain ⟨xs, w | ⟨ys, w | ⟨_, w⟩⟩⟩ := m.occ a hb <;> (rw [h] at w; cases w)
  | .ref i, v, r => by unfold rel at r ⊢; exact r
  | .tup ds, v, r => by
    unfold rel at r ⊢
    obtain ⟨b, vs, e, s, q⟩ := r
    refine ⟨b, vs, e, ?_, rels_bw m hb ds vs q⟩
    rcases s with ⟨o, s, d⟩ | s
    · have n : b ≠ a := fun z => m.nt (.inr ⟨o, s⟩) (z ▸ hb)
      exact .inl ⟨o, by rw [upd_ne n]; exact s, d⟩
    · exact .inr s
  | .tux ds, v, r => by
    unfold rel at r ⊢
    obtain ⟨b, vs, e, s, q⟩ := r
    refine ⟨b, vs, e, ?_, rels_bw m hb ds vs q⟩
    rcases s with s | s
    · have n : b ≠ a := fun z => m.nt s (z ▸ hb)
      rcases s with s | ⟨x, s⟩
      · exact .inl (.inl (by rw [upd_ne n]; exact s))
      · exact .inl (.inr ⟨x, by rw [upd_ne n]; exact s⟩)
    · exact .inr s
  | .lst ds, v, r => by
    unfold rel at r ⊢
    obtain ⟨b, vs, e, s, n, q⟩ := r
    exact ⟨b, vs, e, by rw [upd_ne (a := a) (b := b) (fun z => n (by rw [z]; exact hb))]; exact s, n, rels_bw m hb ds vs q⟩
  | .frz ds, v, r => by
    unfold rel at r ⊢
    obtain ⟨b, vs, e, s, q⟩ := r
    refine ⟨b, vs, e, ?_, rels_bw m hb ds vs q⟩
    rcases s with ⟨s, n⟩ | s
    · have nb : b ≠ a := fun z => n (z ▸ hb)
      rcases s with s | ⟨x, s⟩
      · exact .inl ⟨.inl (by rw [upd_ne nb]; exact s), n⟩
      · exact .inl ⟨.inr ⟨x, by rw [upd_ne nb]; exact s⟩, n⟩
    · exact .inr s
  | .dic ds, v, r => by
    unfold rel at r ⊢
    obtain ⟨b, vs, e, s, n, q⟩ := r
    exact ⟨b, vs, e, by rw [upd_ne (a := a) (b := b) (fun z => n (by rw [z]; exact hb))]; exact s, n, relk_bw m hb ds vs q⟩
theorem rels_bw {o : HO} (m : Mu T H) (hb : T.B a) : ∀ (ds : List D) (vs : List V), rels K T H ds vs → rels K T (upd H a o) ds vs
  | [], vs, r => by unfold rels at r ⊢; exact r
  | d :: ds, vs, r => by
    unfold rels at r ⊢
    obtain ⟨v, t, e, r1, r2⟩ := r
    exact ⟨v, t, e, rel_bw m hb d v r1, rels_bw m hb ds t r2⟩
theorem relk_bw {o : HO} (m : Mu T H) (hb : T.B a) : ∀ (ds : List (Sum Int String × D)) (vs : List (Key × V)), relk K T H ds vs → relk K T (upd H a o) ds vs
  | [], vs, r => by unfold relk at r ⊢; exact r
  | (k, d) :: ds, vs, r => by
    unfold relk at r ⊢
    obtain ⟨v, t, e, r1, r2⟩ := r
    exact ⟨v, t, e, rel_bw m hb d v r1, relk_bw m hb ds t r2⟩
end
theorem relE_bw {o : HO} (m : Mu T H) (hb : T.B a) {env : En} {σ : L2.St} (r : relE K T H env σ) : relE K T (upd H a o) env σ :=
  ⟨r.1, fun i d e => let ⟨v, e1, q⟩ := r.2 i d e; ⟨v, e1, rel_bw m hb d v q⟩⟩
theorem RelH.bw {o : HO} (r : RelH K T H h) (hb : T.B a) (hl : a ∉ T.L) (ho : LD o) : RelH K T (upd H a o) h := by
  refine ⟨r.len, r.nd, fun i x e => ?_, r.sub, fun b hB => ?_, tabs_upd r.tabs fun u e => by
    obtain ⟨xs, z | ⟨ys, z | ⟨o', z⟩⟩⟩ := r.occ a hb <;> rw [e] at z <;> cases z
    · exact ⟨_, .inl rfl⟩
    · exact ⟨[], .inr ⟨_, .inl rfl⟩⟩
    · exact ⟨[], .inr ⟨_, .inr ⟨_, rfl⟩⟩⟩⟩
  · obtain ⟨b, e1, q⟩ := r.at_ i x e
    have nb : b ≠ a := fun z => hl (z ▸ List.mem_of_getElem? e1)
    refine ⟨b, e1, ?_⟩
    cases x with
    | lst ds => obtain ⟨vs, q, rr⟩ := q; exact ⟨vs, by rw [upd_ne nb]; exact q, rels_bw r.mut hb ds vs rr⟩
    | dic ds => obtain ⟨vs, q, rr⟩ := q; exact ⟨vs, by rw [upd_ne nb]; exact q, relk_bw r.mut hb ds vs rr⟩
    | lkd ds => obtain ⟨vs, q, rr⟩ := q; exact ⟨vs, by rw [upd_ne nb]; exact q, relk_bw r.mut hb ds vs rr⟩
  · by_cases z : b = a
    · exact ho.at (by rw [z, upd_same])
    · obtain ⟨xs, q | ⟨ys, q | ⟨o', q⟩⟩⟩ := r.occ b hB
      · exact ⟨xs, .inl (by rw [upd_ne z]; exact q)⟩
      · exact ⟨xs, .inr ⟨ys, .inl (by rw [upd_ne z]; exact q)⟩⟩
      · exact ⟨xs, .inr ⟨ys, .inr ⟨o', by rw [upd_ne z]; exact q⟩⟩⟩
/-- an object that changes is written -/
theorem Le.wr {o : HO} (hl : a ∈ T.L) (nf : ∀ q xs, H a ≠ some (.frz q (.dK xs))) : Le T H T (upd H a o) := ⟨⟨[], by simp⟩, fun _ h => h, fun _ h => .inl h, fun _ h => .inl h, fun b u e n _ => by rw [upd_ne (a := a) (b := b) (fun z => n (by rw [z]; exact hl))]; exact e, fun b ps e n => ⟨ps, by rw [upd_ne (a := a) (b := b) (fun z => n (by rw [z]; exact hl))]; exact e⟩, rfl, fun b q xs e => by rw [upd_ne (a := a) (b := b) (fun z => nf q xs (z ▸ e))]; exact e⟩
theorem RelH.wr {o : HO} {i : Nat} {x : O} (r : RelH K T H h) (hi : T.L[i]? = some a) (ho : LD o) (hx : relO K T (upd H a o) a x) : RelH K T (upd H a o) (h.set i x) := by
  have hl : a ∈ T.L := List.mem_of_getElem? hi
  refine ⟨by rw [List.length_set]; exact r.len, r.nd, fun j y e => ?_, r.sub, fun b hB => ?_, tabs_upd r.tabs fun u e => by
    obtain ⟨xs, z | ⟨ys, z | ⟨o', z⟩⟩⟩ := r.occ a (r.sub a hl) <;> rw [e] at z <;> cases z
    · exact ⟨_, .inl rfl⟩
    · exact ⟨[], .inr ⟨_, .inl rfl⟩⟩
    · exact ⟨[], .inr ⟨_, .inr ⟨_, rfl⟩⟩⟩⟩
  · by_cases hj : i = j
    · subst hj
      have hlt : i < h.length := by rw [← r.len]; exact (List.getElem?_eq_some_iff.mp hi).1
      rw [List.getElem?_set_self hlt] at e
      cases e
      exact ⟨a, hi, hx⟩
    · rw [List.getElem?_set_ne hj] at e
      obtain ⟨b, e1, q⟩ := r.at_ j y e
      have nb : b ≠ a := fun z => by
        subst z
        have h1 := (List.getElem?_eq_some_iff.mp hi).1
        have h2 := (List.getElem?_eq_some_iff.mp e1).1
        exact hj ((List.getElem?_inj h1 r.nd).mp (hi.trans e1.symm))
      refine ⟨b, e1, ?_⟩
      cases y with
      | lst ds => obtain ⟨vs, q, rr⟩ := q; exact ⟨vs, by rw [upd_ne nb]; exact q, rels_bw r.mut (r.sub a hl) ds vs rr⟩
      | dic ds => obtain ⟨vs, q, rr⟩ := q; exact ⟨vs, by rw [upd_ne nb]; exact q, relk_bw r.mut (r.sub a hl) ds vs rr⟩
      | lkd ds => obtain ⟨vs, q, rr⟩ := q; exact ⟨vs, by rw [upd_ne nb]; exact q, relk_bw r.mut (r.sub a hl) ds vs rr⟩
  · by_cases z : b = a
    · exact ho.at (by rw [z, upd_same])
    · obtain ⟨xs, q | ⟨ys, q | ⟨o', q⟩⟩⟩ := r.occ b hB
      · exact ⟨xs, .inl (by rw [upd_ne z]; exact q)⟩
      · exact ⟨xs, .inr ⟨ys, .inl (by rw [upd_ne z]; exact q)⟩⟩
      · exact ⟨xs, .inr ⟨ys, .inr ⟨o', by rw [upd_ne z]; exact q⟩⟩⟩
mutual
theorem rel_un {hb : T.B a} : ∀ (d : D) (v : V), rel K T H d v → rel K (T.un a) H d v
  | .non, v, r => by unfold rel at r ⊢; exact r
  | .bl b, v, r => by unfold rel at r ⊢; exact r
  | .int i, v, r => by unfold rel at r ⊢; exact r
  | .str s, v, r => by unfold rel at r ⊢; exact r
  | .ty s, v, r => by unfold rel at r ⊢; exact r
  | .xc s, v, r => by unfold rel at r ⊢; exact r
  | .tup ds, v, r => by
    unfold rel at r ⊢
    obtain ⟨a, vs, e, s, q⟩ := r
    exact ⟨a, vs, e, s, rels_un (hb := hb) ds vs q⟩
  | .tux ds, v, r => by
    unfold rel at r ⊢
    obtain ⟨a, vs, e, s, q⟩ := r
    exact ⟨a, vs, e, s, rels_un (hb := hb) ds vs q⟩
  | .lst ds, v, r => by
    unfold rel at r ⊢
    obtain ⟨a, vs, e, s, n, q⟩ := r
    exact ⟨a, vs, e, s, fun z => n z.1, rels_un (hb := hb) ds vs q⟩
  | .frz ds, v, r => by
    unfold rel at r ⊢
    obtain ⟨a, vs, e, s, q⟩ := r
    exact ⟨a, vs, e, s.imp (fun s => ⟨s.1, fun z => s.2 z.1⟩) id, rels_un (hb := hb) ds vs q⟩
  | .dic ds, v, r => by
    unfold rel at r ⊢
    obtain ⟨a, vs, e, s, n, q⟩ := r
    exact ⟨a, vs, e, s, fun z => n z.1, relk_un (hb := hb) ds vs q⟩
  | .ref i, v, r => by unfold rel at r ⊢; exact r
theorem rels_un {hb : T.B a} : ∀ (ds : List D) (vs : List V), rels K T H ds vs → rels K (T.un a) H ds vs
  | [], vs, r => by unfold rels at r ⊢; exact r
  | d :: ds, vs, r => by
    unfold rels at r ⊢
    obtain ⟨v, t, e, r1, r2⟩ := r
    exact ⟨v, t, e, rel_un (hb := hb) d v r1, rels_un (hb := hb) ds t r2⟩
theorem relk_un {hb : T.B a} : ∀ (ds : List (Sum Int String × D)) (vs : List (Key × V)), relk K T H ds vs → relk K (T.un a) H ds vs
  | [], vs, r => by unfold relk at r ⊢; exact r
  | (k, d) :: ds, vs, r => by
    unfold relk at r ⊢
    obtain ⟨v, t, e, r1, r2⟩ := r
    exact ⟨v, t, e, rel_un (hb := hb) d v r1, relk_un (hb := hb) ds t r2⟩
end
theorem RelH.un (r : RelH K T H h) (hb : T.B a) (hl : a ∉ T.L) : RelH K (T.un a) H h := by
  refine ⟨r.len, r.nd, fun i x e => ?_, fun b h => ⟨r.sub b h, fun z => hl (z ▸ h)⟩, fun b h => r.occ b h.1, r.tabs⟩
  obtain ⟨b, e1, q⟩ := r.at_ i x e
  refine ⟨b, e1, ?_⟩
  cases x with
  | lst ds => obtain ⟨vs, q, rr⟩ := q; exact ⟨vs, q, rels_un (hb := hb) ds vs rr⟩
  | dic ds => obtain ⟨vs, q, rr⟩ := q; exact ⟨vs, q, relk_un (hb := hb) ds vs rr⟩
  | lkd ds => obtain ⟨vs, q, rr⟩ := q; exact ⟨vs, q, relk_un (hb := hb) ds vs rr⟩
/-- from the start, behind a's block was taken away -/
theorem Le.un (l : Le T H T1 H1) (f : H a = none) (m : Mu T H) : Le T H (T1.un a) H1 :=
  ⟨l.pre, fun b h => ⟨l.more b h, fun z => m.free f (z ▸ h)⟩, fun b h => l.fresh b h.1, l.freshL, l.keep, l.kt, l.tq, l.lk⟩
mutual
theorem rel_add : ∀ (d : D) (v : V), T.B a → rel K T H d v → rel K (T.add a) H d v
  | .non, v, _, r => by unfold rel at r ⊢; exact r
  | .bl b, v, _, r => by unfold rel at r ⊢; exact r
  | .int i, v, _, r => by unfold rel at r ⊢; exact r
  | .str s, v, _, r => by unfold rel at r ⊢; exact r
  | .ty s, v, _, r => by unfold rel at r ⊢; exact r
  | .xc s, v, _, r => by unfold rel at r ⊢; exact r
  | .tup ds, v, hb, r => by
    unfold rel at r ⊢
    obtain ⟨a, vs, e, s, q⟩ := r
    exact ⟨a, vs, e, s, rels_add ds vs hb q⟩
  | .tux ds, v, hb, r => by
    unfold rel at r ⊢
    obtain ⟨a, vs, e, s, q⟩ := r
    exact ⟨a, vs, e, s, rels_add ds vs hb q⟩
  | .lst ds, v, hb, r => by
    unfold rel at r ⊢
    obtain ⟨b, vs, e, s, n, q⟩ := r
    exact ⟨b, vs, e, s, fun z => z.elim n fun z => n (z ▸ hb), rels_add ds vs hb q⟩
  | .frz ds, v, hb, r => by
    unfold rel at r ⊢
    obtain ⟨b, vs, e, s, q⟩ := r
    exact ⟨b, vs, e, s.imp (fun s => ⟨s.1, fun z => z.elim s.2 fun z => s.2 (z ▸ hb)⟩) id, rels_add ds vs hb q⟩
  | .dic ds, v, hb, r => by
    unfold rel at r ⊢
    obtain ⟨b, vs, e, s, n, q⟩ := r
    exact ⟨b, vs, e, s, fun z => z.elim n fun z => n (z ▸ hb), relk_add ds vs hb q⟩
  | .ref i, v, _, r => by
    unfold rel at r ⊢
    obtain ⟨b, e, q⟩ := r
    exact ⟨b, e, by show (T.L ++ [a])[i]? = _; rw [List.getElem?_append_left (List.getElem?_eq_some_iff.mp q).1]; exact q⟩
theorem rels_add : ∀ (ds : List D) (vs : List V), T.B a → rels K T H ds vs → rels K (T.add a) H ds vs
  | [], vs, _, r => by unfold rels at r ⊢; exact r
  | d :: ds, vs, hb, r => by
    unfold rels at r ⊢
    obtain ⟨v, t, e, r1, r2⟩ := r
    exact ⟨v, t, e, rel_add d v hb r1, rels_add ds t hb r2⟩
theorem relk_add : ∀ (ds : List (Sum Int String × D)) (vs : List (Key × V)), T.B a → relk K T H ds vs → relk K (T.add a) H ds vs
  | [], vs, _, r => by unfold relk at r ⊢; exact r
  | (k, d) :: ds, vs, hb, r => by
    unfold relk at r ⊢
    obtain ⟨v, t, e, r1, r2⟩ := r
    exact ⟨v, t, e, rel_add d v hb r1, relk_add ds t hb r2⟩
end
theorem RelH.add {o : O} (r : RelH K T H h) (hb : T.B a) (hl : a ∉ T.L) (ho : relO K (T.add a) H a o) : RelH K (T.add a) H (h ++ [o]) := by
  refine ⟨by show (T.L ++ [a]).length = _; rw [List.length_append, List.length_append, r.len]; rfl, ?_, fun i x e => ?_, fun b h => ?_, fun b h => h.elim (r.occ b) fun z => z ▸ r.occ a hb, r.tabs⟩
  · show (T.L ++ [a]).Nodup
    exact List.nodup_append.mpr ⟨r.nd, by simp, fun x hx y hy z => by rw [List.mem_singleton.mp hy] at z; exact hl (z ▸ hx)⟩
  · by_cases hi : i < h.length
    · rw [List.getElem?_append_left hi] at e
      obtain ⟨b, e1, q⟩ := r.at_ i x e
      refine ⟨b, by show (T.L ++ [a])[i]? = _; rw [List.getElem?_append_left (by rw [r.len]; exact hi)]; exact e1, ?_⟩
      cases x with
      | lst ds => obtain ⟨vs, q, rr⟩ := q; exact ⟨vs, q, rels_add ds vs hb rr⟩
      | dic ds => obtain ⟨vs, q, rr⟩ := q; exact ⟨vs, q, relk_add ds vs hb rr⟩
      | lkd ds => obtain ⟨vs, q, rr⟩ := q; exact ⟨vs, q, relk_add ds vs hb rr⟩
    · have hi' : i = h.length := by
        have := (List.getElem?_eq_some_iff.mp e).1
        rw [List.length_append, List.length_singleton] at this
        omega
      subst hi'
      rw [List.getElem?_append_right (Nat.le_refl _), Nat.sub_self] at e
      simp at e
      subst e
      exact ⟨a, by show (T.L ++ [a])[h.length]? = _; rw [← r.len, List.getElem?_append_right (Nat.le_refl _), Nat.sub_self]; rfl, ho⟩
  · rcases List.mem_append.mp h with z | z
    · exact .inl (r.sub b z)
    · exact .inr (List.mem_singleton.mp z)
theorem Le.add (l : Le T H T1 H1) (f : H a = none) : Le T H (T1.add a) H1 := by
  refine ⟨?_, fun b h => .inl (l.more b h), fun b h => h.elim (l.fresh b) fun z => .inr (z ▸ f), fun b h => ?_, l.keep, l.kt, l.tq, l.lk⟩
  · obtain ⟨M, e⟩ := l.pre
    exact ⟨M ++ [a], by show T1.L ++ [a] = _; rw [e, List.append_assoc]⟩
  · rcases List.mem_append.mp h with z | z
    · exact l.freshL b z
    · rw [List.mem_singleton.mp z]; exact .inr f
/-- an address that is free later was free, or is told as changing -/
theorem Le.was (l : Le T H T1 H1) (m1 : Mu T1 H1) (f : H1 a = none) : H a = none := by
  cases e : H a with
  | none => rfl
  | some o =>
    by_cases hl : a ∈ T.L
    · obtain ⟨M, q⟩ := l.pre
      exact absurd (m1.sub a (by rw [q]; exact List.mem_append_left _ hl)) (m1.free f)
    · by_cases ht : ∃ ps, o = .tbl ps
      · obtain ⟨ps, rfl⟩ := ht
        obtain ⟨ps', e'⟩ := l.kt a ps e hl
        rw [e'] at f; cases f
      · rw [l.keep _ _ e hl fun ps z => ht ⟨ps, z⟩] at f; cases f
end
section
variable {X : Cx} {W : WX} {e : Expr} {es : List Expr} {f : Exs} {pos : Pos}
/-- a tuple is laid: a known object -/
theorem pe_tupK {x1} {t : TA} (h : PA X es t) : PE X (.Tuple es x1 pos) (fun σ H Q => t σ H fun xs H1 => xs.length ≤ sizeLine ∧ ∀ p o, H1 p = none → o.dict = none → Q (.ref p) (upd H1 p (.frz o (.tup xs)))) := by
  refine ⟨fun pins s σ H Q I hq => wpAny_Tuple_spliced ?_⟩
  refine thn (h.run pos pins s σ H _ I hq) fun us s1 ⟨xs, H1, I1, r, z, q⟩ => ⟨by rw [← r.length]; exact z, .ref s1.heap.objs.size, _, I1.laid (t' := s1.toks) (o := .frz { cls := .type "tuple", data := .seq us.toArray } (.tup xs)) (fun b u e => Heap.get?_push_of_some _ e) (Nat.le_refl _) ?_, rfl, q _ _ (I1.hok.fresh (Nat.le_refl _)) rfl⟩
  have g := Heap.get?_push_size s1.heap (o := { cls := .type "tuple", data := .seq us.toArray }) rfl
  exact ⟨g, z, us, r, _, g, rfl, _, rfl⟩
theorem se_tup {x1} (ha : SA X W es f) (hz : es.length ≤ 1000 := by decide) : SE X W (.Tuple es x1 pos) (eTup f) :=
  PE.mono (pe_tupK ha.pa) fun σ H Q hh => by
    obtain ⟨T, env, h, r1, r2, a⟩ := hh
    refine ⟨T, env, h, r1, r2, a.bind r1.mut fun ds h1 T1 H1 vs e l1 q1 rvs a1 => ⟨?_, fun p o hp ho => ?_⟩⟩
    · rw [rels_length rvs, ha.len _ _ _ _ e, sizeLine_eq]; omega
    · exact a1.new q1 hp (rel_tup upd_same ho (rels_mono (Le.new hp) q1.mut ds vs rvs))
theorem bind_self {α : Type} (r : R α) : (r.bind fun a h => .ok a h) = r := by cases r <;> rfl
theorem sf_lst (ha : SA X W es f) (hz : es.length ≤ 1000 := by decide) : SF X W (.List es pos) f :=
  PE.mono (pe_lst ha.pa) fun σ H Q hh => by
    obtain ⟨T, env, h, r1, r2, a⟩ := hh
    rw [← bind_self (f env h)] at a
    refine ⟨T, env, h, r1, r2, a.bind0 fun ds h1 T1 H1 vs e l1 q1 rvs a1 => ⟨?_, fun p hp => ?_⟩⟩
    · rw [rels_length rvs, ha.len _ _ _ _ e, sizeLine_eq]; omega
    · exact a1 (T1.blk p) (upd H1 p (.lst vs)) _ (l1.trans r1.mut (Le.blk hp)) (q1.blk hp) ⟨p, vs, rfl, upd_same, fun z => q1.mut.free hp (q1.sub p z), .inr rfl, l1.was q1.mut hp, rels_mono (Le.blk hp) q1.mut ds vs rvs⟩
theorem rd_val {σ : L2.St} {H : Hp} {Q : VK} (hh : rd X W (eVal f) σ H Q) : rdF X W f σ H Q := by
    obtain ⟨T, env, h, r1, r2, a⟩ := hh
    refine ⟨T, env, h, r1, r2, a.bind0 fun ds h1 T1 H1 v e l1 q1 hv a1 => ?_⟩
    obtain ⟨p, vs, rfl, e1, nl, hb, f0, rvs⟩ := hv
    exact a1 (T1.un p) H1 _ (l1.un f0 r1.mut) (q1.un hb nl) (rel_lst e1 (fun z => z.2 rfl) (rels_un (hb := hb) ds vs rvs))
theorem se_val (hf : SF X W e f) : SE X W e (eVal f) := PE.mono hf fun _ _ _ => rd_val
theorem rd_new {σ : L2.St} {H : Hp} {Q : VK} (hh : rd X W (eNew f) σ H Q) : rdF X W f σ H Q := by
    obtain ⟨T, env, h, r1, r2, a⟩ := hh
    refine ⟨T, env, h, r1, r2, a.bind0 fun ds h1 T1 H1 v e l1 q1 hv a1 => ?_⟩
    obtain ⟨p, vs, rfl, e1, nl, hb, f0, rvs⟩ := hv
    refine a1 (T1.add p) H1 _ (l1.add f0) (q1.add hb nl ⟨vs, e1, rels_add ds vs hb rvs⟩) ?_
    unfold rel
    exact ⟨p, rfl, by show (T1.L ++ [p])[h1.length]? = _; rw [← q1.len, List.getElem?_append_right (Nat.le_refl _), Nat.sub_self]; rfl⟩
theorem se_new (hf : SF X W e f) : SE X W e (eNew f) := PE.mono hf fun _ _ _ => rd_new
end
end Pu

namespace Pu
open PySem PySem.Spec PyProof.Rows L2

/-! ### tuples that are made: known objects -/
def tupO (its : List Value) : Obj := { cls := .type "tuple", data := .seq its.toArray }
/-- what is asked of a tuple that was made: it has no dict of its own -/
def Made (H : Hp) (xs : List V) (Q : VK) : Prop := ∀ p o, H p = none → o.dict = none → Q (.ref p) (upd H p (.frz o (.tup xs)))
section
variable {X : Cx} {pins : List (Addr × Obj)} {σ : L2.St} {H : Hp} {s : Shared} {Q : VK}
theorem made_ok (I : Inv X pins σ H s) {xs : List V} {its : List Value} (r : Vals xs its) (z : xs.length ≤ sizeLine) (q : Made H xs Q) : EP X pins σ Q (.ref s.heap.objs.size) { s with heap := s.heap.push (tupO its) } := by
  have g : (s.heap.push (tupO its)).get? s.heap.objs.size = some (tupO its) := Heap.get?_push_size _ rfl
  have fresh := I.hok.fresh (Nat.le_refl s.heap.objs.size)
  have J := I.laid (t' := s.toks) (o := .frz (tupO its) (.tup xs)) (h' := s.heap.push (tupO its)) (fun b u e => Heap.get?_push_of_some _ e) (Nat.le_refl _) ⟨g, z, its, r, _, g, rfl, _, rfl⟩
  exact ⟨.ref s.heap.objs.size, _, J, rfl, q _ _ fresh rfl⟩
/-- t + u -/
def rCatK (K : PySem.W.Frag) : R2 := fun x y H Q => ∃ a b xs ys, x = .ref a ∧ y = .ref b ∧ SqT K H a xs ∧ SqT K H b ys ∧ xs.length + ys.length ≤ sizeLine ∧
  (xs = [] → Q (.ref b) H) ∧ (xs ≠ [] → ys = [] → Q (.ref a) H) ∧ (xs ≠ [] → ys ≠ [] → Made H (xs ++ ys) Q)
theorem op_catK : OpR X (binaryOp .Add) (rCatK X.K) := fun pins s σ H x y v u Q I rx ry h => by
  obtain ⟨a, b, xs, ys, rfl, rfl, ha, hb, hz, none1, none2, both⟩ := h
  have ev : v = .ref a := rx
  have eu : u = .ref b := ry
  subst ev eu
  obtain ⟨as, ra, ta, _⟩ := I.tuple ha
  obtain ⟨bs, rb, tb, _⟩ := I.tuple hb
  have len : as.length + bs.length ≤ sizeLine := by rw [← ra.length, ← rb.length]; exact hz
  by_cases hx : xs = []
  · subst hx
    cases ra
    exact cat_tup0 ta tb ⟨.ref b, H, I, rfl, none1 rfl⟩
  · have hy := rb.nil_iff
    exact HT.cat_tup ta tb (fun z => hx (ra.nil_iff.mp z)) (fun z => ⟨.ref a, H, I, rfl, none2 hx (hy.mp z)⟩) (fun z => made_ok I (ra.append rb) (by rw [List.length_append]; exact hz) (both hx fun w => z (hy.mpr w))) len
/-- t[lo:hi] -/
def rSlK (K : PySem.W.Frag) : V → Option Int → Option Int → Hp → VK → Prop := fun x lo hi H Q => ∃ a xs, x = .ref a ∧ SqT K H a xs ∧
  (HT.sIx xs.length 0 lo = 0 ∧ HT.sIx xs.length xs.length hi = xs.length → Q (.ref a) H) ∧ (¬ (HT.sIx xs.length 0 lo = 0 ∧ HT.sIx xs.length xs.length hi = xs.length) → Made H (cutV xs lo hi) Q)
theorem sl_tupK : SlR X (rSlK X.K) := fun pins s σ H x v vl vu lo hi sl Q I rx hs pl pu h => by
  obtain ⟨a, xs, rfl, hx, whole, part⟩ := h
  have ev : v = .ref a := rx
  subst ev
  obtain ⟨its, r, t, z⟩ := I.tuple hx
  have len : its.toArray.size = xs.length := r.length.symm ▸ List.size_toArray
  refine ⟨"tuple", _, PyProof.Rows.slot_tuple_getitem.lookup, t.typeIs, ?_⟩
  by_cases hw : HT.sIx xs.length 0 lo = 0 ∧ HT.sIx xs.length xs.length hi = xs.length
  · exact getItem_tuple_whole t hs pl pu (by rw [len]; exact hw) ⟨.ref a, H, I, rfl, whole hw⟩
  · refine HT.getItem_tuple_cut t hs pl pu (by rw [len]; exact hw) ?_ (by rw [len]; exact z)
    rw [len]
    exact made_ok I (r.drop _ |>.take _) (Nat.le_trans (cutV_length xs lo hi) z) (part hw)
/-- tuple(x) -/
theorem call_tupleK : CallR X (.type "tuple") (fun xs H Q => ∃ p ys, xs = [.ref p] ∧ ((SqL X.K H p ys ∧ Made H ys Q) ∨ (SqT X.K H p ys ∧ Q (.ref p) H))) := fun pins s σ H xs us Q I r h => by
  obtain ⟨p, ys, rfl, h⟩ := h
  obtain ⟨u, rfl, ru⟩ := vals1 r
  have eu : u = .ref p := ru
  subst eu
  rcases h with ⟨hq, q⟩ | ⟨hq, q⟩
  · obtain ⟨its, ri, pl, hz⟩ := I.list hq
    have fit : its.toArray.size ≤ sizeLine := by rw [List.size_toArray, ← ri.length]; exact hz
    exact call_tuple_list pl.isList (fun h' keep => made_ok (I.kept (t' := s.toks) keep) ri hz q) fit
  · obtain ⟨its, _, t, _⟩ := I.tuple hq
    exact call_tuple_same t ⟨.ref p, H, I, rfl, q⟩
/-- t * n -/
def rRepK (K : PySem.W.Frag) : R2 := fun x y H Q => ∃ l k xs, x = .ref l ∧ y = .int k ∧ SqT K H l xs ∧ xs ≠ [] ∧ 2 ≤ k ∧ k ≤ 1000 ∧ xs.length ≤ 1000 ∧ Made H (List.replicate k.toNat xs).flatten Q
theorem op_repK : OpR X (binaryOp .Mult) (rRepK X.K) := fun pins s σ H x y v u Q I rx ry h => by
  obtain ⟨l, k, xs, rfl, rfl, hT, hne, h1, h2, hz, q⟩ := h
  have ev : v = .ref l := rx
  subst ev
  obtain ⟨t, rfl⟩ := ry
  obtain ⟨its, r, ⟨⟨cls, dd, data, sl⟩, ho, hc, n, hd⟩, _⟩ := I.tuple hT
  dsimp only at hc hd
  subst hc hd
  have len : its.toArray.size = xs.length := by rw [List.size_toArray, r.length]
  have pos : 0 < xs.length := List.length_pos_iff.mpr hne
  have room : k.toNat * xs.length ≤ 1000 * 1000 := Nat.mul_le_mul (by omega) hz
  have roomI : ((xs.length : Nat) : Int) * k ≤ 1000000 := by
    have e : ((xs.length : Nat) : Int) * k = ((k.toNat * xs.length : Nat) : Int) := by
      rw [Int.natCast_mul, Int.toNat_of_nonneg (by omega), Int.mul_comm]
    omega
  have line : 1000000 ≤ sizeLine := by rw [sizeLine_eq]; omega
  have full : its.toArray.isEmpty = false := by
    rw [Array.isEmpty, decide_eq_false_iff_not, len]; omega
  have c1 : (its.toArray.isEmpty || k == 1) = false := by rw [full, Bool.false_or]; exact beq_eq_false_iff_ne.mpr (by omega)
  have c0 : (decide (k < -(2 ^ 63)) || decide (k ≥ 2 ^ 63)) = false := by rw [Bool.or_eq_false_iff]; exact ⟨decide_eq_false (by omega), decide_eq_false (by omega)⟩
  have c2 : (decide (k ≤ 0) || its.toArray.isEmpty) = false := by rw [full, Bool.or_false]; exact decide_eq_false (by omega)
  have c4 : Builtin.Tuple.tupleTooMany (((its.toArray.size : Nat) : Int) * k) = false := by
    rw [len]
    exact decide_eq_false (by omega)
  have flat : (List.replicate k.toNat its).flatten.length ≤ sizeLine := by
    rw [PyProof.Rows.lm_len_rep_flat, ← r.length]; omega
  have mul := tuple_mulW l its.toArray n dd sl k t c0 c1 c2 (by rw [len]; omega) c4 (by rw [size_rep, List.size_toArray]; exact flat)
  have obj : s.TypeIs (.ref l) "tuple" := ⟨_, ho, rfl⟩
  refine wpAny_binaryOp_repeat_ref (T := "tuple") (U := "int") (by decide) obj (fun s' => typeIs_int s' k t) noFill_tuple_mul F.fills_int_mul F.slot_int_rmul repeat_tuple F.slot_int_index.lookup ?_
  refine call_meets F.slot_int_rmul (typeIs_int s k t) F.entry_int_rmul (F.args_int_rmul_2 _ _) (int_rmul_tuple k t l its.toArray n dd sl) ⟨ho, rfl, obj, ?_⟩
  refine call_meets F.slot_tuple_mul obj F.entry_tuple_mul (F.args_tuple_mul_2 _ _) mul ⟨ho, ?_⟩
  rw [size_rep]
  exact made_ok I (r.rep k.toNat) (by rw [PyProof.Rows.lm_len_rep_flat]; omega) q
end
end Pu

namespace Pu
open PySem PySem.Spec PyProof.Rows L2

/-! ### data: what may be compared -/
mutual
def toP : D → PyData
  | .non => .none
  | .bl b => .bool b
  | .int i => .int i
  | .str s => .str (Str.ofString s)
  | .tup xs => .tuple (toPs xs)
  | .lst xs => .list (toPs xs)
  | .frz xs => .list (toPs xs)
  | .dic _ => .none
  | .ref _ => .none
  | .ty _ => .none
  | .xc _ => .none
  | .tux _ => .none
def toPs : List D → List PyData
  | [] => []
  | d :: ds => toP d :: toPs ds
end
mutual
def isD : D → Bool
  | .non | .bl _ | .int _ | .str _ => true
  | .tup xs => isDs xs
  | .lst xs => isDs xs
  | .frz xs => isDs xs
  | .dic _ | .ref _ | .ty _ | .xc _ | .tux _ => false
def isDs : List D → Bool
  | [] => true
  | d :: ds => isD d && isDs ds
end
mutual
def deep : D → Nat
  | .tup xs => deeps xs + 1
  | .lst xs => deeps xs + 1
  | .frz xs => deeps xs + 1
  | .dic kvs => deepk kvs + 1
  | _ => 0
def deeps : List D → Nat
  | [] => 0
  | d :: ds => max (deep d) (deeps ds)
def deepk : List (Sum Int String × D) → Nat
  | [] => 0
  | (_, d) :: ds => max (deep d) (deepk ds)
end
def eqv (a b : D) : Bool := PyData.eqv (toP a) (toP b)
/-- a list that changes, as it stands -/
def view (h : HH) (d : D) : D := match d with
  | .ref i => match h[i]? with
    | some (.lst xs) => .lst xs
    | _ => .ref i
  | d => d
/-- whether two things are alike, where it is plain -/
def isDc (h : HH) (d : D) : Bool := match d with
  | .dic _ => true
  | .tup _ => true
  | .lst _ => true
  | .ref i => match h[i]? with
    | some (.lst _) => true
    | some (.dic _) => true
    | _ => false
  | _ => false
def isS (d : D) : Bool := match d with
  | .str _ => true
  | _ => false
def sameE (h : HH) (a b : D) : Option Bool :=
  if isD (view h a) && isD (view h b) && decide (deep (view h a) ≤ 60) && decide (deep (view h b) ≤ 60) then some (eqv (view h a) (view h b))
  else if isS a && isDc h b then some false else if isDc h a && isS b then some false else none
def sameEs (h : HH) : List D → List D → Option (List Bool)
  | [], _ => some []
  | _, [] => some []
  | x :: xs, y :: ys => match sameE h x y, sameEs h xs ys with
    | some k, some ks => some (k :: ks)
    | _, _ => none
def seqA (h : HH) (d : D) : Option (Bool × List D) := match d with
  | .tup xs => some (true, xs)
  | .lst xs => some (false, xs)
  | .ref i => match h[i]? with
    | some (.lst xs) => some (false, xs)
    | _ => none
  | _ => none
def sameX (h : HH) (a b : D) : Option Bool := match seqA h a, seqA h b with
  | some (false, xs), some (false, ys) => if xs.length != ys.length then some false else none
  | some (true, xs), some (true, ys) => (sameEs h xs ys).map fun ks => ks.all id && xs.length == ys.length
  | _, _ => none
def same? (h : HH) (a b : D) : Option Bool :=
  if isD (view h a) && isD (view h b) && decide (deep (view h a) ≤ 60) && decide (deep (view h b) ≤ 60) then some (eqv (view h a) (view h b)) else sameX h a b

theorem strOk_of (s : String) : PyData.canLay0 (.str (Str.ofString s)) = true := by
  show PyData.strOk _ = true
  rw [Str.ofString_eq_toList]
  unfold PyData.strOk
  simp only [List.all_toArray, Array.all_toList, List.all_map, List.all_eq_true, Function.comp, decide_eq_true_eq]
  intro c _
  have h := c.valid
  simp only [UInt32.isValidChar, Nat.isValidChar] at h
  have : c.toNat = c.val.toNat := rfl
  omega
mutual
theorem toP_lay : ∀ d : D, isD d = true → PyData.canLay0 (toP d) = true
  | .non, _ => by unfold toP; rfl
  | .bl b, _ => by unfold toP; rfl
  | .int i, _ => by unfold toP; rfl
  | .str s, _ => by unfold toP; exact strOk_of s
  | .tup xs, h => by unfold toP; unfold isD at h; unfold PyData.canLay0; exact toPs_lay xs h
  | .lst xs, h => by unfold toP; unfold isD at h; unfold PyData.canLay0; exact toPs_lay xs h
  | .frz xs, h => by unfold toP; unfold isD at h; unfold PyData.canLay0; exact toPs_lay xs h
  | .dic _, h => by unfold isD at h; cases h
  | .ref _, h => by unfold isD at h; cases h
  | .ty _, h => by unfold isD at h; cases h
  | .xc _, h => by unfold isD at h; cases h
  | .tux _, h => by unfold isD at h; cases h
theorem toPs_lay : ∀ ds : List D, isDs ds = true → PyData.canLayAll0 (toPs ds) = true
  | [], _ => by unfold toPs; rfl
  | d :: ds, h => by
    unfold isDs at h
    rw [Bool.and_eq_true] at h
    unfold toPs PyData.canLayAll0
    rw [toP_lay d h.1, toPs_lay ds h.2]; rfl
end
mutual
theorem toP_deep : ∀ d : D, (toP d).depth ≤ deep d
  | .non | .bl b | .int i | .str s | .dic _ | .ref _ | .ty _ | .xc _ | .tux _ => by unfold toP; simp [PyData.depth]
  | .tup xs => by unfold toP; have := toPs_deep xs; simp only [PyData.depth, deep]; omega
  | .lst xs => by unfold toP; have := toPs_deep xs; simp only [PyData.depth, deep]; omega
  | .frz xs => by unfold toP; have := toPs_deep xs; simp only [PyData.depth, deep]; omega
theorem toPs_deep : ∀ ds : List D, PyData.depthAll (toPs ds) ≤ deeps ds
  | [] => by unfold toPs; simp [PyData.depthAll]
  | d :: ds => by unfold toPs; have := toPs_deep ds; have := toP_deep d; simp only [PyData.depthAll, deeps]; omega
end
theorem toP_shaped {d : D} (h : isD d = true) (z : deep d ≤ 64) : SeqAt.shaped (toP d) = true := by
  unfold SeqAt.shaped
  rw [toP_lay d h, Bool.true_and, decide_eq_true_eq]
  exact Nat.le_trans (toP_deep d) z
section
variable {K : PySem.W.Frag} {T : Tk} {H : Hp} {h : HH}
mutual
theorem rel_dp : ∀ (d : D) (v : V), isD d = true → rel K T H d v → Dp K H v (toP d)
  | .non, v, _, r => by unfold rel at r; unfold toP; subst r; exact .non
  | .bl b, v, _, r => by unfold rel at r; unfold toP; subst r; exact .bl b
  | .int i, v, _, r => by unfold rel at r; unfold toP; subst r; exact .int i
  | .str s, v, _, r => by unfold rel at r; unfold toP; subst r; exact .str _
  | .tup ds, v, h, r => by
    unfold rel at r; unfold toP; unfold isD at h
    obtain ⟨a, vs, e, s, q⟩ := r
    subst e; exact .tup s.sq (rels_dp ds vs h q)
  | .lst ds, v, h, r => by
    unfold rel at r; unfold toP; unfold isD at h
    obtain ⟨a, vs, e, s, n, q⟩ := r
    subst e; exact .lst (SqL.of s) (rels_dp ds vs h q)
  | .frz ds, v, h, r => by
    unfold rel at r; unfold toP; unfold isD at h
    obtain ⟨a, vs, e, s, q⟩ := r
    subst e; exact .lst (s.elim (fun s => .inl s.1) fun s => s H) (rels_dp ds vs h q)
  | .dic _, v, h, _ => by unfold isD at h; cases h
  | .ref _, v, h, _ => by unfold isD at h; cases h
  | .ty _, v, h, _ => by unfold isD at h; cases h
  | .xc _, v, h, _ => by unfold isD at h; cases h
  | .tux _, v, h, _ => by unfold isD at h; cases h
theorem rels_dp : ∀ (ds : List D) (vs : List V), isDs ds = true → rels K T H ds vs → DpAll K H vs (toPs ds)
  | [], vs, _, r => by unfold rels at r; unfold toPs; subst r; exact .nil
  | d :: ds, vs, h, r => by
    unfold rels at r; unfold toPs; unfold isDs at h
    rw [Bool.and_eq_true] at h
    obtain ⟨v, t, e, r1, r2⟩ := r
    subst e; exact .cons (rel_dp d v h.1 r1) (rels_dp ds t h.2 r2)
end
/-- a list that changes, as a list -/
theorem rel_view (r : RelH K T H h) {d : D} {v : V} (q : rel K T H d v) (hd : isD (view h d) = true) : Dp K H v (toP (view h d)) := by
  cases d with
  | ref i =>
    unfold view at hd ⊢
    unfold rel at q
    obtain ⟨a, e, q⟩ := q
    dsimp only at hd ⊢
    split
    · rename_i xs e2
      obtain ⟨b, e3, vs, e4, rr⟩ := r.at_ i _ e2
      rw [q] at e3; cases e3
      rw [e2] at hd
      dsimp only at hd
      unfold isD at hd
      subst e
      unfold toP
      exact .lst (SqL.of e4) (rels_dp xs vs hd rr)
    · rename_i h1
      split at hd
      · rename_i xs e2; exact absurd e2 (h1 xs)
      · unfold isD at hd; cases hd
  | _ => exact rel_dp _ _ hd q
end

/-! ### operators by values -/
def rdO (X : Cx) (o : D → D → HH → R D) : R2 := fun x y H Q => ∃ T h a b, RelH X.K T H h ∧ rel X.K T H a x ∧ rel X.K T H b y ∧ match o a b h with
  | .ok d h' => ∀ T' H' v, Le T H T' H' → RelH X.K T' H' h' → rel X.K T' H' d v → Q v H'
  | _ => False
def noX (r : R D) : R D := match r with
  | .ok d h => .ok d h
  | _ => .stuck
def eOp (o : D → D → HH → R D) (f g : Ex) : Ex := fun env h => (f env h).bind fun a h1 => (g env h1).bind fun b h2 => noX (o a b h2)
section
variable {X : Cx} {W : WX} {a b : Expr} {f g : Ex} {pos : Pos} {o : D → D → HH → R D}
theorem rd_op {σ : L2.St} {H : Hp} {Q : VK} (h : rd X W (eOp o f g) σ H Q) : tOp (rdO X o) (rd X W f) (rd X W g) σ H Q := by
  obtain ⟨T, env, hh, r1, r2, a⟩ := h
  refine ⟨T, env, hh, r1, r2, a.bind r1.mut fun d h1 T1 H1 v _ l1 q1 rv a1 => ?_⟩
  refine ⟨T1, env, h1, q1, relE_mono l1 r1.mut r2, a1.bind q1.mut fun e h2 T2 H2 u _ l2 q2 ru a2 => ?_⟩
  refine ⟨T2, h2, d, e, q2, rel_mono l2 q1.mut d v rv, ru, ?_⟩
  revert a2
  cases o d e h2 with
  | ok d' h' => exact fun a2 T' H' v' l r q => a2 T' H' v' l r q
  | exc c h' => exact fun a2 => a2
  | stuck => exact fun a2 => a2
theorem se_op {op : Operator} (ho : OpR X (binaryOp op) (rdO X o)) (ha : SE X W a f) (hb : SE X W b g) : SE X W (.BinOp a op b pos) (eOp o f g) :=
  PE.mono (pe_op ho ha hb) fun _ _ _ => rd_op
theorem se_cmp {op : CmpOp} (ho : OpR X (compareOp op) (rdO X o)) (ha : SE X W a f) (hb : SE X W b g) (hm : behindInMarks op b = false := by first | exact nomark _ | rfl) : SE X W (.Compare a [op] [b] pos) (eOp o f g) :=
  PE.mono (pe_cmpR ho ha hb hm) fun _ _ _ => rd_op
theorem OpR.mono {f : Value → Value → Sem Value} {r r' : R2} (h : OpR X f r) (i : ∀ x y H Q, r' x y H Q → r x y H Q) : OpR X f r' :=
  fun pins s σ H x y v u Q I rx ry q => h pins s σ H x y v u Q I rx ry (i x y H Q q)
end
section
open PySem.SeqAt MeetsSeq
open AutoSeq1 (wpAny_loadPart')
/-! ### a dict in a tuple of texts -/
theorem str_declines_dict (b : Str) (u : Tok) (l : Addr) (o : Obj) (es : Array DictEntry) (ep : Nat) (hd : o.data = .dict es ep) :
    Meets (Builtin.«str.__eq__» ⟨[.str b u, .ref l], []⟩) (fun _ R s => s.heap.get? l = some o ∧ R (.ok (.ret .notImplemented)) s) :=
  .of_wp fun prog w A R s h => by obtain ⟨cls, dd, data, sl⟩ := o; simp only at hd; subst hd; obtain ⟨hp, g, d, tk, os⟩ := s; obtain ⟨hl, h⟩ := h; wp_walk using wpAny_loadPart' hl, wpAny_load hl; exact ⟨_, rfl, h⟩
theorem dict_declines_str {prog : Program} {w : World} {A : Around} {E : Value → Shared → Prop} {Q : Value → Shared → Prop} {s : Shared} {l : Addr} (b : Str) (u : Tok) (hl : s.TypeIs (.ref l) "dict") (h : Q .notImplemented s) :
    wpAny (model prog w) A (call (.builtin "dict.__eq__") [.ref l, .str b u]) Q E s := by
  refine wpAny_call_entry PySem.F.slot_dict_eq hl PySem.F.entry_dict_eq ?_ (PySem.F.args_dict_eq_2 _ _)
  show wpAny _ _ (Builtin.Dict.dictSlotArgs "__eq__" ⟨[.ref l, .str b u], []⟩ >>= _) _ _ s
  refine wpAny_bind ?_
  unfold Builtin.Dict.dictSlotArgs
  refine wpAny_bind (wpAny_notOrdered_dict hl ?_)
  refine wpAny_pure ?_
  refine wpAny_bind (wpAny_isInstance (T := "str") (typeIs_str s b u) PySem.F.sub_str_dict ?_)
  simp only [Bool.not_false, if_true]
  refine wpAny_bind (wpAny_rule ?_)
  refine wpAny_bind (wpAny_pure (wpAny_pure ?_))
  exact ⟨_, rfl, h⟩
theorem EqAt.str_dict {A : Around} {s : Shared} {l : Addr} {o : Obj} {es : Array DictEntry} {ep : Nat} (b : Str) (u : Tok) (ho : s.heap.get? l = some o) (hx : o.ExactDict) (hd : o.data = .dict es ep) (hu : A.units < cLine) : EqAt A s (.str b u) (.ref l) false := fun prog w E Q h => by
  have ht : s.TypeIs (.ref l) "dict" := ⟨o, ho, hx.1⟩
  unfold eqBool
  refine wpAny_holding ?_
  refine wpAny_ite_split (fun hab => absurd (eq_of_beq hab) nofun) (fun _ => ?_)
  refine wpAny_bind (rc_eq_decline_or (k := false) (typeIs_str s b u) ht (by decide) F.sub_dict_str F.slot_str_eq F.slot_dict_eq_refl ?_ ?_ ?_ (.inr hu) (wpAny_truthy_bool h))
  · exact fun _ hq => call_meets F.slot_str_eq (typeIs_str s b u) F.entry_str_eq (F.args_str_eq_2 _ _) (str_declines_dict b u l o es ep hd) ⟨ho, hq⟩
  · exact fun _ hq => dict_declines_str b u ht hq
  · exact fun _ hq => wpAny_of_eq (rfl : isSame (.str b u) (.ref l) = pure false) hq


theorem EqAt.dict_str {A : Around} {s : Shared} {l : Addr} {o : Obj} {es : Array DictEntry} {ep : Nat} (b : Str) (u : Tok) (ho : s.heap.get? l = some o) (hx : o.ExactDict) (hd : o.data = .dict es ep) (hu : A.units < cLine) : EqAt A s (.ref l) (.str b u) false := fun prog w E Q h => by
  have ht : s.TypeIs (.ref l) "dict" := ⟨o, ho, hx.1⟩
  unfold eqBool
  refine wpAny_holding ?_
  refine wpAny_ite_split (fun hab => absurd (eq_of_beq hab) nofun) (fun _ => ?_)
  refine wpAny_bind (rc_eq_decline_or (k := false) ht (typeIs_str s b u) (by decide) F.sub_str_dict F.slot_dict_eq F.slot_str_eq_refl ?_ ?_ ?_ (.inr hu) (wpAny_truthy_bool h))
  · exact fun _ hq => dict_declines_str b u ht hq
  · exact fun _ hq => call_meets F.slot_str_eq_refl (typeIs_str s b u) F.entry_str_eq (F.args_str_eq_2 _ _) (str_declines_dict b u l o es ep hd) ⟨ho, hq⟩
  · exact fun _ hq => wpAny_of_eq (rfl : isSame (.ref l) (.str b u) = pure false) hq
def AnyO (K : PySem.W.Frag) (H : Hp) (a : Addr) : Prop := (∃ kvs, H a = some (.dK kvs)) ∨ (∃ vs, SqL K H a vs) ∨ ∃ vs, SqT K H a vs
section
variable {X : Cx}
theorem anyO_eq {pins : List (Addr × Obj)} {σ : L2.St} {H : Hp} {s : Shared} {A : Around} (I : Inv X pins σ H s) {a : Addr} (ha : AnyO X.K H a) (hu : A.units < cLine) (b : Str) (t : Tok) : EqAt A s (.str b t) (.ref a) false := by
  rcases ha with ⟨kvs, ha⟩ | ⟨vs, ha⟩ | ⟨vs, ha⟩
  · obtain ⟨_, ya, va, ra, o, es, ep, ho, hx, hd, _⟩ := (show ObjOk X.prog X.w H s.heap a (.dK kvs) from I.hok a _ ha)
    exact EqAt.str_dict b t ho hx hd hu
  · obtain ⟨its, r, pl, hz⟩ := I.list ha
    exact EqAt.str_list b t pl.isList hu
  · obtain ⟨its, r, pl, hz⟩ := I.tuple ha
    exact EqAt.str_tuple b t pl hu
theorem anyO_eq2 {pins : List (Addr × Obj)} {σ : L2.St} {H : Hp} {s : Shared} {A : Around} (I : Inv X pins σ H s) {a : Addr} (ha : AnyO X.K H a) (hu : A.units < cLine) (b : Str) (t : Tok) : EqAt A s (.ref a) (.str b t) false := by
  rcases ha with ⟨kvs, ha⟩ | ⟨vs, ha⟩ | ⟨vs, ha⟩
  · obtain ⟨_, ya, va, ra, o, es, ep, ho, hx, hd, _⟩ := (show ObjOk X.prog X.w H s.heap a (.dK kvs) from I.hok a _ ha)
    exact EqAt.dict_str b t ho hx hd hu
  · obtain ⟨its, r, pl, hz⟩ := I.list ha
    exact EqAt.list_str b t pl.isList hu
  · obtain ⟨its, r, pl, hz⟩ := I.tuple ha
    exact EqAt.tuple_str b t pl hu
/-- whether one thing is alike another, told -/
def EqV (K : PySem.W.Frag) (H : Hp) (x y : V) (k : Bool) : Prop := (∃ d e, Dp K H x d ∧ Dp K H y e ∧ SeqAt.shaped d = true ∧ SeqAt.shaped e = true ∧ k = PyData.eqv d e) ∨
  (∃ t a, x = .str t ∧ y = .ref a ∧ AnyO K H a ∧ k = false) ∨ (∃ t a, x = .ref a ∧ y = .str t ∧ AnyO K H a ∧ k = false)
theorem eqV_at {pins : List (Addr × Obj)} {σ : L2.St} {H : Hp} {s : Shared} {A : Around} (I : Inv X pins σ H s) {x y : V} {v u : Value} {k : Bool} (e : EqV X.K H x y k) (rx : RelV x v) (ry : RelV y u) (hu : A.units + 64 < cLine) : EqAt A s v u k := by
  rcases e with ⟨d, e, hd, he, sd, se, rfl⟩ | ⟨t, a, rfl, rfl, ha, rfl⟩ | ⟨t, a, rfl, rfl, ha, rfl⟩
  · obtain ⟨as, r1⟩ := Dp.reads I d x v hd rx
    obtain ⟨bs, r2⟩ := Dp.reads I e y u he ry
    exact eqAt_reads d e A s v u _ _ r1 r2 (canLay_of_shaped sd) (canLay_of_shaped se) (room_of_shaped sd hu)
  · obtain ⟨t', rfl⟩ := rx
    obtain rfl : u = Value.ref a := ry
    exact anyO_eq I ha (by omega) _ _
  · obtain ⟨t', rfl⟩ := ry
    obtain rfl : v = Value.ref a := rx
    exact anyO_eq2 I ha (by omega) _ _
inductive EqVs (K : PySem.W.Frag) (H : Hp) : List V → List V → List Bool → Prop
  | nl {ys : List V} : EqVs K H [] ys []
  | nr {xs : List V} : EqVs K H xs [] []
  | cons {x y : V} {k : Bool} {xs ys : List V} {ks : List Bool} : EqV K H x y k → EqVs K H xs ys ks → EqVs K H (x :: xs) (y :: ys) (k :: ks)
theorem EqVs.len {K : PySem.W.Frag} {H : Hp} {xs ys : List V} {ks : List Bool} (e : EqVs K H xs ys ks) : ks.length = min xs.length ys.length := by
  induction e with
  | nl => simp
  | nr => simp
  | cons _ _ ih => simp only [List.length_cons]; omega
theorem eqVs_at {pins : List (Addr × Obj)} {σ : L2.St} {H : Hp} {s : Shared} {A : Around} (I : Inv X pins σ H s) {xs ys : List V} {ks : List Bool} (e : EqVs X.K H xs ys ks) (hu : A.units + 64 < cLine) :
    ∀ {vs us : List Value}, Vals xs vs → Vals ys us → ∀ j (h1 : j < vs.length) (h2 : j < us.length), EqAt A s vs[j] us[j] (ks.getD j true) := by
  induction e with
  | nl => intro vs us r1 r2 j h1 h2; cases r1; exact absurd h1 (Nat.not_lt_zero _)
  | nr => intro vs us r1 r2 j h1 h2; cases r2; exact absurd h2 (Nat.not_lt_zero _)
  | cons q _ ih =>
    intro vs us r1 r2 j h1 h2
    cases r1 with
    | cons a1 t1 =>
      cases r2 with
      | cons a2 t2 =>
        cases j with
        | zero => exact eqV_at I q a1 a2 hu
        | succ j => exact ih t1 t2 j (by simpa using h1) (by simpa using h2)
theorem all_getD : ∀ ks : List Bool, ((List.range ks.length).all fun j => ks.getD j true) = ks.all id
  | [] => rfl
  | k :: ks => by
    rw [List.length_cons, List.range_succ_eq_map, List.all_cons, List.all_map]
    have := all_getD ks
    simp only [List.all_cons, id]
    rw [← this]
    rfl
def rEqX (K : PySem.W.Frag) (neg : Bool) : R2 := fun x y H Q => (∃ p q xs ys, x = .ref p ∧ y = .ref q ∧ SqL K H p xs ∧ SqL K H q ys ∧ (xs.length != ys.length) = true ∧ Q (.bl neg) H) ∨
  ∃ p q xs ys ks, x = .ref p ∧ y = .ref q ∧ SqT K H p xs ∧ SqT K H q ys ∧ EqVs K H xs ys ks ∧ Q (.bl (if neg then !(ks.all id && xs.length == ys.length) else ks.all id && xs.length == ys.length)) H
theorem op_eqX (hu : X.A.units + 65 < cLine) : OpR X (compareOp .Eq) (rEqX X.K false) := by
  intro pins s σ H x y v u Q I rx ry h
  have hu1 : X.A.in1.units + 64 < cLine := by simp only [Around.in1]; omega
  rcases h with ⟨p, q, xs, ys, rfl, rfl, h1, h2, hl, hq⟩ | ⟨p, q, xs, ys, ks, rfl, rfl, h1, h2, he, hq⟩
  · obtain rfl : v = Value.ref p := rx
    obtain rfl : u = Value.ref q := ry
    obtain ⟨is, r1, p1, _⟩ := I.list h1
    obtain ⟨js, r2, p2, _⟩ := I.list h2
    refine RcAt.lists_lengths p1.isList p2.isList ?_ (by omega) _ _ _ _ ⟨.bl false, H, I, rfl, hq⟩
    simpa [← r1.length, ← r2.length] using hl
  · obtain rfl : v = Value.ref p := rx
    obtain rfl : u = Value.ref q := ry
    obtain ⟨is, r1, p1, _⟩ := I.tuple h1
    obtain ⟨js, r2, p2, _⟩ := I.tuple h2
    refine RcAt.tuples (e := fun j => ks.getD j true) p1 p2 (by omega) (fun j h1 h2 => eqVs_at I he hu1 r1 r2 j (by simpa using h1) (by simpa using h2)) _ _ _ _ ⟨.bl _, H, I, rfl, ?_⟩
    have e1 : is.toArray.size = xs.length := by simp [r1.length]
    have e2 : js.toArray.size = ys.length := by simp [r2.length]
    rw [e1, e2, ← he.len, all_getD]
    exact hq
theorem op_neX (hu : X.A.units + 65 < cLine) : OpR X (compareOp .NotEq) (rEqX X.K true) := by
  intro pins s σ H x y v u Q I rx ry h
  have hu1 : X.A.in1.units + 64 < cLine := by simp only [Around.in1]; omega
  rcases h with ⟨p, q, xs, ys, rfl, rfl, h1, h2, hl, hq⟩ | ⟨p, q, xs, ys, ks, rfl, rfl, h1, h2, he, hq⟩
  · obtain rfl : v = Value.ref p := rx
    obtain rfl : u = Value.ref q := ry
    obtain ⟨is, r1, p1, _⟩ := I.list h1
    obtain ⟨js, r2, p2, _⟩ := I.list h2
    refine RcNeAt.lists_lengths p1.isList p2.isList ?_ (by omega) _ _ _ _ ⟨.bl true, H, I, rfl, hq⟩
    simpa [← r1.length, ← r2.length] using hl
  · obtain rfl : v = Value.ref p := rx
    obtain rfl : u = Value.ref q := ry
    obtain ⟨is, r1, p1, _⟩ := I.tuple h1
    obtain ⟨js, r2, p2, _⟩ := I.tuple h2
    refine RcNeAt.tuples (e := fun j => ks.getD j true) p1 p2 (by omega) (fun j h1 h2 => eqVs_at I he hu1 r1 r2 j (by simpa using h1) (by simpa using h2)) _ _ _ _ ⟨.bl _, H, I, rfl, ?_⟩
    have e1 : is.toArray.size = xs.length := by simp [r1.length]
    have e2 : js.toArray.size = ys.length := by simp [r2.length]
    rw [e1, e2, ← he.len, all_getD]
    exact hq
end
end
theorem rel_isDc {K : PySem.W.Frag} {T : Tk} {H : Hp} {h : HH} (r : RelH K T H h) {d : D} {v : V} (q : rel K T H d v) (e : isDc h d = true) : ∃ a, v = .ref a ∧ AnyO K H a := by
  unfold isDc at e
  split at e
  · unfold rel at q
    obtain ⟨a, vs, rfl, s, n, rk⟩ := q
    exact ⟨a, rfl, .inl ⟨vs, s⟩⟩
  · unfold rel at q
    obtain ⟨a, vs, rfl, s, rk⟩ := q
    exact ⟨a, rfl, .inr (.inr ⟨vs, s.sq⟩)⟩
  · unfold rel at q
    obtain ⟨a, vs, rfl, s, n, rk⟩ := q
    exact ⟨a, rfl, .inr (.inl ⟨vs, SqL.of s⟩)⟩
  · unfold rel at q
    obtain ⟨a, rfl, e2⟩ := q
    split at e
    · rename_i o e3
      obtain ⟨b, e4, q⟩ := r.at_ _ _ e3
      rw [e2] at e4; cases e4
      obtain ⟨vs, q, _⟩ := q
      exact ⟨a, rfl, .inr (.inl ⟨vs, SqL.of q⟩)⟩
    · rename_i o e3
      obtain ⟨b, e4, q⟩ := r.at_ _ _ e3
      rw [e2] at e4; cases e4
      obtain ⟨vs, q, _⟩ := q
      exact ⟨a, rfl, .inl ⟨vs, q⟩⟩
    · cases e
  · cases e
section
variable {X : Cx} {T : Tk} {H : Hp} {h : HH}
theorem sameE_sound (r : RelH X.K T H h) {a b : D} {x y : V} {k : Bool} (ra : rel X.K T H a x) (rb : rel X.K T H b y) (e : sameE h a b = some k) : EqV X.K H x y k := by
  unfold sameE at e
  split at e
  · rename_i hc
    simp only [Bool.and_eq_true, decide_eq_true_eq] at hc
    cases e
    exact .inl ⟨_, _, rel_view r ra hc.1.1.1, rel_view r rb hc.1.1.2, toP_shaped hc.1.1.1 (by omega), toP_shaped hc.1.1.2 (by omega), rfl⟩
  · split at e
    · rename_i hc
      cases e
      rw [Bool.and_eq_true] at hc
      obtain ⟨a', e3, s⟩ := rel_isDc r rb hc.2
      obtain ⟨h1, _⟩ := hc
      cases a <;> first | exact .inr (.inl ⟨_, a', (by unfold rel at ra; exact ra), e3, s, rfl⟩) | cases h1
    · split at e
      · rename_i hc
        cases e
        rw [Bool.and_eq_true] at hc
        obtain ⟨a', e3, s⟩ := rel_isDc r ra hc.1
        obtain ⟨_, h1⟩ := hc
        cases b <;> first | exact .inr (.inr ⟨_, a', e3, (by unfold rel at rb; exact rb), s, rfl⟩) | cases h1
      · cases e
theorem sameEs_sound (r : RelH X.K T H h) : ∀ {xs ys : List D} {vs us : List V} {ks : List Bool}, rels X.K T H xs vs → rels X.K T H ys us → sameEs h xs ys = some ks → EqVs X.K H vs us ks
  | [], ys, vs, us, ks, ra, rb, e => by
    unfold rels at ra; subst ra
    unfold sameEs at e; cases e
    exact .nl
  | x :: xs, [], vs, us, ks, ra, rb, e => by
    unfold rels at rb; subst rb
    unfold sameEs at e; cases e
    exact .nr
  | x :: xs, y :: ys, vs, us, ks, ra, rb, e => by
    unfold rels at ra rb
    obtain ⟨v, t, rfl, r1, r2⟩ := ra
    obtain ⟨u, t', rfl, r3, r4⟩ := rb
    unfold sameEs at e
    split at e
    · rename_i k ks' e1 e2
      cases e
      exact .cons (sameE_sound r r1 r3 e1) (sameEs_sound r r2 r4 e2)
    · cases e
theorem seqA_sound (r : RelH X.K T H h) {d : D} {v : V} {k : Bool} {xs : List D} (q : rel X.K T H d v) (e : seqA h d = some (k, xs)) : ∃ a vs, v = .ref a ∧ rels X.K T H xs vs ∧ (if k then SqT X.K H a vs else SqL X.K H a vs) := by
  unfold seqA at e
  split at e
  · cases e
    unfold rel at q
    obtain ⟨a, vs, rfl, s, rr⟩ := q
    exact ⟨a, vs, rfl, rr, s.sq⟩
  · cases e
    unfold rel at q
    obtain ⟨a, vs, rfl, s, n, rr⟩ := q
    exact ⟨a, vs, rfl, rr, SqL.of s⟩
  · unfold rel at q
    obtain ⟨a, rfl, e2⟩ := q
    split at e
    · rename_i xs e3
      cases e
      obtain ⟨b, e4, vs, e5, rr⟩ := r.at_ _ _ e3
      rw [e2] at e4; cases e4
      exact ⟨a, vs, rfl, rr, SqL.of e5⟩
    · cases e
  · cases e
theorem sameX_sound (r : RelH X.K T H h) {a b : D} {x y : V} {k : Bool} (ra : rel X.K T H a x) (rb : rel X.K T H b y) (e : sameX h a b = some k) {neg : Bool} {Q : VK} (q : Q (.bl (if neg then !k else k)) H) : rEqX X.K neg x y H Q := by
  unfold sameX at e
  split at e
  · rename_i xs ys e1 e2
    split at e
    · rename_i hl
      cases e
      obtain ⟨p, vs, rfl, rr1, s1⟩ := seqA_sound r ra e1
      obtain ⟨p', us, rfl, rr2, s2⟩ := seqA_sound r rb e2
      refine .inl ⟨p, p', vs, us, rfl, rfl, s1, s2, ?_, by cases neg <;> exact q⟩
      rw [rels_length rr1, rels_length rr2]
      exact hl
    · cases e
  · rename_i xs ys e1 e2
    cases e3 : sameEs h xs ys with
    | none => rw [e3] at e; cases e
    | some ks =>
      rw [e3] at e
      cases e
      obtain ⟨p, vs, rfl, rr1, s1⟩ := seqA_sound r ra e1
      obtain ⟨p', us, rfl, rr2, s2⟩ := seqA_sound r rb e2
      refine .inr ⟨p, p', vs, us, ks, rfl, rfl, s1, s2, sameEs_sound r rr1 rr2 e3, ?_⟩
      rw [rels_length rr1, rels_length rr2]
      exact q
  · cases e
end
end Pu

namespace Pu
open PySem PySem.Spec PyProof.Rows L2

def sz : Nat := 16777216
/-- the list that d is -/
def lview (h : HH) (d : D) : Option (List D) := match d with
  | .lst xs => some xs
  | .ref i => match h[i]? with
    | some (.lst xs) => some xs
    | _ => none
  | _ => none
def opAdd (a b : D) (h : HH) : R D := match a, b with
  | .int i, .int j => .ok (.int (i + j)) h
  | .str s, .str t => if s.length + t.length ≤ sz then .ok (.str (s ++ t)) h else .stuck
  | .tup xs, .tup ys => if xs.length + ys.length ≤ sz then .ok (.tup (xs ++ ys)) h else .stuck
  | a, b => match lview h a, lview h b with
    | some xs, some ys => if xs.length + ys.length ≤ sz then .ok (.lst (xs ++ ys)) h else .stuck
    | _, _ => .stuck
def opSub (a b : D) (h : HH) : R D := match a, b with
  | .int i, .int j => .ok (.int (i - j)) h
  | _, _ => .stuck
@[irreducible] def p64 : Int := 18446744073709551616
def opMul (a b : D) (h : HH) : R D := match a, b with
  | .int i, .int j => if (-p64 < i ∧ i < p64) ∨ (-p64 < j ∧ j < p64) then .ok (.int (i * j)) h else .stuck
  | .tup xs, .int j => if xs.length ≠ 0 ∧ xs.length ≤ 1000 ∧ 2 ≤ j ∧ j ≤ 1000 then .ok (.tup (List.replicate j.toNat xs).flatten) h else .stuck
  | _, _ => .stuck
@[irreducible] def pDv : Int := 2 ^ 250
def opDiv (a b : D) (h : HH) : R D := match a, b with
  | .int i, .int j => if 0 < j ∧ j < pDv then .ok (.int (i / j)) h else .stuck
  | _, _ => .stuck
def opMod (a b : D) (h : HH) : R D := match a, b with
  | .int i, .int j => if 0 < j then .ok (.int (i % j)) h else .stuck
  | _, _ => .stuck
def opPow (a b : D) (h : HH) : R D := match a, b with
  | .int i, .int j => if (0 ≤ j ∧ j ≤ 1000000) ∧ (-p64 < i ∧ i < p64) then .ok (.int (i ^ j.toNat)) h else .stuck
  | _, _ => .stuck
def opShl (a b : D) (h : HH) : R D := match a, b with
  | .int i, .int j => if (0 ≤ j ∧ j ≤ 1000000) ∧ (-p64 < i ∧ i < p64) then .ok (.int (i * 2 ^ j.toNat)) h else .stuck
  | _, _ => .stuck
def opShr (a b : D) (h : HH) : R D := match a, b with
  | .int i, .int j => if 0 ≤ j then .ok (.int (i / 2 ^ j.toNat)) h else .stuck
  | _, _ => .stuck
def opCmp (p : Int → Int → Bool) (q : List Nat → List Nat → Bool) (a b : D) (h : HH) : R D := match a, b with
  | .int i, .int j => .ok (.bl (p i j)) h
  | .str s, .str t => .ok (.bl (q (s.toList.map Char.toNat) (t.toList.map Char.toNat))) h
  | _, _ => .stuck
def opEq (a b : D) (h : HH) : R D := match same? h a b with
  | some k => .ok (.bl k) h
  | none => .stuck
def opNe (a b : D) (h : HH) : R D := match same? h a b with
  | some k => .ok (.bl (!k)) h
  | none => .stuck
def opIs (a b : D) (h : HH) : R D := match a, b with
  | .bl i, .bl j => .ok (.bl (i == j)) h
  | .non, .non => .ok (.bl true) h
  | _, .non => .ok (.bl false) h
  | _, _ => .stuck
def opIsNot (a b : D) (h : HH) : R D := match a, b with
  | .bl i, .bl j => .ok (.bl (!(i == j))) h
  | .non, .non => .ok (.bl false) h
  | _, .non => .ok (.bl true) h
  | _, _ => .stuck

section
variable {X : Cx} {W : WX}
theorem rdO_ok {r : R D} {P : D → HH → Prop} (q : match r with | .ok d h' => P d h' | _ => False) : ∃ d h', r = .ok d h' ∧ P d h' := by
  cases r with
  | ok d h => exact ⟨d, h, rfl, q⟩
  | exc c h => exact q.elim
  | stuck => exact q.elim
theorem rel_int_iff {K T H i v} : rel K T H (.int i) v ↔ v = .int i := by unfold rel; exact Iff.rfl
theorem rel_bl_iff {K T H i v} : rel K T H (.bl i) v ↔ v = .bl i := by unfold rel; exact Iff.rfl
theorem rel_str_iff {K T H i v} : rel K T H (.str i) v ↔ v = .str (Str.ofString i) := by unfold rel; exact Iff.rfl
theorem rel_non_iff {K T H v} : rel K T H .non v ↔ v = .non := by unfold rel; exact Iff.rfl
theorem ofStr_len (s : String) : (Str.ofString s).length = s.length := PySem.ofString_length s
theorem ofStr_app (s t : String) : Str.ofString s ++ Str.ofString t = Str.ofString (s ++ t) := by
  show Str.append _ _ = _
  unfold Str.append
  rw [Str.ofString_eq_toList, Str.ofString_eq_toList, Str.ofString_eq_toList]
  simp [String.toList_append]
theorem ofStr_inj {s t : String} (h : Str.ofString s = Str.ofString t) : s = t := by
  rw [Str.ofString_eq_toList, Str.ofString_eq_toList] at h
  have h2 : s.toList.map Char.toNat = t.toList.map Char.toNat := by simpa using h
  have h3 : s.toList = t.toList := by
    have e0 : (Char.ofNat ∘ Char.toNat) = id := by funext c; simp
    have := congrArg (List.map Char.ofNat) h2
    rw [List.map_map, List.map_map, e0, List.map_id, List.map_id] at this
    exact this
  exact String.toList_inj.mp h3
theorem rel_lview {K T H h} (r : RelH K T H h) {d : D} {v : V} {xs : List D} (q : rel K T H d v) (e : lview h d = some xs) : ∃ a vs, v = .ref a ∧ H a = some (.lst vs) ∧ rels K T H xs vs := by
  unfold lview at e
  split at e
  · cases e
    unfold rel at q
    obtain ⟨a, vs, e, s, n, q⟩ := q
    exact ⟨a, vs, e, s, q⟩
  · unfold rel at q
    obtain ⟨a, e1, q⟩ := q
    split at e
    · rename_i xs' e2
      cases e
      obtain ⟨b, e3, vs, e4, rr⟩ := r.at_ _ _ e2
      rw [q] at e3; cases e3
      exact ⟨a, vs, e1, e4, rr⟩
    · cases e
  · cases e
/-- one of two int rules -/
theorem rdO_I {o : D → D → HH → R D} {C : Int → Int → Prop} {g : Int → Int → V} {g' : Int → Int → D} (hg : ∀ T H i j, rel X.K T H (g' i j) (g i j))
    (ho : ∀ a b h d h', o a b h = .ok d h' → ∃ i j, a = .int i ∧ b = .int j ∧ C i j ∧ d = g' i j ∧ h' = h) {x y : V} {H : Hp} {Q : VK} (q0 : rdO X o x y H Q) : rI C g x y H Q := by
  obtain ⟨T, h, a, b, r, ra, rb, q0⟩ := q0
  obtain ⟨d, h', e, q⟩ := rdO_ok (P := fun d h' => ∀ T' H' v, Le T H T' H' → RelH X.K T' H' h' → rel X.K T' H' d v → Q v H') q0
  obtain ⟨i, j, rfl, rfl, c, rfl, rfl⟩ := ho _ _ _ _ _ e
  exact ⟨i, j, rel_int_iff.mp ra, rel_int_iff.mp rb, c, q T H _ Le.refl r (hg T H i j)⟩
theorem o_sub : OpR X (binaryOp .Sub) (rdO X opSub) := OpR.mono op_sub fun x y H Q q => by
  obtain ⟨i, j, h1, h2, _, h3⟩ := rdO_I (C := fun _ _ => True) (g := fun i j => .int (i - j)) (g' := fun i j => .int (i - j)) (fun _ _ _ _ => rel_int_iff.mpr rfl) (fun a b h d h' e => by
    unfold opSub at e; split at e
    · cases e; exact ⟨_, _, rfl, rfl, trivial, rfl, rfl⟩
    · cases e) q
  exact ⟨i, j, h1, h2, h3⟩
theorem p64_eq : p64 = 2 ^ 64 := by unfold p64; decide
theorem rels_rep {K T H} {ds : List D} {vs : List V} (r : rels K T H ds vs) : ∀ n : Nat, rels K T H (List.replicate n ds).flatten (List.replicate n vs).flatten
  | 0 => rels_nil
  | n + 1 => by
    rw [List.replicate_succ, List.replicate_succ, List.flatten_cons, List.flatten_cons]
    exact rels_append r (rels_rep r n)
theorem o_mul : OpR X (binaryOp .Mult) (rdO X opMul) := OpR.mono (op_mul.or op_repK) fun x y H Q q => by
  obtain ⟨T, h, a, b, r, ra, rb, q⟩ := q
  obtain ⟨d, h', e, q⟩ := rdO_ok q
  unfold opMul at e
  split at e
  · split at e
    · rename_i hc
      cases e
      rw [p64_eq] at hc
      refine .inl ⟨_, _, rel_int_iff.mp ra, rel_int_iff.mp rb, hc, q T H _ Le.refl r (rel_int_iff.mpr rfl)⟩
    · cases e
  · split at e
    · rename_i xs j hc
      cases e
      unfold rel at ra
      obtain ⟨p1, vs, rfl, s1, rv⟩ := ra
      have l1 := rels_length rv
      refine .inr ⟨p1, j, vs, rfl, rel_int_iff.mp rb, s1.sq, fun e0 => hc.1 (by rw [← l1, e0]; rfl), hc.2.2.1, hc.2.2.2, by rw [l1]; exact hc.2.1, fun p o hp ho => ?_⟩
      exact q T (upd H p (.frz o (.tup (List.replicate j.toNat vs).flatten))) _ (Le.new hp) (r.new hp) (rel_tup upd_same ho (rels_mono (Le.new hp) r.mut _ _ (rels_rep rv _)))
    · cases e
  · cases e
theorem o_div : OpR X (binaryOp .FloorDiv) (rdO X opDiv) := OpR.mono op_fdivW fun x y H Q q =>
  rdO_I (C := CDivW) (g := fun i j => .int (i / j)) (g' := fun i j => .int (i / j)) (fun _ _ _ _ => rel_int_iff.mpr rfl) (fun a b h d h' e => by
    unfold opDiv at e; split at e
    · split at e
      · rename_i i j hc
        have hb : j.natAbs < 2 ^ 250 := by
          have h1 : (j.natAbs : Int) = j := Int.natAbs_of_nonneg (Int.le_of_lt hc.1)
          have h2 := hc.2
          unfold pDv at h2
          have h3 : ((2 ^ 250 : Nat) : Int) = 2 ^ 250 := by norm_cast
          omega
        cases e; exact ⟨_, _, rfl, rfl, wide_div hc.1 hb (by decide) (by decide), rfl, rfl⟩
      · cases e
    · cases e) q
theorem o_mod : OpR X (binaryOp .Mod) (rdO X opMod) := OpR.mono op_mod fun x y H Q q =>
  rdO_I (C := fun _ j => 0 < j) (g := fun i j => .int (i % j)) (g' := fun i j => .int (i % j)) (fun _ _ _ _ => rel_int_iff.mpr rfl) (fun a b h d h' e => by
    unfold opMod at e; split at e
    · split at e
      · rename_i hc
        cases e; exact ⟨_, _, rfl, rfl, hc, rfl, rfl⟩
      · cases e
    · cases e) q
theorem nat64 {i : Int} (h1 : -p64 < i) (h2 : i < p64) : i.natAbs < 2 ^ 64 := by unfold p64 at h1 h2; omega
theorem o_pow : OpR X (binaryOp .Pow) (rdO X opPow) := OpR.mono op_pow fun x y H Q q =>
  rdO_I (C := CPow) (g := fun i j => .int (i ^ j.toNat)) (g' := fun i j => .int (i ^ j.toNat)) (fun _ _ _ _ => rel_int_iff.mpr rfl) (fun a b h d h' e => by
    unfold opPow at e; split at e
    · split at e
      · rename_i hc
        cases e; exact ⟨_, _, rfl, rfl, ⟨hc.1.1, hc.1.2, nat64 hc.2.1 hc.2.2⟩, rfl, rfl⟩
      · cases e
    · cases e) q
theorem o_shl : OpR X (binaryOp .LShift) (rdO X opShl) := OpR.mono op_shl fun x y H Q q =>
  rdO_I (C := CPow) (g := fun i j => .int (i * 2 ^ j.toNat)) (g' := fun i j => .int (i * 2 ^ j.toNat)) (fun _ _ _ _ => rel_int_iff.mpr rfl) (fun a b h d h' e => by
    unfold opShl at e; split at e
    · split at e
      · rename_i hc
        cases e; exact ⟨_, _, rfl, rfl, ⟨hc.1.1, hc.1.2, nat64 hc.2.1 hc.2.2⟩, rfl, rfl⟩
      · cases e
    · cases e) q
theorem o_shr : OpR X (binaryOp .RShift) (rdO X opShr) := OpR.mono op_shr fun x y H Q q =>
  rdO_I (C := fun _ j => 0 ≤ j) (g := fun i j => .int (i / 2 ^ j.toNat)) (g' := fun i j => .int (i / 2 ^ j.toNat)) (fun _ _ _ _ => rel_int_iff.mpr rfl) (fun a b h d h' e => by
    unfold opShr at e; split at e
    · split at e
      · rename_i hc
        cases e; exact ⟨_, _, rfl, rfl, hc, rfl, rfl⟩
      · cases e
    · cases e) q
theorem o_add : OpR X (binaryOp .Add) (rdO X opAdd) := OpR.mono (((op_add.or op_add_str).or op_catK).or op_cat) fun x y H Q q => by
  obtain ⟨T, h, a, b, r, ra, rb, q⟩ := q
  obtain ⟨d, h', e, q⟩ := rdO_ok q
  have hs : sz = sizeLine := by rw [sizeLine_eq]; rfl
  unfold opAdd at e
  split at e
  · cases e
    exact .inl (.inl (.inl ⟨_, _, rel_int_iff.mp ra, rel_int_iff.mp rb, q T H _ Le.refl r (rel_int_iff.mpr rfl)⟩))
  · split at e
    · rename_i hz
      cases e
      exact .inl (.inl (.inr ⟨_, _, rel_str_iff.mp ra, rel_str_iff.mp rb, by rw [ofStr_len, ofStr_len, ← hs]; exact hz, q T H _ Le.refl r (rel_str_iff.mpr (by rw [ofStr_app]))⟩))
    · cases e
  · split at e
    · rename_i xs ys hz
      cases e
      unfold rel at ra rb
      obtain ⟨p1, vs, rfl, s1, rv⟩ := ra
      obtain ⟨p2, ws, rfl, s2, rw'⟩ := rb
      have l1 := rels_length rv
      have l2 := rels_length rw'
      refine .inl (.inr ⟨p1, p2, vs, ws, rfl, rfl, s1.sq, s2.sq, by rw [l1, l2, ← hs]; exact hz, fun e0 => ?_, fun _ e0 => ?_, fun _ _ p o hp ho => ?_⟩)
      · refine q T H _ Le.refl r ?_
        subst e0
        have : xs = [] := List.length_eq_zero_iff.mp (by rw [← l1]; rfl)
        subst this
        unfold rel
        exact ⟨p2, ws, rfl, s2, rw'⟩
      · refine q T H _ Le.refl r ?_
        subst e0
        have : ys = [] := List.length_eq_zero_iff.mp (by rw [← l2]; rfl)
        subst this
        unfold rel
        exact ⟨p1, vs, rfl, s1, by rw [List.append_nil]; exact rv⟩
      · exact q T (upd H p (.frz o (.tup (vs ++ ws)))) _ (Le.new hp) (r.new hp) (rel_tup upd_same ho (rels_mono (Le.new hp) r.mut _ _ (rels_append rv rw')))
    · cases e
  · split at e
    · rename_i xs ys e1 e2
      split at e
      · rename_i hz
        cases e
        obtain ⟨p1, vs, rfl, s1, rv⟩ := rel_lview r ra e1
        obtain ⟨p2, ws, rfl, s2, rw'⟩ := rel_lview r rb e2
        refine .inr ⟨p1, p2, vs, ws, rfl, rfl, s1, s2, by rw [rels_length rv, rels_length rw', ← hs]; exact hz, fun p hp => ?_⟩
        exact q T (upd H p (.lst (vs ++ ws))) _ (Le.new hp) (r.new hp) (rel_lst upd_same (r.mut.free hp) (rels_mono (Le.new hp) r.mut _ _ (rels_append rv rw')))
      · cases e
    · cases e
theorem o_eq (hu : X.A.units + 65 < cLine) : OpR X (compareOp .Eq) (rdO X opEq) := OpR.mono ((op_eqD (Nat.lt_trans (by omega) hu)).or (op_eqX hu)) fun x y H Q q => by
  obtain ⟨T, h, a, b, r, ra, rb, q⟩ := q
  obtain ⟨d, h', e, q⟩ := rdO_ok q
  unfold opEq at e
  split at e
  · rename_i k e1
    cases e
    unfold same? at e1
    split at e1
    · rename_i hc
      simp only [Bool.and_eq_true, decide_eq_true_eq] at hc
      cases e1
      refine .inl ?_
      exact ⟨_, _, rel_view r ra hc.1.1.1, rel_view r rb hc.1.1.2, toP_shaped hc.1.1.1 (by omega), toP_shaped hc.1.1.2 (by omega), q T H _ Le.refl r (rel_bl_iff.mpr rfl)⟩
    · exact .inr (sameX_sound r ra rb e1 (q T H _ Le.refl r (rel_bl_iff.mpr rfl)))
  · cases e
theorem o_ne (hu : X.A.units + 65 < cLine) : OpR X (compareOp .NotEq) (rdO X opNe) := OpR.mono ((op_neD (Nat.lt_trans (by omega) hu)).or (op_neX hu)) fun x y H Q q => by
  obtain ⟨T, h, a, b, r, ra, rb, q⟩ := q
  obtain ⟨d, h', e, q⟩ := rdO_ok q
  unfold opNe at e
  split at e
  · rename_i k e1
    cases e
    unfold same? at e1
    split at e1
    · rename_i hc
      simp only [Bool.and_eq_true, decide_eq_true_eq] at hc
      cases e1
      refine .inl ?_
      exact ⟨_, _, rel_view r ra hc.1.1.1, rel_view r rb hc.1.1.2, toP_shaped hc.1.1.1 (by omega), toP_shaped hc.1.1.2 (by omega), q T H _ Le.refl r (rel_bl_iff.mpr rfl)⟩
    · exact .inr (sameX_sound r ra rb e1 (q T H _ Le.refl r (rel_bl_iff.mpr rfl)))
  · cases e
theorem rel_non_dec {K T H d v} (r : rel K T H d v) : decide (v = V.non) = (match d with | .non => true | _ => false) := by
  cases d <;> unfold rel at r
  case non => subst r; rfl
  case bl => subst r; rfl
  case int => subst r; rfl
  case str => subst r; rfl
  case ty => subst r; rfl
  case tup => obtain ⟨a, vs, rfl, _⟩ := r; rfl
  case lst => obtain ⟨a, vs, rfl, _⟩ := r; rfl
  case frz => obtain ⟨a, vs, rfl, _⟩ := r; rfl
  case dic => obtain ⟨a, vs, rfl, _⟩ := r; rfl
  case ref => obtain ⟨a, rfl, _⟩ := r; rfl
  case xc => obtain ⟨a, C, rfl, _⟩ := r; rfl
  case tux => obtain ⟨a, vs, rfl, _⟩ := r; rfl
theorem o_is : OpR X (compareOp .Is) (rdO X opIs) := OpR.mono (op_isN.or op_isBl) fun x y H Q q => by
  obtain ⟨T, h, a, b, r, ra, rb, q⟩ := q
  obtain ⟨d, h', e, q⟩ := rdO_ok q
  unfold opIs at e
  split at e
  · cases e
    exact .inr ⟨_, _, rel_bl_iff.mp ra, rel_bl_iff.mp rb, q T H _ Le.refl r (rel_bl_iff.mpr (by rw [Bool.beq_eq_decide_eq]))⟩
  · cases e
    exact .inl ⟨rel_non_iff.mp rb, q T H _ Le.refl r (rel_bl_iff.mpr (by rw [rel_non_dec ra]))⟩
  · rename_i h1
    cases e
    refine .inl ⟨rel_non_iff.mp rb, q T H _ Le.refl r (rel_bl_iff.mpr ?_)⟩
    rw [rel_non_dec ra]
    split
    · exact (h1 rfl).elim
    · rfl
  · cases e
theorem o_isNot : OpR X (compareOp .IsNot) (rdO X opIsNot) := OpR.mono (op_notN.or op_notBl) fun x y H Q q => by
  obtain ⟨T, h, a, b, r, ra, rb, q⟩ := q
  obtain ⟨d, h', e, q⟩ := rdO_ok q
  unfold opIsNot at e
  split at e
  · cases e
    exact .inr ⟨_, _, rel_bl_iff.mp ra, rel_bl_iff.mp rb, q T H _ Le.refl r (rel_bl_iff.mpr (by rw [Bool.beq_eq_decide_eq]))⟩
  · cases e
    exact .inl ⟨rel_non_iff.mp rb, q T H _ Le.refl r (rel_bl_iff.mpr (by rw [rel_non_dec ra]; rfl))⟩
  · rename_i h1
    cases e
    refine .inl ⟨rel_non_iff.mp rb, q T H _ Le.refl r (rel_bl_iff.mpr ?_)⟩
    rw [rel_non_dec ra]
    split
    · exact (h1 rfl).elim
    · rfl
  · cases e
end
end Pu

namespace Pu
open PySem PySem.Spec PyProof.Rows L2

/-! ### truth -/
def truD (h : HH) (d : D) : Option Bool := match d with
  | .non => some false
  | .bl b => some b
  | .int i => some (i != 0)
  | .str s => if s.length ≤ sz then some (s.length != 0) else none
  | .tup xs => some (!xs.isEmpty)
  | .lst xs => some (!xs.isEmpty)
  | .frz xs => some (!xs.isEmpty)
  | .dic xs => some (!xs.isEmpty)
  | .ref i => match h[i]? with
    | some (.lst xs) => some (!xs.isEmpty)
    | some (.dic xs) => some (!xs.isEmpty)
    | _ => none
  | .ty _ => none
  | .xc _ => none
  | .tux _ => none
section
variable {K : PySem.W.Frag} {T : Tk} {H : Hp} {h : HH}
theorem rels_empty {ds : List D} {vs : List V} (r : rels K T H ds vs) : vs.isEmpty = ds.isEmpty := by
  have := rels_length r
  cases ds <;> cases vs <;> first | rfl | (simp at this)
theorem relk_length : ∀ {ds : List (Ky × D)} {vs : List (Key × V)}, relk K T H ds vs → vs.length = ds.length
  | [], vs, r => by unfold relk at r; rw [r]; rfl
  | (k, d) :: ds, vs, r => by
    unfold relk at r
    obtain ⟨v, t, e, _, r2⟩ := r
    rw [e, List.length_cons, List.length_cons, relk_length r2]
theorem relk_empty {ds : List (Ky × D)} {vs : List (Key × V)} (r : relk K T H ds vs) : vs.isEmpty = ds.isEmpty := by
  have := relk_length r
  cases ds <;> cases vs <;> first | rfl | (simp at this)
theorem tru_rel (r : RelH K T H h) {d : D} {v : V} {k : Bool} (q : rel K T H d v) (e : truD h d = some k) : TruV K v H k := by
  cases d with
  | non => unfold rel at q; unfold truD at e; subst q; cases e; rfl
  | bl b => unfold rel at q; unfold truD at e; subst q; cases e; rfl
  | int i => unfold rel at q; unfold truD at e; subst q; cases e; rfl
  | str s =>
    unfold rel at q; unfold truD at e; subst q
    dsimp only at e
    split at e
    · rename_i hz
      cases e
      refine ⟨by rw [ofStr_len, sizeLine_eq]; exact hz, ?_⟩
      rw [ofStr_len]
      cases s.length with
      | zero => rfl
      | succ n => first | rfl | (simp; try omega)
    · cases e
  | tup xs =>
    unfold rel at q; unfold truD at e; cases e
    obtain ⟨a, vs, rfl, s, q⟩ := q
    exact .inr (.inl ⟨vs, s.sq, by rw [rels_empty q]⟩)
  | lst xs =>
    unfold rel at q; unfold truD at e; cases e
    obtain ⟨a, vs, rfl, s, n, q⟩ := q
    exact .inl ⟨vs, SqL.of s, by rw [rels_empty q]⟩
  | frz xs =>
    unfold rel at q; unfold truD at e; cases e
    obtain ⟨a, vs, rfl, s, q⟩ := q
    exact .inl ⟨vs, s.elim (fun s => .inl s.1) fun s => s H, by rw [rels_empty q]⟩
  | dic xs =>
    unfold rel at q; unfold truD at e; cases e
    obtain ⟨a, vs, rfl, s, n, q⟩ := q
    exact .inr (.inr ⟨vs, s, by rw [relk_empty q]⟩)
  | ref i =>
    unfold rel at q; unfold truD at e
    obtain ⟨a, rfl, q⟩ := q
    dsimp only at e
    split at e
    · rename_i xs e2
      cases e
      obtain ⟨b, e3, vs, e4, rr⟩ := r.at_ _ _ e2
      rw [q] at e3; cases e3
      exact .inl ⟨vs, SqL.of e4, by rw [rels_empty rr]⟩
    · rename_i xs e2
      cases e
      obtain ⟨b, e3, vs, e4, rr⟩ := r.at_ _ _ e2
      rw [q] at e3; cases e3
      exact .inr (.inr ⟨vs, e4, by rw [relk_empty rr]⟩)
    · cases e
  | ty n => unfold truD at e; cases e
  | xc n => unfold truD at e; cases e
  | tux n => unfold truD at e; cases e
end
def ofB {α : Type} (o : Option Bool) (h : HH) (k : Bool → R α) : R α := match o with
  | some b => k b
  | none => .stuck
def tV (f : Ex) : Et := fun env h => (f env h).bind fun d h1 => ofB (truD h1 d) h1 fun b => .ok b h1
def tAndP (f g : Et) : Et := fun env h => (f env h).bind fun b h1 => if b = true then g env h1 else .ok false h1
def tOrP (f g : Et) : Et := fun env h => (f env h).bind fun b h1 => if b = true then .ok true h1 else g env h1
def tNotP (f : Et) : Et := fun env h => (f env h).bind fun b h1 => .ok (!b) h1
def eAnd (f g : Ex) : Ex := fun env h => (f env h).bind fun d h1 => ofB (truD h1 d) h1 fun b => if b = true then g env h1 else .ok d h1
def eOr (f g : Ex) : Ex := fun env h => (f env h).bind fun d h1 => ofB (truD h1 d) h1 fun b => if b = true then .ok d h1 else g env h1
def eNot (f : Ex) : Ex := fun env h => (f env h).bind fun d h1 => ofB (truD h1 d) h1 fun b => .ok (.bl (!b)) h1
def eIf (c : Et) (f g : Ex) : Ex := fun env h => (c env h).bind fun b h1 => if b = true then f env h1 else g env h1
section
variable {X : Cx} {W : WX} {a b c : Expr} {f g : Ex} {s t : Et} {pos : Pos} {rest : List Expr}
theorem After.ofB {K : PySem.W.Frag} {mg : Str → Option Value} {W : WX} {T : Tk} {H : Hp} {σ : L2.St} {α β : Type} {q : Tk → Hp → α → β → Prop} {Q : β → Hp → Prop} {o : Option Bool} {h : HH} {k : Bool → R α}
    (a : After K mg W T H σ q Q (ofB o h k)) : ∃ b, o = some b ∧ After K mg W T H σ q Q (k b) := by
  cases o with
  | none => exact a.elim
  | some b => exact ⟨b, rfl, a⟩
theorem st_val (hf : SE X W a f) (he : ∀ whole, isTrue a X.env whole = (do let v ← whole; standAt a.pos; holding [v] (truthy v)) := by intro _; rfl) : ST X W a (tV f) :=
  PT.mono (pt_truth hf he) fun σ H Q hh => by
    obtain ⟨T, env, h, r1, r2, a⟩ := hh
    refine ⟨T, env, h, r1, r2, a.bind r1.mut fun d h1 T1 H1 v _ l1 q1 rv a1 => ?_⟩
    obtain ⟨k, e, a2⟩ := a1.ofB
    exact ⟨k, tru_rel q1 rv e, a2.done q1 rfl⟩
theorem sw_and1 (hs : ST X W a s) : SW X W (.BoolOp .And [a] pos) s := pw_and1 hs
theorem sw_or1 (hs : ST X W a s) : SW X W (.BoolOp .Or [a] pos) s := pw_or1 hs
theorem sw_and (hs : ST X W a s) (ht : SW X W (.BoolOp .And (b :: rest) pos) t) : SW X W (.BoolOp .And (a :: b :: rest) pos) (tAndP s t) :=
  PW.mono (pw_and hs ht) fun σ H Q hh => by
    obtain ⟨T, env, h, r1, r2, a⟩ := hh
    refine ⟨T, env, h, r1, r2, a.bind r1.mut fun k h1 T1 H1 v _ l1 q1 rv a1 => ?_⟩
    subst rv
    by_cases hk : k = true
    · rw [if_pos hk] at a1 ⊢
      exact ⟨T1, env, h1, q1, relE_mono l1 r1.mut r2, a1⟩
    · rw [if_neg hk] at a1 ⊢
      exact a1.done q1 rfl
theorem sw_or (hs : ST X W a s) (ht : SW X W (.BoolOp .Or (b :: rest) pos) t) : SW X W (.BoolOp .Or (a :: b :: rest) pos) (tOrP s t) :=
  PW.mono (pw_or hs ht) fun σ H Q hh => by
    obtain ⟨T, env, h, r1, r2, a⟩ := hh
    refine ⟨T, env, h, r1, r2, a.bind r1.mut fun k h1 T1 H1 v _ l1 q1 rv a1 => ?_⟩
    subst rv
    by_cases hk : k = true
    · rw [if_pos hk] at a1 ⊢
      exact a1.done q1 rfl
    · rw [if_neg hk] at a1 ⊢
      exact ⟨T1, env, h1, q1, relE_mono l1 r1.mut r2, a1⟩
theorem st_w (hs : SW X W a s) : ST X W a s := PW.pt hs
theorem st_not (hs : ST X W a s) : ST X W (.UnaryOp .Not a pos) (tNotP s) :=
  PT.mono (pt_not hs) fun σ H Q hh => by
    obtain ⟨T, env, h, r1, r2, a⟩ := hh
    refine ⟨T, env, h, r1, r2, a.bind r1.mut fun k h1 T1 H1 v _ l1 q1 rv a1 => ?_⟩
    subst rv
    exact a1.done q1 rfl
theorem se_one {op} (h : SE X W a f) : SE X W (.BoolOp op [a] pos) f := pe_one h
theorem se_and (ha : SE X W a f) (hb : SE X W (.BoolOp .And (b :: rest) pos) g) : SE X W (.BoolOp .And (a :: b :: rest) pos) (eAnd f g) :=
  PE.mono (pe_andT ha hb) fun σ H Q hh => by
    obtain ⟨T, env, h, r1, r2, a⟩ := hh
    refine ⟨T, env, h, r1, r2, a.bind r1.mut fun d h1 T1 H1 v _ l1 q1 rv a1 => ?_⟩
    obtain ⟨k, e, a2⟩ := a1.ofB
    refine ⟨k, tru_rel q1 rv e, ?_⟩
    by_cases hk : k = true
    · rw [if_pos hk] at a2 ⊢
      exact ⟨T1, env, h1, q1, relE_mono l1 r1.mut r2, a2⟩
    · rw [if_neg hk] at a2 ⊢
      exact a2.done q1 rv
theorem se_or (ha : SE X W a f) (hb : SE X W (.BoolOp .Or (b :: rest) pos) g) : SE X W (.BoolOp .Or (a :: b :: rest) pos) (eOr f g) :=
  PE.mono (pe_orT ha hb) fun σ H Q hh => by
    obtain ⟨T, env, h, r1, r2, a⟩ := hh
    refine ⟨T, env, h, r1, r2, a.bind r1.mut fun d h1 T1 H1 v _ l1 q1 rv a1 => ?_⟩
    obtain ⟨k, e, a2⟩ := a1.ofB
    refine ⟨k, tru_rel q1 rv e, ?_⟩
    by_cases hk : k = true
    · rw [if_pos hk] at a2 ⊢
      exact a2.done q1 rv
    · rw [if_neg hk] at a2 ⊢
      exact ⟨T1, env, h1, q1, relE_mono l1 r1.mut r2, a2⟩
theorem se_not (ha : SE X W a f) : SE X W (.UnaryOp .Not a pos) (eNot f) :=
  PE.mono (pe_notT ha) fun σ H Q hh => by
    obtain ⟨T, env, h, r1, r2, a⟩ := hh
    refine ⟨T, env, h, r1, r2, a.bind r1.mut fun d h1 T1 H1 v _ l1 q1 rv a1 => ?_⟩
    obtain ⟨k, e, a2⟩ := a1.ofB
    exact ⟨k, tru_rel q1 rv e, a2.done q1 (rel_bl_iff.mpr rfl)⟩
theorem se_if (hc : ST X W c t) (ha : SE X W a f) (hb : SE X W b g) : SE X W (.IfExp c a b pos) (eIf t f g) :=
  PE.mono (pe_ifExp hc ha hb) fun σ H Q hh => by
    obtain ⟨T, env, h, r1, r2, a⟩ := hh
    refine ⟨T, env, h, r1, r2, a.bind r1.mut fun k h1 T1 H1 v _ l1 q1 rv a1 => ?_⟩
    subst rv
    by_cases hk : k = true
    · rw [if_pos hk] at a1 ⊢
      exact ⟨T1, env, h1, q1, relE_mono l1 r1.mut r2, a1⟩
    · rw [if_neg hk] at a1 ⊢
      exact ⟨T1, env, h1, q1, relE_mono l1 r1.mut r2, a1⟩
end

/-! ### order -/
def intsD : List D → Option (List Int)
  | [] => some []
  | .int i :: ds => (intsD ds).map (i :: ·)
  | _ :: _ => none
def opLt (a b : D) (h : HH) : R D := match a, b with
  | .int i, .int j => .ok (.bl (decide (i < j))) h
  | .tup xs, .tup ys => match intsD xs, intsD ys with
    | some ns, some ms => .ok (.bl (HT.lexLt ns ms)) h
    | _, _ => .stuck
  | _, _ => .stuck
def opLe (a b : D) (h : HH) : R D := match a, b with
  | .int i, .int j => .ok (.bl (decide (i ≤ j))) h
  | _, _ => .stuck
def opGt (a b : D) (h : HH) : R D := match a, b with
  | .int i, .int j => .ok (.bl (decide (j < i))) h
  | _, _ => .stuck
def opGe (a b : D) (h : HH) : R D := match a, b with
  | .int i, .int j => .ok (.bl (decide (j ≤ i))) h
  | _, _ => .stuck
section
variable {X : Cx} {W : WX}
theorem rels_ints {K T H} : ∀ {ds : List D} {vs : List V} {ns : List Int}, rels K T H ds vs → intsD ds = some ns → vs = ns.map V.int
  | [], vs, ns, r, e => by unfold rels at r; unfold intsD at e; cases e; rw [r]; rfl
  | d :: ds, vs, ns, r, e => by
    unfold rels at r
    obtain ⟨v, t, rfl, r1, r2⟩ := r
    unfold intsD at e
    split at e
    · rename_i heq; cases heq
    · rename_i i ds' heq
      cases heq
      cases e2 : intsD ds with
      | none => rw [e2] at e; cases e
      | some ms =>
        rw [e2] at e; cases e
        rw [rels_ints r2 e2, rel_int_iff.mp r1]; rfl
    · cases e
theorem o_lt (hu : X.A.units < cLine) : OpR X (compareOp .Lt) (rdO X opLt) := OpR.mono (op_lt.or (op_ltT hu)) fun x y H Q q => by
  obtain ⟨T, h, a, b, r, ra, rb, q⟩ := q
  obtain ⟨d, h', e, q⟩ := rdO_ok q
  unfold opLt at e
  split at e
  · cases e
    exact .inl ⟨_, _, rel_int_iff.mp ra, rel_int_iff.mp rb, q T H _ Le.refl r (rel_bl_iff.mpr rfl)⟩
  · split at e
    · rename_i ns ms e1 e2
      cases e
      unfold rel at ra rb
      obtain ⟨p1, vs, rfl, s1, rv⟩ := ra
      obtain ⟨p2, ws, rfl, s2, rw'⟩ := rb
      exact .inr ⟨p1, p2, ns, ms, rfl, rfl, rels_ints rv e1 ▸ s1.sq, rels_ints rw' e2 ▸ s2.sq, q T H _ Le.refl r (rel_bl_iff.mpr rfl)⟩
    · cases e
  · cases e
theorem o_le : OpR X (compareOp .LtE) (rdO X opLe) := OpR.mono op_le fun x y H Q q => by
  obtain ⟨i, j, h1, h2, _, h3⟩ := rdO_I (C := fun _ _ => True) (g := fun i j => .bl (decide (i ≤ j))) (g' := fun i j => .bl (decide (i ≤ j))) (fun _ _ _ _ => rel_bl_iff.mpr rfl) (fun a b h d h' e => by
    unfold opLe at e; split at e
    · cases e; exact ⟨_, _, rfl, rfl, trivial, rfl, rfl⟩
    · cases e) q
  exact ⟨i, j, h1, h2, h3⟩
theorem o_gt : OpR X (compareOp .Gt) (rdO X opGt) := OpR.mono op_gt fun x y H Q q => by
  obtain ⟨i, j, h1, h2, _, h3⟩ := rdO_I (C := fun _ _ => True) (g := fun i j => .bl (decide (j < i))) (g' := fun i j => .bl (decide (j < i))) (fun _ _ _ _ => rel_bl_iff.mpr rfl) (fun a b h d h' e => by
    unfold opGt at e; split at e
    · cases e; exact ⟨_, _, rfl, rfl, trivial, rfl, rfl⟩
    · cases e) q
  exact ⟨i, j, h1, h2, h3⟩
theorem o_ge : OpR X (compareOp .GtE) (rdO X opGe) := OpR.mono op_ge fun x y H Q q => by
  obtain ⟨i, j, h1, h2, _, h3⟩ := rdO_I (C := fun _ _ => True) (g := fun i j => .bl (decide (j ≤ i))) (g' := fun i j => .bl (decide (j ≤ i))) (fun _ _ _ _ => rel_bl_iff.mpr rfl) (fun a b h d h' e => by
    unfold opGe at e; split at e
    · cases e; exact ⟨_, _, rfl, rfl, trivial, rfl, rfl⟩
    · cases e) q
  exact ⟨i, j, h1, h2, h3⟩
/-- a < b < c -/
def eChain (o o' : D → D → HH → R D) (f g k : Ex) : Ex := fun env h => (f env h).bind fun a h1 => (g env h1).bind fun b h2 => (noX (o a b h2)).bind fun d h3 => match d with
  | .bl true => (k env h3).bind fun c h4 => noX (o' b c h4)
  | .bl false => .ok (.bl false) h3
  | _ => .stuck
theorem rd_chain {o o' : D → D → HH → R D} {f g k : Ex} {σ : L2.St} {H : Hp} {Q : VK} (hh : rd X W (eChain o o' f g k) σ H Q) : tChain (rdO X o) (rdO X o') (rd X W f) (rd X W g) (rd X W k) σ H Q := by
  obtain ⟨T, env, h, r1, r2, a⟩ := hh
  refine ⟨T, env, h, r1, r2, a.bind r1.mut fun d h1 T1 H1 v _ l1 q1 rv a1 => ?_⟩
  refine ⟨T1, env, h1, q1, relE_mono l1 r1.mut r2, a1.bind q1.mut fun e h2 T2 H2 u _ l2 q2 ru a2 => ?_⟩
  refine ⟨T2, h2, d, e, q2, rel_mono l2 q1.mut d v rv, ru, ?_⟩
  revert a2
  cases o d e h2 with
  | ok d' h' =>
    intro a2 T3 H3 v3 l3 q3 rv3
    have a3 := After.later a2 l3 q2.mut
    revert a3
    cases d' with
    | bl k' =>
      rw [rel_bl_iff] at rv3
      subst rv3
      cases k' with
      | true =>
        intro a3
        refine ⟨true, rfl, ?_⟩
        rw [if_pos rfl]
        refine ⟨T3, env, h', q3, relE_mono (l1.trans r1.mut (l2.trans q1.mut l3)) r1.mut r2, After.bind a3 q3.mut fun c h4 T4 H4 z _ l4 q4 rz a4 => ?_⟩
        refine ⟨T4, h4, e, c, q4, rel_mono (l3.trans q2.mut l4) q2.mut e u ru, rz, ?_⟩
        revert a4
        cases o' e c h4 with
        | ok d' h' => exact fun a2 T' H' v' l r q => a2 T' H' v' l r q
        | exc c h' => exact fun a2 => a2
        | stuck => exact fun a2 => a2
      | false =>
        intro a3
        refine ⟨false, rfl, ?_⟩
        rw [if_neg Bool.false_ne_true]
        exact After.done a3 q3 (rel_bl_iff.mpr rfl)
    | _ => exact fun a3 => False.elim a3
  | exc c h' => exact fun a2 => a2
  | stuck => exact fun a2 => a2
theorem se_chain {op op' : CmpOp} {o o' : D → D → HH → R D} {a b c : Expr} {f g k : Ex} {pos : Pos} (ho : OpR X (compareOp op) (rdO X o)) (ho' : OpR X (compareOp op') (rdO X o')) (ha : SE X W a f) (hb : SE X W b g) (hc : SE X W c k)
    (hm : lastMarks [op, op'] [b, c] = false := by with_unfolding_all rfl) : SE X W (.Compare a [op, op'] [b, c] pos) (eChain o o' f g k) :=
  PE.mono (pe_chain ho ho' ha hb hc hm) fun _ _ _ => rd_chain
/-- a truth as a test -/
def tB (f : Ex) : Et := fun env h => (f env h).bind fun d h1 => match d with
  | .bl b => .ok b h1
  | _ => .stuck
theorem rd_tB {f : Ex} {σ : L2.St} {H : Hp} {Q : Bool → Hp → Prop} (hh : rdt X W (tB f) σ H Q) : rd X W f σ H fun x H' => ∃ k, x = .bl k ∧ Q k H' := by
  obtain ⟨T, env, h, r1, r2, a⟩ := hh
  refine ⟨T, env, h, r1, r2, a.bind r1.mut fun d h1 T1 H1 v _ l1 q1 rv a1 => ?_⟩
  cases d with
  | bl b => exact ⟨b, rel_bl_iff.mp rv, After.done a1 q1 rfl⟩
  | _ => exact False.elim a1
theorem st_chain {op op' : CmpOp} {o o' : D → D → HH → R D} {a b c : Expr} {f g k : Ex} {pos : Pos} (ho : OpR X (compareOp op) (rdO X o)) (ho' : OpR X (compareOp op') (rdO X o')) (ha : SE X W a f) (hb : SE X W b g) (hc : SE X W c k)
    (hm : lastMarks [op, op'] [b, c] = false := by with_unfolding_all rfl) : ST X W (.Compare a [op, op'] [b, c] pos) (tB (eChain o o' f g k)) :=
  PT.mono (pt_chain ho ho' ha hb hc hm) fun _ _ _ hh => rd_chain (rd_tB hh)
end
end Pu

namespace Pu
open PySem PySem.Spec PyProof.Rows L2

/-! ### subscripts -/
/-- the items of a sequence -/
def itemsL (h : HH) (d : D) : Option (List D) := match d with
  | .lst xs => some xs
  | .frz xs => some xs
  | .ref i => match h[i]? with
    | some (.lst xs) => some xs
    | _ => none
  | _ => none
def items (h : HH) (d : D) : Option (List D) := match d with
  | .tup xs => some xs
  | d => itemsL h d
def ofO {α β : Type} (o : Option α) (k : α → R β) : R β := match o with
  | some a => k a
  | none => .stuck
def chD (c : Char) : D := .str (String.ofList [c])
def opIx (a b : D) (h : HH) : R D := match a, b with
  | .str s, .int i => if s.length ≤ sz then ofO (atI s.toList i) fun c => .ok (chD c) h else .stuck
  | a, .int i => ofO (items h a) fun xs => ofO (atI xs i) fun d => .ok d h
  | _, _ => .stuck
def cut {α : Type} (xs : List α) (lo hi : Option Int) : List α := (xs.drop (HT.sIx xs.length 0 lo)).take (HT.sIx xs.length xs.length hi - HT.sIx xs.length 0 lo)
def opSl (a : D) (lo hi : Option Int) (h : HH) : R D := match a with
  | .tup xs => .ok (.tup (cut xs lo hi)) h
  | .str s => if s.length ≤ sz then .ok (.str (String.ofList (cut s.toList lo hi))) h else .stuck
  | a => ofO (itemsL h a) fun xs => .ok (.lst (cut xs lo hi)) h
section
variable {X : Cx} {W : WX}
theorem IxR.mono {r r' : R2} (h : IxR X r) (i : ∀ x y H Q, r' x y H Q → r x y H Q) : IxR X r' :=
  fun value slice pins s σ H x y v u Q I rx ry q => h value slice pins s σ H x y v u Q I rx ry (i _ _ _ _ q)
theorem atI_map {α β : Type} {f : α → β} {xs : List α} {i : Int} {v : α} (e : atI xs i = some v) : atI (xs.map f) i = some (f v) := by
  unfold atI at e ⊢
  rw [List.length_map]
  cases e2 : ixN xs.length i with
  | none => rw [e2] at e; cases e
  | some j =>
    rw [e2] at e
    have e : xs[j]? = some v := e
    show (xs.map f)[j]? = some (f v)
    rw [List.getElem?_map, e]; rfl
theorem atI_rels {K T H} {ds : List D} {vs : List V} (r : rels K T H ds vs) {i : Int} {d : D} (e : atI ds i = some d) : ∃ v, atI vs i = some v ∧ rel K T H d v := by
  unfold atI at e ⊢
  rw [rels_length r]
  cases e2 : ixN ds.length i with
  | none => rw [e2] at e; cases e
  | some j =>
    rw [e2] at e
    exact rels_get r e
theorem cps_of (s : String) : (Str.ofString s).cps.toList = s.toList.map Char.toNat := by rw [Str.ofString_eq_toList]
theorem ch_of (c : Char) : Str.ofString (String.ofList [c]) = ⟨#[c.toNat]⟩ := by
  rw [Str.ofString_eq_toList, String.toList_ofList]; rfl
theorem rel_itemsL {K T H h} (r : RelH K T H h) {d : D} {v : V} {xs : List D} (q : rel K T H d v) (e : itemsL h d = some xs) : ∃ a vs, v = .ref a ∧ SqL K H a vs ∧ rels K T H xs vs := by
  unfold itemsL at e
  split at e
  · cases e
    unfold rel at q
    obtain ⟨a, vs, e, s, n, q⟩ := q
    exact ⟨a, vs, e, SqL.of s, q⟩
  · cases e
    unfold rel at q
    obtain ⟨a, vs, e, s, q⟩ := q
    exact ⟨a, vs, e, s.elim (fun s => .inl s.1) fun s => s H, q⟩
  · unfold rel at q
    obtain ⟨a, e1, q⟩ := q
    split at e
    · rename_i xs' e2
      cases e
      obtain ⟨b, e3, vs, e4, rr⟩ := r.at_ _ _ e2
      rw [q] at e3; cases e3
      exact ⟨a, vs, e1, SqL.of e4, rr⟩
    · cases e
  · cases e
theorem rel_items {K T H h} (r : RelH K T H h) {d : D} {v : V} {xs : List D} (q : rel K T H d v) (e : items h d = some xs) : ∃ a vs, v = .ref a ∧ (SqL K H a vs ∨ SqT K H a vs) ∧ rels K T H xs vs := by
  unfold items at e
  split at e
  · cases e
    unfold rel at q
    obtain ⟨a, vs, e, s, q⟩ := q
    exact ⟨a, vs, e, .inr s.sq, q⟩
  · obtain ⟨a, vs, e, s, q⟩ := rel_itemsL r q e
    exact ⟨a, vs, e, .inl s, q⟩
theorem i_ix : IxR X (rdO X opIx) := IxR.mono ix_seq fun x y H Q q => by
  obtain ⟨T, h, a, b, r, ra, rb, q⟩ := q
  obtain ⟨d, h', e, q⟩ := rdO_ok q
  unfold opIx at e
  split at e
  · split at e
    · rename_i s i hz
      cases e2 : atI s.toList i with
      | none => rw [e2] at e; cases e
      | some c =>
        rw [e2] at e
        cases e
        refine .inr (.inr ⟨_, _, c.toNat, rel_str_iff.mp ra, rel_int_iff.mp rb, by rw [ofStr_len, sizeLine_eq]; exact hz, by rw [cps_of]; exact atI_map e2, ?_⟩)
        exact q T H _ Le.refl r (by unfold chD; exact rel_str_iff.mpr (by rw [ch_of]))
    · cases e
  · rename_i i _
    cases e2 : items h a with
    | none => rw [e2] at e; cases e
    | some xs =>
      rw [e2] at e
      have e : (ofO (atI xs i) fun d => R.ok d h) = R.ok d h' := e
      cases e3 : atI xs i with
      | none => rw [e3] at e; cases e
      | some c =>
        rw [e3] at e
        cases e
        obtain ⟨p, vs, rfl, s, rv⟩ := rel_items r ra e2
        obtain ⟨v, e4, r4⟩ := atI_rels rv e3
        rcases s with s | s
        · exact .inl ⟨p, vs, i, v, rfl, rel_int_iff.mp rb, s, e4, q T H _ Le.refl r r4⟩
        · exact .inr (.inl ⟨p, vs, i, v, rfl, rel_int_iff.mp rb, s, e4, q T H _ Le.refl r r4⟩)
  · cases e
theorem se_ix {a b : Expr} {f g : Ex} {pos : Pos} (ha : SE X W a f) (hb : SE X W b g) (hs : PlainIx b := by exact fun _ _ => rfl) : SE X W (.Subscript a b pos) (eOp opIx f g) :=
  PE.mono (pe_ix i_ix ha hb hs) fun _ _ _ => rd_op

/-! ### slices -/
abbrev Eo := En → HH → R (Option Int)
structure SO (X : Cx) (W : WX) (e : Option Expr) (f : Eo) : Prop where
  po : PO X e (rdG X.K X.mg W (fun _ _ a b => a = b) f)
def oNo : Eo := fun _ h => .ok none h
def oSo (f : Ex) : Eo := fun env h => (f env h).bind fun d h1 => match d with
  | .int i => .ok (some i) h1
  | _ => .stuck
theorem PO.mono {e : Option Expr} {t t' : TO} (h : PO X e t) (i : ∀ σ H Q, t' σ H Q → t σ H Q) : PO X e t' := ⟨fun pins s σ H Q I hq => h.run pins s σ H Q I (i σ H Q hq)⟩
theorem so_no : SO X W none oNo := ⟨PO.mono po_none fun σ H Q h => by
  obtain ⟨T, env, hh, r1, r2, a⟩ := h
  exact a.done r1 rfl⟩
theorem so_so {e : Expr} {f : Ex} (hf : SE X W e f) : SO X W (some e) (oSo f) := ⟨PO.mono (po_some hf) fun σ H Q h => by
  obtain ⟨T, env, hh, r1, r2, a⟩ := h
  refine ⟨T, env, hh, r1, r2, a.bind r1.mut fun d h1 T1 H1 v _ l1 q1 rv a1 => ?_⟩
  cases d with
  | int i => exact ⟨i, rel_int_iff.mp rv, After.done a1 q1 rfl⟩
  | _ => exact False.elim a1⟩
def eSl (f : Ex) (lo hi : Eo) : Ex := fun env h => (f env h).bind fun a h1 => (lo env h1).bind fun l h2 => (hi env h2).bind fun u h3 => noX (opSl a l u h3)
def rdS (X : Cx) : V → Option Int → Option Int → Hp → VK → Prop := fun x lo hi H Q => ∃ T h a, RelH X.K T H h ∧ rel X.K T H a x ∧ match opSl a lo hi h with
  | .ok d h' => ∀ T' H' v, Le T H T' H' → RelH X.K T' H' h' → rel X.K T' H' d v → Q v H'
  | _ => False
theorem SlR.mono {r r' : V → Option Int → Option Int → Hp → VK → Prop} (h : SlR X r) (i : ∀ x lo hi H Q, r' x lo hi H Q → r x lo hi H Q) : SlR X r' :=
  fun pins s σ H x v vl vu lo hi sl Q I rx hs pl pu q => h pins s σ H x v vl vu lo hi sl Q I rx hs pl pu (i _ _ _ _ _ q)
theorem rels_cut {K T H} {ds : List D} {vs : List V} (lo hi : Option Int) (r : rels K T H ds vs) : rels K T H (cut ds lo hi) (cutV vs lo hi) := by
  unfold cut cutV
  rw [rels_length r]
  exact rels_take _ (rels_drop _ r)
theorem cut_whole {α : Type} {xs : List α} {lo hi : Option Int} (h : HT.sIx xs.length 0 lo = 0 ∧ HT.sIx xs.length xs.length hi = xs.length) : cut xs lo hi = xs := by
  unfold cut
  rw [h.1, h.2]; simp
theorem cut_map {α β : Type} {f : α → β} (xs : List α) (lo hi : Option Int) : cut (xs.map f) lo hi = (cut xs lo hi).map f := by
  unfold cut
  rw [List.length_map, List.map_take, List.map_drop]
theorem cutS_of (s : String) (lo hi : Option Int) : cutS (Str.ofString s) lo hi = Str.ofString (String.ofList (cut s.toList lo hi)) := by
  have hl : (Str.ofString s).length = (s.toList.map Char.toNat).length := by rw [← cps_of]; unfold Str.length; simp
  have := cut_map (f := Char.toNat) s.toList lo hi
  unfold cut at this ⊢
  unfold cutS
  rw [hl, cps_of, this, Str.ofString_eq_toList (String.ofList _), String.toList_ofList]
theorem l_sl : SlR X (rdS X) := SlR.mono ((sl_tupK.or sl_list).or sl_str) fun x lo hi H Q q => by
  obtain ⟨T, h, a, r, ra, q⟩ := q
  obtain ⟨d, h', e, q⟩ := rdO_ok q
  unfold opSl at e
  split at e
  · cases e
    unfold rel at ra
    obtain ⟨p, vs, rfl, s, rv⟩ := ra
    refine .inl (.inl ⟨p, vs, rfl, s.sq, fun hw => q T H _ Le.refl r ?_, fun _ p o hp ho => q T _ _ (Le.new hp) (r.new hp) (rel_tup upd_same ho (rels_mono (Le.new hp) r.mut _ _ (rels_cut lo hi rv)))⟩)
    rw [rels_length rv] at hw
    rw [cut_whole hw]
    unfold rel
    exact ⟨p, vs, rfl, s, rv⟩
  · split at e
    · rename_i s hz
      cases e
      refine .inr ⟨_, rel_str_iff.mp ra, by rw [ofStr_len, sizeLine_eq]; exact hz, q T H _ Le.refl r (rel_str_iff.mpr ?_)⟩
      rw [cutS_of]
    · cases e
  · rename_i a' _ _
    cases e2 : itemsL h a with
    | none => rw [e2] at e; cases e
    | some xs =>
      rw [e2] at e
      cases e
      obtain ⟨p, vs, rfl, s, rv⟩ := rel_itemsL r ra e2
      exact .inl (.inr ⟨p, vs, rfl, s, fun p hp => q T _ _ (Le.new hp) (r.new hp) (rel_lst upd_same (r.mut.free hp) (rels_mono (Le.new hp) r.mut _ _ (rels_cut lo hi rv)))⟩)
theorem se_sl {a : Expr} {lo hi : Option Expr} {f : Ex} {g k : Eo} {pos p2 : Pos} (ha : SE X W a f) (hl : SO X W lo g) (hu : SO X W hi k) : SE X W (.Subscript a (.Slice lo hi none p2) pos) (eSl f g k) :=
  PE.mono (pe_slice l_sl ha hl.po hu.po) fun σ H Q hh => by
    obtain ⟨T, env, h, r1, r2, a⟩ := hh
    refine ⟨T, env, h, r1, r2, a.bind r1.mut fun d h1 T1 H1 v _ l1 q1 rv a1 => ?_⟩
    refine ⟨T1, env, h1, q1, relE_mono l1 r1.mut r2, a1.bind q1.mut fun l h2 T2 H2 u _ l2 q2 ru a2 => ?_⟩
    subst ru
    refine ⟨T2, env, h2, q2, relE_mono (l1.trans r1.mut l2) r1.mut r2, a2.bind q2.mut fun l' h3 T3 H3 u _ l3 q3 ru a3 => ?_⟩
    subst ru
    refine ⟨T3, h3, d, q3, rel_mono (l2.trans q1.mut l3) q1.mut d v rv, ?_⟩
    revert a3
    cases opSl d l l' h3 with
    | ok d' h' => exact fun a2 T' H' v' l r q => a2 T' H' v' l r q
    | exc c h' => exact fun a2 => a2
    | stuck => exact fun a2 => a2
end
end Pu

namespace Pu
open PySem PySem.Spec PyProof.Rows L2

section
open PySem.SeqAt MeetsSeq
open AutoSeq1 (wpAny_loadPart')
def rInDict (K : PySem.W.Frag) (neg : Bool) : R2 := fun x y H Q => ∃ a p xs, x = .ref a ∧ AnyO K H a ∧ y = .ref p ∧ (SqL K H p xs ∨ SqT K H p xs) ∧ (∀ z ∈ xs, ∃ t, z = V.str t) ∧ Q (.bl neg) H
theorem vals_strs : ∀ {xs : List V} {us : List Value}, Vals xs us → (∀ z ∈ xs, ∃ t, z = V.str t) → ∀ u ∈ us, ∃ b t, u = .str b t
  | _, _, .nil, _, u, hu => by cases hu
  | x :: xs, v :: us, .cons r t, f, u, hu => by
    rcases List.mem_cons.mp hu with rfl | hu
    · obtain ⟨b, rfl⟩ := f x List.mem_cons_self
      obtain ⟨t', rfl⟩ := r
      exact ⟨b, t', rfl⟩
    · exact vals_strs t (fun z hz => f z (List.mem_cons_of_mem _ hz)) u hu
theorem any_no : ∀ l : List Value, (l.any fun _ => false) = false
  | [] => rfl
  | _ :: l => any_no l
section
variable {X : Cx}
theorem op_inDict (hu : X.A.units + 65 < cLine) : OpR X (compareOp .In) (rInDict X.K false) := by
  intro pins s σ H x y v u Q I rx ry ⟨a, p, xs, e1, ha, e2, hq, f, q⟩
  subst e1; subst e2
  obtain rfl : v = Value.ref a := rx
  obtain rfl : u = Value.ref p := ry
  have hu1 : X.A.in1.units < cLine := by simp only [Around.in1]; omega
  have key := anyO_eq I ha hu1
  rcases hq with hq | hq
  · obtain ⟨its, r, pl, hz⟩ := I.list hq
    refine in_listAt (fun _ => false) pl.isList (fun w hw => ?_) ⟨.bl _, H, I, rfl, ?_⟩
    · obtain ⟨b, t, rfl⟩ := vals_strs r f w (by simpa using hw)
      exact key b t
    · simpa [any_no] using q
  · obtain ⟨its, r, pl, hz⟩ := I.tuple hq
    refine in_tupleAt (fun _ => false) pl (fun w hw => ?_) ⟨.bl _, H, I, rfl, ?_⟩
    · obtain ⟨b, t, rfl⟩ := vals_strs r f w (by simpa using hw)
      exact key b t
    · simpa [any_no] using q
theorem op_notInDict (hu : X.A.units + 65 < cLine) : OpR X (compareOp .NotIn) (rInDict X.K true) := by
  intro pins s σ H x y v u Q I rx ry ⟨a, p, xs, e1, ha, e2, hq, f, q⟩
  subst e1; subst e2
  obtain rfl : v = Value.ref a := rx
  obtain rfl : u = Value.ref p := ry
  have hu1 : X.A.in1.units < cLine := by simp only [Around.in1]; omega
  have key := anyO_eq I ha hu1
  rcases hq with hq | hq
  · obtain ⟨its, r, pl, hz⟩ := I.list hq
    refine notIn_listAt (fun _ => false) pl.isList (fun w hw => ?_) ⟨.bl _, H, I, rfl, ?_⟩
    · obtain ⟨b, t, rfl⟩ := vals_strs r f w (by simpa using hw)
      exact key b t
    · simpa [any_no] using q
  · obtain ⟨its, r, pl, hz⟩ := I.tuple hq
    refine notIn_tupleAt (fun _ => false) pl (fun w hw => ?_) ⟨.bl _, H, I, rfl, ?_⟩
    · obtain ⟨b, t, rfl⟩ := vals_strs r f w (by simpa using hw)
      exact key b t
    · simpa [any_no] using q
end
end

/-! ### in -/
theorem rels_strs {K : PySem.W.Frag} {T : Tk} {H : Hp} : ∀ {ds : List D} {vs : List V}, rels K T H ds vs → ds.all isS = true → ∀ z ∈ vs, ∃ t, z = V.str t
  | [], vs, r, _, z, hz => by unfold rels at r; subst r; cases hz
  | d :: ds, vs, r, f, z, hz => by
    unfold rels at r
    obtain ⟨v, t, rfl, r1, r2⟩ := r
    rw [List.all_cons, Bool.and_eq_true] at f
    rcases List.mem_cons.mp hz with rfl | hz
    · obtain ⟨f1, _⟩ := f
      cases d <;> first | exact ⟨_, rel_str_iff.mp r1⟩ | cases f1
    · exact rels_strs r2 f.2 z hz
def inOk (h : HH) (a : D) (ys : List D) : Bool := isD (view h a) && isDs ys && decide (deep (view h a) ≤ 60) && decide (deeps ys ≤ 60)
def in? (h : HH) (a b : D) : Option Bool := match a, b with
  | .str s, .str t => match s.toList with
    | [c] => some (t.toList.contains c)
    | _ => none
  | a, b => match items h b with
    | some ys => if inOk h a ys then some (ys.any fun y => eqv y (view h a)) else if isDc h a && ys.all isS then some false else none
    | none => none
def opIn (a b : D) (h : HH) : R D := ofB (in? h a b) h fun k => .ok (.bl k) h
def opNotIn (a b : D) (h : HH) : R D := ofB (in? h a b) h fun k => .ok (.bl (!k)) h
section
variable {X : Cx} {W : WX}
def rInT (K : PySem.W.Frag) (neg : Bool) : R2 := fun x y H Q => ∃ d ds, Dp K H x d ∧ Dp K H y (.tuple ds) ∧ SeqAt.shaped d = true ∧ SeqAt.shaped (.tuple ds) = true ∧ Q (.bl (if neg then !(ds.any fun z => PyData.eqv z d) else ds.any fun z => PyData.eqv z d)) H
theorem shaped_tl {ds : List PyData} : SeqAt.shaped (.list ds) = SeqAt.shaped (.tuple ds) := rfl
theorem op_inT (hu : X.A.units + 65 < cLine) : OpR X (compareOp .In) (rInT X.K false) := by
  intro pins s σ H x y v u Q I rx ry ⟨d, ds, hd, he, sd, se, q⟩
  obtain ⟨as, r1⟩ := Dp.reads I d x v hd rx
  obtain ⟨bs, r2⟩ := Dp.reads I (.tuple ds) y u he ry
  have c1 : PyData.canLayAll0 ds = true := SeqAt.canLay_of_shaped se
  exact SeqAt.in_tuple_reads r2 r1 c1 (SeqAt.canLay_of_shaped sd) (room_in_shaped sd hu) ⟨.bl _, H, I, rfl, q⟩
theorem op_notInT (hu : X.A.units + 65 < cLine) : OpR X (compareOp .NotIn) (rInT X.K true) := by
  intro pins s σ H x y v u Q I rx ry ⟨d, ds, hd, he, sd, se, q⟩
  obtain ⟨as, r1⟩ := Dp.reads I d x v hd rx
  obtain ⟨bs, r2⟩ := Dp.reads I (.tuple ds) y u he ry
  have c1 : PyData.canLayAll0 ds = true := SeqAt.canLay_of_shaped se
  exact SeqAt.notIn_tuple_reads r2 r1 c1 (SeqAt.canLay_of_shaped sd) (room_in_shaped sd hu) ⟨.bl _, H, I, rfl, q⟩
theorem toPs_any {ys : List D} {a : D} : ((toPs ys).any fun z => PyData.eqv z (toP a)) = ys.any fun y => eqv y a := by
  induction ys with
  | nil => rfl
  | cons y ys ih => unfold toPs; rw [List.any_cons, List.any_cons, ih]; rfl
theorem toPs_shaped {ys : List D} (h : isDs ys = true) (z : deeps ys ≤ 60) : SeqAt.shaped (.tuple (toPs ys)) = true := by
  have := toP_shaped (d := .tup ys) (by unfold isD; exact h) (by unfold deep; omega)
  unfold toP at this
  exact this
theorem in_find {T : Tk} {H : Hp} {h : HH} {a b : D} {x y : V} {k : Bool} (r : RelH X.K T H h) (ra : rel X.K T H a x) (rb : rel X.K T H b y) (e : in? h a b = some k) :
    (∃ c z, x = .str ⟨#[c]⟩ ∧ y = .str z ∧ k = decide (c ∈ z.cps.toList)) ∨
      (∃ d ds, Dp X.K H x d ∧ (Dp X.K H y (.tuple ds) ∨ Dp X.K H y (.list ds)) ∧ SeqAt.shaped d = true ∧ SeqAt.shaped (.tuple ds) = true ∧ k = ds.any fun z => PyData.eqv z d) ∨
        ∃ a p xs, x = .ref a ∧ AnyO X.K H a ∧ y = .ref p ∧ (SqL X.K H p xs ∨ SqT X.K H p xs) ∧ (∀ z ∈ xs, ∃ t, z = V.str t) ∧ k = false := by
  unfold in? at e
  split at e
  · rename_i s t
    split at e
    · rename_i c e2
      cases e
      refine .inl ⟨c.toNat, _, ?_, rel_str_iff.mp rb, ?_⟩
      · rw [rel_str_iff.mp ra, Str.ofString_eq_toList, e2]; rfl
      · rw [cps_of]
        cases hc : t.toList.contains c with
        | true =>
          have := List.contains_iff_mem.mp hc
          symm; rw [decide_eq_true_eq]
          exact List.mem_map_of_mem this
        | false =>
          symm; rw [decide_eq_false_iff_not]
          intro hm
          obtain ⟨c', h1, h2⟩ := List.mem_map.mp hm
          have : c' = c := Char.ext (UInt32.toNat_inj.mp h2)
          subst this
          rw [List.contains_iff_mem.mpr h1] at hc
          cases hc
    · cases e
  · split at e
    · rename_i ys e2
      split at e
      · rename_i hc
        cases e
        unfold inOk at hc
        simp only [Bool.and_eq_true, decide_eq_true_eq] at hc
        refine .inr (.inl ?_)
        refine ⟨toP (view h a), toPs ys, rel_view r ra hc.1.1.1, ?_, toP_shaped hc.1.1.1 (by omega), toPs_shaped hc.1.1.2 hc.2, toPs_any.symm⟩
        unfold items at e2
        split at e2
        · cases e2
          have := rel_dp (.tup ys) y (by unfold isD; exact hc.1.1.2) rb
          unfold toP at this
          exact .inl this
        · obtain ⟨p, vs, rfl, s, rv⟩ := rel_itemsL r rb e2
          exact .inr (.lst s (rels_dp ys vs hc.1.1.2 rv))
      · split at e
        · rename_i hc
          cases e
          rw [Bool.and_eq_true] at hc
          obtain ⟨a', e3, s⟩ := rel_isDc r ra hc.1
          obtain ⟨p, vs, e4, s2, rr⟩ := rel_items r rb e2
          exact .inr (.inr ⟨a', p, vs, e3, s, e4, s2, rels_strs rr hc.2, rfl⟩)
        · cases e
    · cases e
theorem o_in (hu : X.A.units + 65 < cLine) : OpR X (compareOp .In) (rdO X opIn) := OpR.mono (((op_in_sign.or (op_inT hu)).or (op_inD hu)).or (op_inDict hu)) fun x y H Q q => by
  obtain ⟨T, h, a, b, r, ra, rb, q⟩ := q
  obtain ⟨d, h', e, q⟩ := rdO_ok q
  unfold opIn at e
  cases e1 : in? h a b with
  | none => rw [e1] at e; cases e
  | some k =>
    rw [e1] at e
    cases e
    have q' := q T H (.bl k) Le.refl r (rel_bl_iff.mpr rfl)
    rcases in_find r ra rb e1 with ⟨c, z, e2, e3, e4⟩ | ⟨d, ds, h1, h2, h3, h4, e4⟩ | ⟨a', p, xs, g1, g2, g3, g4, g5, e4⟩
    · exact .inl (.inl (.inl ⟨c, z, e2, e3, e4 ▸ q'⟩))
    · rcases h2 with h2 | h2
      · exact .inl (.inl (.inr ⟨d, ds, h1, h2, h3, h4, by rw [if_neg Bool.false_ne_true]; exact e4 ▸ q'⟩))
      · exact .inl (.inr ⟨d, ds, h1, h2, h3, h4, e4 ▸ q'⟩)
    · exact .inr ⟨a', p, xs, g1, g2, g3, g4, g5, e4 ▸ q'⟩
theorem o_notIn (hu : X.A.units + 65 < cLine) : OpR X (compareOp .NotIn) (rdO X opNotIn) := OpR.mono (((op_notIn_sign.or (op_notInT hu)).or (op_notInD hu)).or (op_notInDict hu)) fun x y H Q q => by
  obtain ⟨T, h, a, b, r, ra, rb, q⟩ := q
  obtain ⟨d, h', e, q⟩ := rdO_ok q
  unfold opNotIn at e
  cases e1 : in? h a b with
  | none => rw [e1] at e; cases e
  | some k =>
    rw [e1] at e
    cases e
    have q' := q T H (.bl (!k)) Le.refl r (rel_bl_iff.mpr rfl)
    rcases in_find r ra rb e1 with ⟨c, z, e2, e3, e4⟩ | ⟨d, ds, h1, h2, h3, h4, e4⟩ | ⟨a', p, xs, g1, g2, g3, g4, g5, e4⟩
    · exact .inl (.inl (.inl ⟨c, z, e2, e3, e4 ▸ q'⟩))
    · rcases h2 with h2 | h2
      · exact .inl (.inl (.inr ⟨d, ds, h1, h2, h3, h4, by rw [if_pos rfl]; exact e4 ▸ q'⟩))
      · exact .inl (.inr ⟨d, ds, h1, h2, h3, h4, e4 ▸ q'⟩)
    · exact .inr ⟨a', p, xs, g1, g2, g3, g4, g5, by subst e4; exact q'⟩
end

/-! ### calls of built-ins by values -/
def rdC (X : Cx) (o : List D → HH → R D) : List V → Hp → VK → Prop := fun xs H Q => ∃ T h ds, RelH X.K T H h ∧ rels X.K T H ds xs ∧ match o ds h with
  | .ok d h' => ∀ T' H' v, Le T H T' H' → RelH X.K T' H' h' → rel X.K T' H' d v → Q v H'
  | _ => False
def eCall (o : List D → HH → R D) (f : Exs) : Ex := fun env h => (f env h).bind fun ds h1 => noX (o ds h1)
section
variable {X : Cx} {W : WX}
theorem CallR.mono {f : Value} {r r' : List V → Hp → VK → Prop} (h : CallR X f r) (i : ∀ x H Q, r' x H Q → r x H Q) : CallR X f r' :=
  fun pins s σ H x v Q I rx q => h pins s σ H x v Q I rx (i _ _ _ q)
theorem rd_call {o : List D → HH → R D} {f : Exs} {σ : L2.St} {H : Hp} {Q : VK} (hh : rd X W (eCall o f) σ H Q) : tCB (rdC X o) (rds X W f) σ H Q := by
  obtain ⟨T, env, h, r1, r2, a⟩ := hh
  refine ⟨T, env, h, r1, r2, a.bind r1.mut fun ds h1 T1 H1 vs _ l1 q1 rv a1 => ⟨T1, h1, ds, q1, rv, ?_⟩⟩
  revert a1
  cases o ds h1 with
  | ok d' h' => exact fun a2 T' H' v' l r q => a2 T' H' v' l r q
  | exc c h' => exact fun a2 => a2
  | stuck => exact fun a2 => a2
theorem se_callB {id : String} {x : Str} {e : Expr} {es : List Expr} {o : List D → HH → R D} {f : Exs} {p pos : Pos} (hc : CallR X (.builtin id) (rdC X o)) (hg : Gl X x) (hm : X.mg x = none) (hv : bootBuiltins x = some (.builtin id)) (ha : SA X W (e :: es) f)
    (hn : x ≠ "__name__" := by decide) (hdb : (x == ("__debug__" : Str)) = false := by decide)
    (he : starEach (e :: es) X.env = (false, eval e X.env) :: starEach es X.env := by rfl) (hpl : (backTo pos (starEach es X.env)).any (·.1) = false := by rfl) : SE X W (.Call (.Name x p) (e :: es) [] pos) (eCall o f) :=
  PE.mono (pe_callB hc hg hm hv ha.pa hn hdb he hpl) fun _ _ _ => rd_call
theorem se_callTy {ty : String} {x : Str} {e : Expr} {es : List Expr} {o : List D → HH → R D} {f : Exs} {p pos : Pos} (hc : CallR X (.type ty) (rdC X o)) (hg : Gl X x) (hm : X.mg x = none) (hv : bootBuiltins x = some (.type ty)) (ha : SA X W (e :: es) f)
    (hn : x ≠ "__name__" := by decide) (hdb : (x == ("__debug__" : Str)) = false := by decide)
    (he : starEach (e :: es) X.env = (false, eval e X.env) :: starEach es X.env := by rfl) (hpl : (backTo pos (starEach es X.env)).any (·.1) = false := by rfl) : SE X W (.Call (.Name x p) (e :: es) [] pos) (eCall o f) :=
  PE.mono (pe_callTy hc hg hm hv ha.pa hn hdb he hpl) fun _ _ _ => rd_call
/-- a built-in class as a value -/
theorem se_ty {x : Str} {n : String} {pos : Pos} (hg : Gl X x) (hm : X.mg x = none) (hv : bootBuiltins x = some (.type n)) (hn : x ≠ "__name__" := by decide) (hd : (x == ("__debug__" : Str)) = false := by decide) : SE X W (.Name x pos) (eC (.ty n)) :=
  se_of (pe_bltn (v := .ty n) hg hm hv rfl hn hd) fun _ _ => by unfold rel; rfl

/-! len -/
def lenD (h : HH) (d : D) : Option Nat := match d with
  | .str s => if s.length ≤ sz then some s.length else none
  | .dic xs => some xs.length
  | .ref i => match h[i]? with
    | some (.lst xs) => some xs.length
    | some (.dic xs) => some xs.length
    | _ => none
  | d => (items h d).map List.length
def cLen (ds : List D) (h : HH) : R D := match ds with
  | [d] => ofO (lenD h d) fun n => .ok (.int n) h
  | _ => .stuck
theorem rels_one {K T H d vs} (r : rels K T H [d] vs) : ∃ v, vs = [v] ∧ rel K T H d v := by
  unfold rels at r
  obtain ⟨v, t, e, r1, r2⟩ := r
  unfold rels at r2
  subst r2
  exact ⟨v, e, r1⟩
theorem rels_two {K T H d e vs} (r : rels K T H [d, e] vs) : ∃ v u, vs = [v, u] ∧ rel K T H d v ∧ rel K T H e u := by
  unfold rels at r
  obtain ⟨v, t, e, r1, r2⟩ := r
  obtain ⟨u, rfl, r3⟩ := rels_one r2
  exact ⟨v, u, e, r1, r3⟩
theorem c_len : CallR X (.builtin "len") (rdC X cLen) := CallR.mono (call_len.or call_lenD) fun xs H Q q => by
  obtain ⟨T, h, ds, r, rs, q⟩ := q
  obtain ⟨d, h', e, q⟩ := rdO_ok q
  unfold cLen at e
  split at e
  · rename_i d0
    cases e1 : lenD h d0 with
    | none => rw [e1] at e; cases e
    | some n =>
      rw [e1] at e
      cases e
      obtain ⟨v, rfl, rv⟩ := rels_one rs
      have q' := q T H (.int n) Le.refl r (rel_int_iff.mpr rfl)
      unfold lenD at e1
      split at e1
      · split at e1
        · rename_i s hz
          cases e1
          have := rel_str_iff.mp rv
          subst this
          exact .inl ⟨_, _, rfl, ⟨by rw [ofStr_len, sizeLine_eq]; exact hz, by rw [ofStr_len]⟩, q'⟩
        · cases e1
      · cases e1
        unfold rel at rv
        obtain ⟨a, vs, rfl, s, n, rk⟩ := rv
        exact .inr ⟨a, vs, rfl, s, by rw [relk_length rk]; exact q'⟩
      · unfold rel at rv
        obtain ⟨a, rfl, e2⟩ := rv
        split at e1
        · rename_i xs e3
          cases e1
          obtain ⟨b, e4, vs, e5, rr⟩ := r.at_ _ _ e3
          rw [e2] at e4; cases e4
          exact .inl ⟨_, _, rfl, .inl ⟨vs, SqL.of e5, (rels_length rr).symm⟩, q'⟩
        · rename_i xs e3
          cases e1
          obtain ⟨b, e4, vs, e5, rr⟩ := r.at_ _ _ e3
          rw [e2] at e4; cases e4
          exact .inr ⟨a, vs, rfl, e5, by rw [relk_length rr]; exact q'⟩
        · cases e1
      · cases e2 : items h d0 with
        | none => rw [e2] at e1; cases e1
        | some ys =>
          rw [e2] at e1
          cases e1
          obtain ⟨p, vs, rfl, s, rr⟩ := rel_items r rv e2
          exact .inl ⟨_, _, rfl, s.imp (fun s => ⟨vs, s, (rels_length rr).symm⟩) (fun s => ⟨vs, s, (rels_length rr).symm⟩), q'⟩
  · cases e
end
end Pu

namespace Pu
open PySem PySem.Spec PyProof.Rows L2

/-! ### isinstance -/
inductive Ti where
  | non | bl | int | str | tup | lst | dic
  deriving DecidableEq
def Ti.nm : Ti → String
  | .non => "NoneType" | .bl => "bool" | .int => "int" | .str => "str" | .tup => "tuple" | .lst => "list" | .dic => "dict"
def tiD (h : HH) (d : D) : Option Ti := match d with
  | .non => some .non
  | .bl _ => some .bl
  | .int _ => some .int
  | .str _ => some .str
  | .tup _ => some .tup
  | .lst _ => some .lst
  | .frz _ => some .lst
  | .dic _ => some .dic
  | .ref i => match h[i]? with
    | some (.lst _) => some .lst
    | some (.dic _) => some .dic
    | _ => none
  | .ty _ => none
  | .xc _ => none
  | .tux _ => none
def isTi (t : Ti) (n : String) : Option Bool :=
  if n = "int" then some (t == .int || t == .bl) else if n = "bool" then some (t == .bl) else if n = "str" then some (t == .str) else if n = "tuple" then some (t == .tup)
  else if n = "list" then some (t == .lst) else if n = "dict" then some (t == .dic) else none
theorem isTi_kit {K : PySem.W.Frag} {t : Ti} {n : String} {b : Bool} (e : isTi t n = some b) : PySem.W.kitOne K (.type t.nm) (.type n) = some b := by
  unfold isTi at e
  split at e
  · rename_i hn; subst hn; refine kit_ty ?_; cases e; cases t <;> decide +kernel
  · split at e
    · rename_i hn; subst hn; refine kit_ty ?_; cases e; cases t <;> decide +kernel
    · split at e
      · rename_i hn; subst hn; refine kit_ty ?_; cases e; cases t <;> decide +kernel
      · split at e
        · rename_i hn; subst hn; refine kit_ty ?_; cases e; cases t <;> decide +kernel
        · split at e
          · rename_i hn; subst hn; refine kit_ty ?_; cases e; cases t <;> decide +kernel
          · split at e
            · rename_i hn; subst hn; refine kit_ty ?_; cases e; cases t <;> decide +kernel
            · cases e
theorem ty_of {K T H h} (r : RelH K T H h) {d : D} {v : V} (q : rel K T H d v) {t : Ti} (e : tiD h d = some t) : TyX K H v (.type t.nm) := by
  cases d with
  | non => unfold rel at q; unfold tiD at e; subst q; cases e; exact .base .non
  | bl b => unfold rel at q; unfold tiD at e; subst q; cases e; exact .base (.bl b)
  | int i => unfold rel at q; unfold tiD at e; subst q; cases e; exact .base (.int i)
  | str s => unfold rel at q; unfold tiD at e; subst q; cases e; exact .base (.str _)
  | tup xs =>
    unfold rel at q; unfold tiD at e; cases e
    obtain ⟨a, vs, rfl, s, q⟩ := q
    have s := s.sq
    rcases s with (s | ⟨o, s⟩) | ⟨o, its, n, h1, h2, _⟩
    · exact .base (.tup s)
    · exact .fTuple s
    · exact .kTuple h1 h2
  | lst xs =>
    unfold rel at q; unfold tiD at e; cases e
    obtain ⟨a, vs, rfl, s, n, q⟩ := q
    exact .base (.lst s)
  | frz xs =>
    unfold rel at q; unfold tiD at e; cases e
    obtain ⟨a, vs, rfl, s, q⟩ := q
    rcases s with ⟨s | ⟨o, s⟩, _⟩ | s
    · exact .base (.lst s)
    · exact .base (.frz s)
    · rcases s (fun _ => none) with (s | ⟨o, s⟩) | ⟨o, its, n, h1, h2, _⟩
      · cases s
      · cases s
      · exact .kList h1 h2
  | dic xs =>
    unfold rel at q; unfold tiD at e; cases e
    obtain ⟨a, vs, rfl, s, n, q⟩ := q
    exact .base (.dK s)
  | ref i =>
    unfold rel at q; unfold tiD at e
    obtain ⟨a, rfl, q⟩ := q
    dsimp only at e
    split at e
    · rename_i xs e2
      cases e
      obtain ⟨b, e3, vs, e4, rr⟩ := r.at_ _ _ e2
      rw [q] at e3; cases e3
      exact .base (.lst e4)
    · rename_i xs e2
      cases e
      obtain ⟨b, e3, vs, e4, rr⟩ := r.at_ _ _ e2
      rw [q] at e3; cases e3
      exact .base (.dK e4)
    · cases e
  | ty n => unfold tiD at e; cases e
  | xc n => unfold tiD at e; cases e
  | tux n => unfold tiD at e; cases e
def cIsi (ds : List D) (h : HH) : R D := match ds with
  | [d, .ty n] => ofO (tiD h d) fun t => ofO (isTi t n) fun b => .ok (.bl b) h
  | _ => .stuck
theorem ofO_ok {α β : Type} {o : Option α} {k : α → R β} {b : β} {h : HH} (e : ofO o k = .ok b h) : ∃ a, o = some a ∧ k a = .ok b h := by
  cases o with
  | none => cases e
  | some a => exact ⟨a, rfl, e⟩
section
variable {X : Cx} {W : WX}
theorem c_isi : CallR X (.builtin "isinstance") (rdC X cIsi) := CallR.mono call_isi fun xs H Q q => by
  obtain ⟨T, h, ds, r, rs, q⟩ := q
  obtain ⟨d, h', e, q⟩ := rdO_ok q
  unfold cIsi at e
  split at e
  · rename_i d0 n
    obtain ⟨t, e1, e⟩ := ofO_ok e
    obtain ⟨b, e2, e⟩ := ofO_ok e
    cases e
    obtain ⟨v, u, rfl, rv, ru⟩ := rels_two rs
    unfold rel at ru
    subst ru
    exact ⟨v, .ty n, .type t.nm, .type n, b, rfl, .ty n, ty_of r rv e1, isTi_kit e2, q T H _ Le.refl r (rel_bl_iff.mpr rfl)⟩
  · cases e

/-! ### small ones -/
def cAbs (ds : List D) (h : HH) : R D := match ds with
  | [.int i] => .ok (.int (if i < 0 then -i else i)) h
  | _ => .stuck
theorem c_abs : CallR X (.builtin "abs") (rdC X cAbs) := CallR.mono call_abs fun xs H Q q => by
  obtain ⟨T, h, ds, r, rs, q⟩ := q
  obtain ⟨d, h', e, q⟩ := rdO_ok q
  unfold cAbs at e
  split at e
  · cases e
    obtain ⟨v, rfl, rv⟩ := rels_one rs
    rw [rel_int_iff] at rv
    subst rv
    exact ⟨_, rfl, q T H _ Le.refl r (rel_int_iff.mpr rfl)⟩
  · cases e
def cInt (ds : List D) (h : HH) : R D := match ds with
  | [.int i] => .ok (.int i) h
  | [.bl b] => .ok (.int (if b then 1 else 0)) h
  | _ => .stuck
theorem c_int : CallR X (.type "int") (rdC X cInt) := CallR.mono call_int1 fun xs H Q q => by
  obtain ⟨T, h, ds, r, rs, q⟩ := q
  obtain ⟨d, h', e, q⟩ := rdO_ok q
  unfold cInt at e
  split at e
  · cases e
    obtain ⟨v, rfl, rv⟩ := rels_one rs
    rw [rel_int_iff] at rv
    subst rv
    exact .inl ⟨_, rfl, q T H _ Le.refl r (rel_int_iff.mpr rfl)⟩
  · cases e
    obtain ⟨v, rfl, rv⟩ := rels_one rs
    rw [rel_bl_iff] at rv
    subst rv
    exact .inr ⟨_, rfl, q T H _ Le.refl r (rel_int_iff.mpr rfl)⟩
  · cases e
theorem rel_itemsX {K T H h} (r : RelH K T H h) {d : D} {v : V} {xs : List D} (q : rel K T H d v) (e : items h d = some xs) : ∃ a vs, v = .ref a ∧ (SqL K H a vs ∨ (XT K H a vs ∧ d = .tup xs)) ∧ rels K T H xs vs := by
  unfold items at e
  split at e
  · cases e
    unfold rel at q
    obtain ⟨a, vs, e, s, q⟩ := q
    exact ⟨a, vs, e, .inr ⟨s, rfl⟩, q⟩
  · obtain ⟨a, vs, e, s, q⟩ := rel_itemsL r q e
    exact ⟨a, vs, e, .inl s, q⟩
/-- tuple(x) -/
def cTup (ds : List D) (h : HH) : R D := match ds with
  | [d] => ofO (items h d) fun xs => .ok (.tup xs) h
  | _ => .stuck
theorem c_tup : CallR X (.type "tuple") (rdC X cTup) := CallR.mono call_tupleK fun xs H Q q => by
  obtain ⟨T, h, ds, r, rs, q⟩ := q
  obtain ⟨d, h', e, q⟩ := rdO_ok q
  unfold cTup at e
  split at e
  · rename_i d0
    obtain ⟨ys, e1, e⟩ := ofO_ok e
    cases e
    obtain ⟨v, rfl, rv⟩ := rels_one rs
    obtain ⟨a, vs, rfl, s, rr⟩ := rel_itemsX r rv e1
    refine ⟨a, vs, rfl, s.imp (fun s => ⟨s, fun p o hp ho => ?_⟩) (fun s => ⟨s.1.sq, ?_⟩)⟩
    · exact q T _ _ (Le.new hp) (r.new hp) (rel_tup upd_same ho (rels_mono (Le.new hp) r.mut _ _ rr))
    · refine q T H _ Le.refl r ?_
      unfold rel
      exact ⟨a, vs, rfl, s.1, rr⟩
  · cases e
def blsD : List D → Option (List Bool)
  | [] => some []
  | .bl i :: ds => (blsD ds).map (i :: ·)
  | _ :: _ => none
theorem rels_bls {K T H} : ∀ {ds : List D} {vs : List V} {ns : List Bool}, rels K T H ds vs → blsD ds = some ns → vs = ns.map V.bl
  | [], vs, ns, r, e => by unfold rels at r; unfold blsD at e; cases e; rw [r]; rfl
  | d :: ds, vs, ns, r, e => by
    unfold rels at r
    obtain ⟨v, t, rfl, r1, r2⟩ := r
    unfold blsD at e
    split at e
    · rename_i heq; cases heq
    · rename_i i ds' heq
      cases heq
      cases e2 : blsD ds with
      | none => rw [e2] at e; cases e
      | some ms =>
        rw [e2] at e; cases e
        rw [rels_bls r2 e2, rel_bl_iff.mp r1]; rfl
    · cases e
def cAll (ds : List D) (h : HH) : R D := match ds with
  | [d] => ofO (itemsL h d) fun xs => ofO (blsD xs) fun bs => .ok (.bl (bs.all id)) h
  | _ => .stuck
def cAny (ds : List D) (h : HH) : R D := match ds with
  | [d] => ofO (itemsL h d) fun xs => ofO (blsD xs) fun bs => .ok (.bl (bs.any id)) h
  | _ => .stuck
theorem c_all (hc : X.calm = true) : CallR X (.builtin "all") (rdC X cAll) := CallR.mono (cr_all hc) fun xs H Q q => by
  obtain ⟨T, h, ds, r, rs, q⟩ := q
  obtain ⟨d, h', e, q⟩ := rdO_ok q
  unfold cAll at e
  split at e
  · rename_i d0
    obtain ⟨ys, e1, e⟩ := ofO_ok e
    obtain ⟨bs, e2, e⟩ := ofO_ok e
    cases e
    obtain ⟨v, rfl, rv⟩ := rels_one rs
    obtain ⟨a, vs, rfl, s, rr⟩ := rel_itemsL r rv e1
    exact ⟨a, bs, rfl, rels_bls rr e2 ▸ s, q T H _ Le.refl r (rel_bl_iff.mpr rfl)⟩
  · cases e
theorem c_any (hc : X.calm = true) : CallR X (.builtin "any") (rdC X cAny) := CallR.mono (cr_any hc) fun xs H Q q => by
  obtain ⟨T, h, ds, r, rs, q⟩ := q
  obtain ⟨d, h', e, q⟩ := rdO_ok q
  unfold cAny at e
  split at e
  · rename_i d0
    obtain ⟨ys, e1, e⟩ := ofO_ok e
    obtain ⟨bs, e2, e⟩ := ofO_ok e
    cases e
    obtain ⟨v, rfl, rv⟩ := rels_one rs
    obtain ⟨a, vs, rfl, s, rr⟩ := rel_itemsL r rv e1
    exact ⟨a, bs, rfl, rels_bls rr e2 ▸ s, q T H _ Le.refl r (rel_bl_iff.mpr rfl)⟩
  · cases e
def cMax (ds : List D) (h : HH) : R D := match ds with
  | [.int i, .int j] => .ok (.int (if j > i then j else i)) h
  | _ => .stuck
theorem c_max (hc : X.calm = true) : CallR X (.builtin "max") (rdC X cMax) := CallR.mono (call_max2 hc) fun xs H Q q => by
  obtain ⟨T, h, ds, r, rs, q⟩ := q
  obtain ⟨d, h', e, q⟩ := rdO_ok q
  unfold cMax at e
  split at e
  · cases e
    obtain ⟨v, u, rfl, rv, ru⟩ := rels_two rs
    rw [rel_int_iff] at rv ru
    subst rv ru
    exact ⟨_, _, rfl, q T H _ Le.refl r (rel_int_iff.mpr rfl)⟩
  · cases e
def cMin (ds : List D) (h : HH) : R D := match ds with
  | [.int i, .int j] => .ok (.int (if j < i then j else i)) h
  | _ => .stuck
theorem c_min (hc : X.calm = true) : CallR X (.builtin "min") (rdC X cMin) := CallR.mono (call_min2 hc) fun xs H Q q => by
  obtain ⟨T, h, ds, r, rs, q⟩ := q
  obtain ⟨d, h', e, q⟩ := rdO_ok q
  unfold cMin at e
  split at e
  · cases e
    obtain ⟨v, u, rfl, rv, ru⟩ := rels_two rs
    rw [rel_int_iff] at rv ru
    subst rv ru
    exact ⟨_, _, rfl, q T H _ Le.refl r (rel_int_iff.mpr rfl)⟩
  · cases e
def cSum (ds : List D) (h : HH) : R D := match ds with
  | [d] => ofO (itemsL h d) fun xs => ofO (intsD xs) fun ns => .ok (.int ns.sum) h
  | _ => .stuck
theorem c_sum (hc : X.calm = true) : CallR X (.builtin "sum") (rdC X cSum) := CallR.mono (cr_sum hc) fun xs H Q q => by
  obtain ⟨T, h, ds, r, rs, q⟩ := q
  obtain ⟨d, h', e, q⟩ := rdO_ok q
  unfold cSum at e
  split at e
  · rename_i d0
    obtain ⟨ys, e1, e⟩ := ofO_ok e
    obtain ⟨ns, e2, e⟩ := ofO_ok e
    cases e
    obtain ⟨v, rfl, rv⟩ := rels_one rs
    obtain ⟨a, vs, rfl, s, rr⟩ := rel_itemsL r rv e1
    exact ⟨a, ns, rfl, rels_ints rr e2 ▸ s, q T H _ Le.refl r (rel_int_iff.mpr rfl)⟩
  · cases e
/-- list(x): a new list -/
def fCall (o : List D → HH → Option (List D)) (f : Exs) : Exs := fun env h => (f env h).bind fun ds h1 => ofO (o ds h1) fun xs => .ok xs h1
def cLst (ds : List D) (h : HH) : Option (List D) := match ds with
  | [d] => items h d
  | _ => none
theorem sf_list {x : Str} {e : Expr} {f : Exs} {p pos : Pos} (hg : Gl X x) (hm : X.mg x = none) (hv : bootBuiltins x = some (.type "list")) (ha : SA X W [e] f)
    (hn : x ≠ "__name__" := by decide) (hdb : (x == ("__debug__" : Str)) = false := by decide)
    (he : starEach [e] X.env = (false, eval e X.env) :: starEach [] X.env := by rfl) (hpl : (backTo pos (starEach [] X.env)).any (·.1) = false := by rfl) : SF X W (.Call (.Name x p) [e] [] pos) (fCall cLst f) :=
  PE.mono (pe_callTy call_list_of hg hm hv ha.pa hn hdb he hpl) fun σ H Q hh => by
    obtain ⟨T, env, h, r1, r2, a⟩ := hh
    refine ⟨T, env, h, r1, r2, a.bind0 fun ds h1 T1 H1 vs e l1 q1 rvs a1 => ?_⟩
    cases e1 : cLst ds h1 with
    | none => rw [e1] at a1; exact False.elim a1
    | some xs =>
      rw [e1] at a1
      have a1 : After X.K X.mg W T H σ (qF X.K H) Q (.ok xs h1) := a1
      unfold cLst at e1
      split at e1
      · obtain ⟨v, rfl, rv⟩ := rels_one rvs
        obtain ⟨b, ws, rfl, s, rr⟩ := rel_items q1 rv e1
        refine ⟨b, ws, rfl, s, fun p hp => ?_⟩
        exact a1 (T1.blk p) (upd H1 p (.lst ws)) _ (l1.trans r1.mut (Le.blk hp)) (q1.blk hp) ⟨p, ws, rfl, upd_same, fun z => q1.mut.free hp (q1.sub p z), .inr rfl, l1.was q1.mut hp, rels_mono (Le.blk hp) q1.mut xs ws rr⟩
      · cases e1
end
end Pu

namespace Pu
open PySem PySem.Spec PyProof.Rows L2

/-! ### dicts -/
def kyD (d : D) : Option Ky := match d with
  | .int i => some (.inl i)
  | .str s => some (.inr s)
  | _ => none
def dGet (kvs : List (Ky × D)) (k : Ky) : Option D := (kvs.find? fun kv => decide (kv.1 = k)).map (·.2)
def dPut (kvs : List (Ky × D)) (k : Ky) (d : D) : List (Ky × D) :=
  if (kvs.any fun kv => decide (kv.1 = k)) = true then kvs.map (fun kv => if kv.1 = k then (kv.1, d) else kv) else kvs ++ [(k, d)]
theorem kyV_inj {a b : Ky} (h : kyV a = kyV b) : a = b := by
  cases a <;> cases b <;> unfold kyV at h
  · cases h; rfl
  · cases h
  · cases h
  · rw [ofStr_inj (Sum.inr.inj h)]
theorem kyV_dec (a b : Ky) : decide (kyV a = kyV b) = decide (a = b) := by
  by_cases h : a = b
  · subst h; simp
  · rw [decide_eq_false h, decide_eq_false fun q => h (kyV_inj q)]
/-- the pairs a dict holds -/
def dicD (h : HH) (d : D) : Option (List (Ky × D)) := match d with
  | .dic xs => some xs
  | .ref i => match h[i]? with
    | some (.dic xs) => some xs
    | some (.lkd xs) => some xs
    | _ => none
  | _ => none
section
variable {K : PySem.W.Frag} {T : Tk} {H : Hp} {h : HH}
theorem rel_ky {d : D} {v : V} {k : Ky} (r : rel K T H d v) (e : kyD d = some k) : v = kV (kyV k) := by
  unfold kyD at e
  split at e
  · cases e; exact rel_int_iff.mp r
  · cases e; exact rel_str_iff.mp r
  · cases e
theorem relk_get : ∀ {ds : List (Ky × D)} {vs : List (Key × V)}, relk K T H ds vs → ∀ k, (∀ d, dGet ds k = some d → ∃ v, valV vs (kyV k) = some v ∧ rel K T H d v) ∧ (dGet ds k = none → valV vs (kyV k) = none)
  | [], vs, r, k => by
    unfold relk at r; subst r
    exact ⟨fun d e => (by cases e), fun _ => rfl⟩
  | (j, d) :: ds, vs, r, k => by
    unfold relk at r
    obtain ⟨v, t, rfl, r1, r2⟩ := r
    have ih := relk_get r2 k
    by_cases hj : j = k
    · subst hj
      refine ⟨fun d' e => ⟨v, valV_pos rfl, ?_⟩, fun e => ?_⟩
      · have : dGet ((j, d) :: ds) j = some d := by unfold dGet; rw [List.find?_cons]; simp
        rw [this] at e; cases e; exact r1
      · have : dGet ((j, d) :: ds) j = some d := by unfold dGet; rw [List.find?_cons]; simp
        rw [this] at e; cases e
    · have e0 : dGet ((j, d) :: ds) k = dGet ds k := by unfold dGet; rw [List.find?_cons]; simp [hj]
      have e1 : valV ((kyV j, v) :: t) (kyV k) = valV t (kyV k) := valV_neg fun q => hj (kyV_inj q)
      rw [e0, e1]
      exact ih
theorem relk_append {ds es : List (Ky × D)} {vs ws : List (Key × V)} (a : relk K T H ds vs) (b : relk K T H es ws) : relk K T H (ds ++ es) (vs ++ ws) := by
  induction ds generalizing vs with
  | nil => unfold relk at a; subst a; exact b
  | cons d ds ih =>
    obtain ⟨k, d⟩ := d
    unfold relk at a
    obtain ⟨v, t, rfl, r1, r2⟩ := a
    show relk K T H ((k, d) :: (ds ++ es)) _
    unfold relk
    exact ⟨v, t ++ ws, rfl, r1, ih r2⟩
theorem relk_put {ds : List (Ky × D)} {vs : List (Key × V)} (r : relk K T H ds vs) (k : Ky) {d : D} {v : V} (q : rel K T H d v) : relk K T H (dPut ds k d) (putK vs (kyV k) v) := by
  have ha : ∀ {ds : List (Ky × D)} {vs : List (Key × V)}, relk K T H ds vs → (vs.any fun kv => decide (kv.1 = kyV k)) = ds.any fun kv => decide (kv.1 = k) := by
    intro ds
    induction ds with
    | nil => intro vs r; unfold relk at r; subst r; rfl
    | cons e ds ih =>
      intro vs r
      obtain ⟨j, e⟩ := e
      unfold relk at r
      obtain ⟨v, t, rfl, r1, r2⟩ := r
      rw [List.any_cons, List.any_cons, ih r2, kyV_dec]
  have hm : ∀ {ds : List (Ky × D)} {vs : List (Key × V)}, relk K T H ds vs → relk K T H (ds.map fun kv => if kv.1 = k then (kv.1, d) else kv) (vs.map fun kv => if kv.1 = kyV k then (kv.1, v) else kv) := by
    intro ds
    induction ds with
    | nil => intro vs r; unfold relk at r; subst r; unfold relk; rfl
    | cons e ds ih =>
      intro vs r
      obtain ⟨j, e⟩ := e
      unfold relk at r
      obtain ⟨u, t, rfl, r1, r2⟩ := r
      rw [List.map_cons, List.map_cons]
      by_cases hj : j = k
      · rw [if_pos hj, if_pos (by rw [hj])]
        unfold relk
        exact ⟨v, _, rfl, q, ih r2⟩
      · rw [if_neg hj, if_neg fun z => hj (kyV_inj z)]
        unfold relk
        exact ⟨u, _, rfl, r1, ih r2⟩
  unfold dPut putK
  rw [ha r]
  by_cases hk : (ds.any fun kv => decide (kv.1 = k)) = true
  · rw [if_pos hk, if_pos hk]; exact hm r
  · rw [if_neg hk, if_neg hk]
    refine relk_append r ?_
    unfold relk
    exact ⟨v, [], rfl, q, by unfold relk; rfl⟩
theorem rel_dicD (r : RelH K T H h) {d : D} {v : V} {xs : List (Ky × D)} (q : rel K T H d v) (e : dicD h d = some xs) : ∃ a vs, v = .ref a ∧ Rd H a (.dK vs) ∧ relk K T H xs vs := by
  unfold dicD at e
  split at e
  · cases e
    unfold rel at q
    obtain ⟨a, vs, e, s, n, q⟩ := q
    exact ⟨a, vs, e, .inl s, q⟩
  · unfold rel at q
    obtain ⟨a, e1, q⟩ := q
    split at e
    · rename_i xs' e2
      cases e
      obtain ⟨b, e3, vs, e4, rr⟩ := r.at_ _ _ e2
      rw [q] at e3; cases e3
      exact ⟨a, vs, e1, .inl e4, rr⟩
    · rename_i xs' e2
      cases e
      obtain ⟨b, e3, vs, e4, rr⟩ := r.at_ _ _ e2
      rw [q] at e3; cases e3
      exact ⟨a, vs, e1, .inr e4, rr⟩
    · cases e
  · cases e
end
theorem DGet.rd {H : Hp} {a : Addr} {kvs : List (Key × V)} {k : Key} (e : Rd H a (.dK kvs)) : DGet H a (kV k) (valV kvs k) := .inl ⟨kvs, k, e, rfl, rfl⟩
def opDGet (a b : D) (h : HH) : R D := ofO (dicD h a) fun kvs => ofO (kyD b) fun k => ofO (dGet kvs k) fun d => .ok d h
def opDIn (neg : Bool) (a b : D) (h : HH) : R D := ofO (dicD h b) fun kvs => ofO (kyD a) fun k => .ok (.bl (if neg then !(dGet kvs k).isSome else (dGet kvs k).isSome)) h
section
variable {X : Cx} {W : WX} {k : Nat}
theorem Cok.hu1 (C : Cok X W k) : X.A.units + 1 < cLine := hu_of C.hr
theorem se_dget (C : Cok X W k) {a b : Expr} {f g : Ex} {pos : Pos} (ha : SE X W a f) (hb : SE X W b g) (hs : NoSl b := by exact fun _ _ => rfl) : SE X W (.Subscript a b pos) (eOp opDGet f g) :=
  PE.mono (pe_dget C.hu1 ha hb hs) fun σ H Q hh => by
    obtain ⟨T, env, h, r1, r2, a⟩ := hh
    refine ⟨T, env, h, r1, r2, a.bind r1.mut fun d h1 T1 H1 v _ l1 q1 rv a1 => ?_⟩
    refine ⟨T1, env, h1, q1, relE_mono l1 r1.mut r2, a1.bind q1.mut fun e h2 T2 H2 u _ l2 q2 ru a2 => ?_⟩
    have rv2 := rel_mono l2 q1.mut d v rv
    unfold opDGet at a2
    cases e1 : dicD h2 d with
    | none => rw [e1] at a2; exact False.elim a2
    | some kvs =>
      rw [e1] at a2
      cases e2 : kyD e with
      | none => rw [e2] at a2; exact False.elim a2
      | some ky =>
        rw [e2] at a2
        cases e3 : dGet kvs ky with
        | none => dsimp only [ofO] at a2; rw [e3] at a2; exact False.elim a2
        | some d3 =>
          dsimp only [ofO] at a2; rw [e3] at a2
          obtain ⟨p, vs, rfl, s, rk⟩ := rel_dicD q2 rv2 e1
          obtain ⟨w, e4, rw'⟩ := (relk_get rk ky).1 d3 e3
          refine ⟨p, w, rfl, ?_, After.done a2 q2 rw'⟩
          rw [rel_ky ru e2, ← e4]
          exact DGet.rd s
theorem rd_din {neg : Bool} {f g : Ex} {σ : L2.St} {H : Hp} {Q : VK} (hh : rd X W (eOp (opDIn neg) f g) σ H Q) : rd X W f σ H fun y H1 => rd X W g σ H1 fun x H2 => ∃ a o, x = .ref a ∧ DGet H2 a y o ∧ Q (.bl (if neg then !o.isSome else o.isSome)) H2 := by
  obtain ⟨T, env, h, r1, r2, a⟩ := hh
  refine ⟨T, env, h, r1, r2, a.bind r1.mut fun d h1 T1 H1 v _ l1 q1 rv a1 => ?_⟩
  refine ⟨T1, env, h1, q1, relE_mono l1 r1.mut r2, a1.bind q1.mut fun e h2 T2 H2 u _ l2 q2 ru a2 => ?_⟩
  have rv2 := rel_mono l2 q1.mut d v rv
  unfold opDIn at a2
  cases e1 : dicD h2 e with
  | none => rw [e1] at a2; exact False.elim a2
  | some kvs =>
    rw [e1] at a2
    cases e2 : kyD d with
    | none => rw [e2] at a2; exact False.elim a2
    | some ky =>
      dsimp only [ofO] at a2; rw [e2] at a2
      obtain ⟨p, vs, rfl, s, rk⟩ := rel_dicD q2 ru e1
      have a3 := After.done a2 q2 (rel_bl_iff.mpr rfl)
      refine ⟨p, valV vs (kyV ky), rfl, by rw [rel_ky rv2 e2]; exact DGet.rd s, ?_⟩
      have e5 : (valV vs (kyV ky)).isSome = (dGet kvs ky).isSome := by
        cases e6 : dGet kvs ky with
        | none => rw [(relk_get rk ky).2 e6]; rfl
        | some d3 => obtain ⟨w, e7, _⟩ := (relk_get rk ky).1 d3 e6; rw [e7]; rfl
      rw [e5]
      exact a3
theorem se_din (C : Cok X W k) {a b : Expr} {f g : Ex} {pos : Pos} (ha : SE X W a f) (hb : SE X W b g) (hm : behindInMarks .In b = false := by rfl) : SE X W (.Compare a [.In] [b] pos) (eOp (opDIn false) f g) :=
  PE.mono (pe_cmp (pc_din C.hu1 ha hb) hm) fun _ _ _ hh => rd_din hh
theorem se_dnotin (C : Cok X W k) {a b : Expr} {f g : Ex} {pos : Pos} (ha : SE X W a f) (hb : SE X W b g) (hm : behindInMarks .NotIn b = false := by rfl) : SE X W (.Compare a [.NotIn] [b] pos) (eOp (opDIn true) f g) :=
  PE.mono (pe_cmp (pc_dnotin C.hu1 ha hb) hm) fun _ _ _ hh => rd_din hh

/-! .get -/
def eGet1 (f g : Ex) : Ex := fun env h => (f env h).bind fun d h1 => ofO (dicD h1 d) fun _ => (g env h1).bind fun e h2 => ofO (dicD h2 d) fun kvs => ofO (kyD e) fun k => .ok ((dGet kvs k).getD .non) h2
def eGet2 (f g x : Ex) : Ex := fun env h => (f env h).bind fun d h1 => ofO (dicD h1 d) fun _ => (g env h1).bind fun e h2 => (x env h2).bind fun z h3 => ofO (dicD h3 d) fun kvs => ofO (kyD e) fun k => .ok ((dGet kvs k).getD z) h3
theorem After.ofO {K : PySem.W.Frag} {mg : Str → Option Value} {W : WX} {T : Tk} {H : Hp} {σ : L2.St} {α β γ : Type} {q : Tk → Hp → α → β → Prop} {Q : β → Hp → Prop} {o : Option γ} {k : γ → R α}
    (a : After K mg W T H σ q Q (ofO o k)) : ∃ b, o = some b ∧ After K mg W T H σ q Q (k b) := by
  cases o with
  | none => exact a.elim
  | some b => exact ⟨b, rfl, a⟩
theorem se_get1 (C : Cok X W k) {o e : Expr} {f g : Ex} {apos cpos : Pos} (ho : SE X W o f) (he : SE X W e g) (m : M1 X o "get" apos e cpos := by exact ⟨rfl, rfl, rfl, rfl⟩) : SE X W (.Call (.Attribute o "get" apos) [e] [] cpos) (eGet1 f g) :=
  PE.mono (pe_dget1 C.hu1 ho he m) fun σ H Q hh => by
    obtain ⟨T, env, h, r1, r2, a⟩ := hh
    refine ⟨T, env, h, r1, r2, a.bind r1.mut fun d h1 T1 H1 v _ l1 q1 rv a1 => ?_⟩
    obtain ⟨kv0, e0, a1⟩ := a1.ofO
    obtain ⟨p, vs0, rfl, s0, _⟩ := rel_dicD q1 rv e0
    refine ⟨p, rfl, .inl ⟨vs0, s0⟩, T1, env, h1, q1, relE_mono l1 r1.mut r2, a1.bind q1.mut fun e h2 T2 H2 u _ l2 q2 ru a2 => ?_⟩
    obtain ⟨kvs, e1, a2⟩ := a2.ofO
    obtain ⟨ky, e2, a2⟩ := a2.ofO
    obtain ⟨p', vs, e3, s, rk⟩ := rel_dicD q2 (rel_mono l2 q1.mut d _ rv) e1
    cases e3
    refine ⟨valV vs (kyV ky), by rw [rel_ky ru e2]; exact DGet.rd s, ?_⟩
    refine a2.done q2 ?_
    cases e6 : dGet kvs ky with
    | none => rw [(relk_get rk ky).2 e6]; exact rel_non_iff.mpr rfl
    | some d3 => obtain ⟨w, e7, r7⟩ := (relk_get rk ky).1 d3 e6; rw [e7]; exact r7
theorem se_get2 (C : Cok X W k) {o e x : Expr} {f g y : Ex} {apos cpos : Pos} (ho : SE X W o f) (he : SE X W e g) (hx : SE X W x y) (m : M2 X o "get" apos e x cpos := by exact ⟨rfl, rfl, rfl, rfl⟩) : SE X W (.Call (.Attribute o "get" apos) [e, x] [] cpos) (eGet2 f g y) :=
  PE.mono (pe_dget2 C.hu1 ho he hx m) fun σ H Q hh => by
    obtain ⟨T, env, h, r1, r2, a⟩ := hh
    refine ⟨T, env, h, r1, r2, a.bind r1.mut fun d h1 T1 H1 v _ l1 q1 rv a1 => ?_⟩
    obtain ⟨kv0, e0, a1⟩ := a1.ofO
    obtain ⟨p, vs0, rfl, s0, _⟩ := rel_dicD q1 rv e0
    refine ⟨p, rfl, .inl ⟨vs0, s0⟩, T1, env, h1, q1, relE_mono l1 r1.mut r2, a1.bind q1.mut fun e h2 T2 H2 u _ l2 q2 ru a2 => ?_⟩
    refine ⟨T2, env, h2, q2, relE_mono (l1.trans r1.mut l2) r1.mut r2, a2.bind q2.mut fun z h3 T3 H3 w _ l3 q3 rz a3 => ?_⟩
    obtain ⟨kvs, e1, a3⟩ := a3.ofO
    obtain ⟨ky, e2, a3⟩ := a3.ofO
    obtain ⟨p', vs, e3, s, rk⟩ := rel_dicD q3 (rel_mono (l2.trans q1.mut l3) q1.mut d _ rv) e1
    cases e3
    refine ⟨valV vs (kyV ky), by rw [rel_ky ru e2]; exact DGet.rd s, ?_⟩
    refine a3.done q3 ?_
    cases e6 : dGet kvs ky with
    | none => rw [(relk_get rk ky).2 e6]; exact rz
    | some d3 => obtain ⟨w, e7, r7⟩ := (relk_get rk ky).1 d3 e6; rw [e7]; exact r7
end
end Pu

namespace Pu
open PySem PySem.Spec PyProof.Rows L2

inductive S where
  | next (env : En) (h : HH) | ret (d : D) (h : HH) | brk (env : En) (h : HH) | cont (env : En) (h : HH) | exc (c : String) (env : En) (h : HH) | stuck
abbrev Sx := En → HH → S
def AfterS (K : PySem.W.Frag) (mg : Str → Option Value) (W : WX) (T : Tk) (H : Hp) (E : Ends) : S → Prop
  | .next env h => ∀ T' H' σ, Le T H T' H' → RelH K T' H' h → relE K T' H' env σ → E.nx σ H'
  | .ret d h => ∀ T' H' v, Le T H T' H' → RelH K T' H' h → rel K T' H' d v → E.rt v H'
  | .brk env h => ∀ T' H' σ, Le T H T' H' → RelH K T' H' h → relE K T' H' env σ → E.bk σ H'
  | .cont env h => ∀ T' H' σ, Le T H T' H' → RelH K T' H' h → relE K T' H' env σ → E.ct σ H'
  | .exc c env h => ∀ C T' H' σ, mg (Str.ofString c) = some C → Le T H T' H' → RelH K T' H' h → relE K T' H' env σ → W C none σ H'
  | .stuck => False
def rdSt (X : Cx) (W : WX) (f : Sx) : TS := fun E σ H => ∃ T env h, RelH X.K T H h ∧ relE X.K T H env σ ∧ AfterS X.K X.mg W T H E (f env h)
abbrev SS (X : Cx) (W : WX) (st : Stmt) (f : Sx) : Prop := PS X st (rdSt X W f)
abbrev SB (X : Cx) (W : WX) (sts : List Stmt) (f : Sx) : Prop := PSs X sts (rdSt X W f)
def R.bindS {α : Type} (x : R α) (env : En) (k : α → HH → S) : S := match x with
  | .ok a h => k a h
  | .exc c h => .exc c env h
  | .stuck => .stuck
section
variable {K : PySem.W.Frag} {mg : Str → Option Value} {W : WX} {T T' : Tk} {H H' : Hp} {h : HH} {σ : L2.St} {env : En} {E E' : Ends} {α β : Type} {q : Tk → Hp → α → β → Prop}
theorem AfterS.later {r : S} (a : AfterS K mg W T H E r) (l : Le T H T' H') (m : Mu T H) : AfterS K mg W T' H' E r := by
  revert a
  cases r with
  | next env h => exact fun a T2 H2 s2 l2 rr e => a T2 H2 s2 (l.trans m l2) rr e
  | ret d h => exact fun a T2 H2 v2 l2 rr e => a T2 H2 v2 (l.trans m l2) rr e
  | brk env h => exact fun a T2 H2 s2 l2 rr e => a T2 H2 s2 (l.trans m l2) rr e
  | cont env h => exact fun a T2 H2 s2 l2 rr e => a T2 H2 s2 (l.trans m l2) rr e
  | exc c env h => exact fun a C T2 H2 s2 hm l2 rr e => a C T2 H2 s2 hm (l.trans m l2) rr e
  | stuck => exact fun a => a
theorem AfterS.bindS0 {r : R α} {k : α → HH → S} {P : β → Hp → Prop} (a : AfterS K mg W T H E (r.bindS env k)) (m : Mu T H) (e : relE K T H env σ)
    (hT : ∀ d h' T' H' v, r = .ok d h' → Le T H T' H' → RelH K T' H' h' → q T' H' d v → AfterS K mg W T H E (k d h') → P v H') : After K mg W T H σ q P r := by
  revert a hT
  cases r with
  | ok d h' => exact fun a hT T' H' v l rr qq => hT d h' T' H' v rfl l rr qq a
  | exc c h' => exact fun a _ C T' H' hm l rr => a C T' H' σ hm l rr (relE_mono l m e)
  | stuck => exact fun a _ => a
theorem AfterS.bindS {r : R α} {k : α → HH → S} {P : β → Hp → Prop} (a : AfterS K mg W T H E (r.bindS env k)) (m : Mu T H) (e : relE K T H env σ)
    (hT : ∀ d h' T' H' v, r = .ok d h' → Le T H T' H' → RelH K T' H' h' → q T' H' d v → AfterS K mg W T' H' E (k d h') → P v H') : After K mg W T H σ q P r :=
  a.bindS0 m e fun d h' T' H' v e l rr qq a' => hT d h' T' H' v e l rr qq (a'.later l m)
theorem AfterS.next (a : AfterS K mg W T H E (.next env h)) (r : RelH K T H h) (e : relE K T H env σ) : E.nx σ H := a T H σ Le.refl r e
theorem relE_set (e : relE K T H env σ) {d : D} {v : V} (r : rel K T H d v) (i : Nat) : relE K T H (env.set i (some d)) (σ.set i (some v)) := by
  refine ⟨by rw [List.length_set, List.length_set]; exact e.1, fun j d' h => ?_⟩
  by_cases hj : i = j
  · subst hj
    by_cases hl : i < env.length
    · rw [List.getElem?_set_self hl] at h
      cases h
      exact ⟨v, List.getElem?_set_self (by rw [← e.1]; exact hl), r⟩
    · rw [List.getElem?_eq_none (by rw [List.length_set]; omega)] at h; cases h
  · rw [List.getElem?_set_ne hj] at h ⊢
    exact e.2 j d' h
end

/-! ### blocks -/
def sNil : Sx := fun env h => .next env h
def sSeq (f g : Sx) : Sx := fun env h => match f env h with
  | .next env' h' => g env' h'
  | r => r
def sRet (f : Ex) : Sx := fun env h => (f env h).bindS env fun d h1 => .ret d h1
def sRetN : Sx := fun _ h => .ret .non h
def sEx (f : Ex) : Sx := fun env h => (f env h).bindS env fun _ h1 => .next env h1
def sIf (c : Et) (f g : Sx) : Sx := fun env h => (c env h).bindS env fun b h1 => if b = true then f env h1 else g env h1
def sBrk : Sx := fun env h => .brk env h
def sSet (i : Nat) (f : Ex) : Sx := fun env h => (f env h).bindS env fun d h1 => .next (env.set i (some d)) h1
section
variable {X : Cx} {W : WX} {st : Stmt} {rest : List Stmt} {f g : Sx} {e : Expr} {fe : Ex} {pos : Pos}
theorem sb_nil : SB X W [] sNil := PSs.mono pss_nil fun E σ H hh => by
  obtain ⟨T, env, h, r1, r2, a⟩ := hh
  exact a.next r1 r2
theorem sb_cons (h1 : SS X W st f) (h2 : SB X W rest g) : SB X W (st :: rest) (sSeq f g) := PSs.mono (pss_cons h1 h2) fun E σ H hh => by
  obtain ⟨T, env, h, r1, r2, a⟩ := hh
  refine ⟨T, env, h, r1, r2, ?_⟩
  revert a
  unfold sSeq
  cases f env h with
  | next env' h' => exact fun a T' H' σ' l rr ee => ⟨T', env', h', rr, ee, AfterS.later (r := g env' h') a l r1.mut⟩
  | ret d h' => exact fun a => a
  | brk env' h' => exact fun a => a
  | cont env' h' => exact fun a => a
  | exc c env' h' => exact fun a => a
  | stuck => exact fun a => a
theorem sb_one (h1 : SS X W st f) : SB X W [st] f := pss_one h1
theorem ss_ret (he : SE X W e fe) : SS X W (.Return (some e) pos) (sRet fe) := PS.mono (ps_ret he) fun E σ H hh => by
  obtain ⟨T, env, h, r1, r2, a⟩ := hh
  exact ⟨T, env, h, r1, r2, a.bindS r1.mut r2 fun d h1 T1 H1 v _ l1 q1 rv a1 => a1 T1 H1 v Le.refl q1 rv⟩
theorem ss_retN : SS X W (.Return none pos) sRetN := PS.mono ps_retN fun E σ H hh => by
  obtain ⟨T, env, h, r1, r2, a⟩ := hh
  exact a T H .non Le.refl r1 (rel_non_iff.mpr rfl)
theorem ss_ex (he : SE X W e fe) (hs : swapsWith e none pos.line X.env = pure false := by rfl) : SS X W (.Expr e pos) (sEx fe) := PS.mono (ps_expr he hs) fun E σ H hh => by
  obtain ⟨T, env, h, r1, r2, a⟩ := hh
  exact ⟨T, env, h, r1, r2, a.bindS r1.mut r2 fun d h1 T1 H1 v _ l1 q1 rv a1 => a1.next q1 (relE_mono l1 r1.mut r2)⟩
theorem ss_if {c : Expr} {a b : List Stmt} {fc : Et} (hc : ST X W c fc) (ha : SB X W a f) (hb : SB X W b g) : SS X W (.If c a b pos) (sIf fc f g) := PS.mono (ps_if hc ha hb) fun E σ H hh => by
  obtain ⟨T, env, h, r1, r2, a⟩ := hh
  refine ⟨T, env, h, r1, r2, a.bindS r1.mut r2 fun k h1 T1 H1 v _ l1 q1 rv a1 => ?_⟩
  subst rv
  by_cases hk : k = true
  · rw [if_pos hk] at a1 ⊢
    exact ⟨T1, env, h1, q1, relE_mono l1 r1.mut r2, a1⟩
  · rw [if_neg hk] at a1 ⊢
    exact ⟨T1, env, h1, q1, relE_mono l1 r1.mut r2, a1⟩
theorem ss_brk : SS X W (.Break pos) sBrk := PS.mono ps_break fun E σ H hh => by
  obtain ⟨T, env, h, r1, r2, a⟩ := hh
  exact a T H σ Le.refl r1 r2
theorem ss_set {i : Nat} {x : Str} {pos' : Pos} (hN : X.N.Nodup) (hi : X.N[i]? = some x) (hx : Loc X.env.scope x) (he : SE X W e fe) (hs : swapsWith e (some (.Name x pos')) pos.line X.env = pure false := by rfl)
    (hf : X.fn x = true ∨ X.env.scope.names.lookup x = some .local := by first | exact .inl rfl | exact .inr rfl | assumption) : SS X W (.Assign [.Name x pos'] e pos) (sSet i fe) := PS.mono (ps_set hN hi hx he hs hf) fun E σ H hh => by
  obtain ⟨T, env, h, r1, r2, a⟩ := hh
  exact ⟨T, env, h, r1, r2, a.bindS r1.mut r2 fun d h1 T1 H1 v _ l1 q1 rv a1 => a1.next q1 (relE_set (relE_mono l1 r1.mut r2) rv i)⟩
end

/-! ### targets -/
abbrev Tg := D → En → Option En
abbrev Tgs := List D → En → Option En
/-- the slots but those at vs are as they were -/
def But (vs : List Nat) (σ σ' : L2.St) : Prop := σ'.length = σ.length ∧ ∀ j, j ∉ vs → σ'[j]? = σ[j]?
def rdTg {α β : Type} (K : PySem.W.Frag) (q : Tk → Hp → α → β → Prop) (vs : List Nat) (g : α → En → Option En) (v : β) (σ : L2.St) (H : Hp) (Q : L2.St → Hp → Prop) : Prop :=
  ∃ T env h d env', RelH K T H h ∧ relE K T H env σ ∧ q T H d v ∧ g d env = some env' ∧ ∀ σ', relE K T H env' σ' → But vs σ σ' → Q σ' H
abbrev SG (X : Cx) (t : Expr) (vs : List Nat) (g : Tg) : Prop := PG X t (rdTg X.K (rel X.K) vs g)
abbrev SGs (X : Cx) (ts : List Expr) (vs : List Nat) (g : Tgs) : Prop := PGs X ts (rdTg X.K (rels X.K) vs g)
theorem But.trans {vs ws : List Nat} {a b c : L2.St} (x : But vs a b) (y : But ws b c) : But (vs ++ ws) a c :=
  ⟨y.1.trans x.1, fun j hj => (y.2 j fun z => hj (List.mem_append_right _ z)).trans (x.2 j fun z => hj (List.mem_append_left _ z))⟩
def gN (i : Nat) : Tg := fun d env => some (env.set i (some d))
def gsNil' : Tgs := fun ds env => match ds with
  | [] => some env
  | _ => none
def gsCons (g : Tg) (gs : Tgs) : Tgs := fun ds env => match ds with
  | d :: ds => (g d env).bind fun env' => gs ds env'
  | [] => none
def gT (n : Nat) (gs : Tgs) : Tg := fun d env => match d with
  | .tup ds => if ds.length = n then gs ds env else none
  | .tux ds => if ds.length = n then gs ds env else none
  | _ => none
theorem PG.mono {X : Cx} {e : Expr} {t t' : TG} (h : PG X e t) (i : ∀ v σ H Q, t' v σ H Q → t v σ H Q) : PG X e t' := by
  refine ⟨?_⟩
  have := h.run
  intro pins s σ H v u Q I r q
  exact this pins s σ H v u Q I r (i _ _ _ _ q)
theorem PGs.mono {X : Cx} {e : List Expr} {t t' : TGs} (h : PGs X e t) (i : ∀ v σ H Q, t' v σ H Q → t v σ H Q) : PGs X e t' := by
  refine ⟨?_⟩
  have := h.run
  intro pins s σ H v u Q I r q
  exact this pins s σ H v u Q I r (i _ _ _ _ q)
section
variable {X : Cx} {W : WX}
theorem sg_name {i : Nat} {x : Str} {pos : Pos} (hN : X.N.Nodup) (hi : X.N[i]? = some x) (hx : Loc X.env.scope x) (hf : X.fn x = true ∨ X.env.scope.names.lookup x = some .local := by first | exact .inl rfl | exact .inr rfl | assumption) : SG X (.Name x pos) [i] (gN i) :=
  PG.mono (pg_name hN hi hx hf) fun v σ H Q hh => by
    obtain ⟨T, env, h, d, env', r1, r2, rv, e, q⟩ := hh
    cases e
    refine q _ (relE_set r2 rv i) ⟨by rw [List.length_set], fun j hj => ?_⟩
    rw [List.getElem?_set_ne fun z => hj (by simp [z])]
theorem sgs_nil : SGs X [] [] gsNil' := PGs.mono pgs_nil fun v σ H Q hh => by
  obtain ⟨T, env, h, d, env', r1, r2, rv, e, q⟩ := hh
  unfold gsNil' at e
  split at e
  · cases e
    unfold rels at rv
    exact ⟨rv, q _ r2 ⟨rfl, fun _ _ => rfl⟩⟩
  · cases e
theorem sgs_cons {e : Expr} {es : List Expr} {g : Tg} {gs : Tgs} {vs ws : List Nat} (h1 : SG X e vs g) (h2 : SGs X es ws gs) (hs : (assignEach (e :: es) X.env).map (·.2) = assign e X.env :: (assignEach es X.env).map (·.2) := by rfl) : SGs X (e :: es) (vs ++ ws) (gsCons g gs) := PGs.mono (pgs_cons h1 h2 hs) fun v σ H Q hh => by
  obtain ⟨T, env, h, d, env', r1, r2, rv, e, q⟩ := hh
  unfold gsCons at e
  split at e
  · rename_i d ds
    cases e1 : g d env with
    | none => rw [e1] at e; cases e
    | some env1 =>
      rw [e1] at e
      unfold rels at rv
      obtain ⟨v1, vr, rfl, rv1, rvs⟩ := rv
      exact ⟨v1, vr, rfl, T, env, h, d, env1, r1, r2, rv1, e1, fun σ' r2' b => ⟨T, env1, h, ds, env', r1, r2', rvs, e, fun σ2 r3 b2 => q σ2 r3 (b.trans b2)⟩⟩
  · cases e
theorem sg_tup {es : List Expr} {kk : Nat} {gs : Tgs} {n : Nat} {vs : List Nat} {pos : Pos} (hc : X.calm = true) (h : SGs X es vs gs) (hn : (assignEach es X.env).length = n := by rfl) (hst : (assignEach es X.env).findIdx? (·.1) = none := by rfl) : SG X (.Tuple es kk pos) vs (gT n gs) :=
  PG.mono (pg_tup hc h hn hst) fun v σ H Q hh => by
    obtain ⟨T, env, h, d, env', r1, r2, rv, e, q⟩ := hh
    unfold gT at e
    split at e
    · rename_i ds
      split at e
      · rename_i hl
        unfold rel at rv
        obtain ⟨a, vr, rfl, s, rvs⟩ := rv
        exact ⟨a, vr, rfl, s.sq, by rw [rels_length rvs]; exact hl, T, env, h, ds, env', r1, r2, rvs, e, q⟩
      · cases e
    · rename_i ds
      split at e
      · rename_i hl
        unfold rel at rv
        obtain ⟨a, vr, rfl, s, rvs⟩ := rv
        exact ⟨a, vr, rfl, s, by rw [rels_length rvs]; exact hl, T, env, h, ds, env', r1, r2, rvs, e, q⟩
      · cases e
    · cases e
def ofOS {α : Type} (o : Option α) (k : α → S) : S := match o with
  | some a => k a
  | none => .stuck
theorem AfterS.ofOS {K : PySem.W.Frag} {mg : Str → Option Value} {W : WX} {T : Tk} {H : Hp} {E : Ends} {γ : Type} {o : Option γ} {k : γ → S}
    (a : AfterS K mg W T H E (ofOS o k)) : ∃ b, o = some b ∧ AfterS K mg W T H E (k b) := by
  cases o with
  | none => exact a.elim
  | some b => exact ⟨b, rfl, a⟩
def sAsg (g : Tg) (f : Ex) : Sx := fun env h => (f env h).bindS env fun d h1 => ofOS (g d env) fun env' => .next env' h1
theorem ss_asg {tg e : Expr} {fe : Ex} {g : Tg} {vs : List Nat} {pos : Pos} (he : SE X W e fe) (hg : SG X tg vs g) (hs : swapsWithSole [tg] e pos.line X.env = pure false := by rfl) (hw : swappedStores [tg] e X.env = pure none := by rfl)
    (h1 : (assignEach [tg] X.env).map (·.2) = [assign tg X.env] := by rfl) : SS X W (.Assign [tg] e pos) (sAsg g fe) :=
  PS.mono (ps_asg he hg hs hw h1) fun E σ H hh => by
    obtain ⟨T, env, h, r1, r2, a⟩ := hh
    refine ⟨T, env, h, r1, r2, a.bindS r1.mut r2 fun d h1 T1 H1 v _ l1 q1 rv a1 => ?_⟩
    obtain ⟨env', e1, a2⟩ := a1.ofOS
    exact ⟨T1, env, h1, d, env', q1, relE_mono l1 r1.mut r2, rv, e1, fun σ' r3 _ => a2.next q1 r3⟩
/-- o[i] = e, o a list or a dict that changes -/
def putAt (a b d : D) (h : HH) : Option HH := match a with
  | .ref j => match h[j]? with
    | some (.lst xs) => match b with
      | .int i => (ixN xs.length i).map fun n => h.set j (.lst (xs.set n d))
      | _ => none
    | some (.dic kvs) => (kyD b).bind fun k => if kvs.length < sz then some (h.set j (.dic (dPut kvs k d))) else none
    | _ => none
  | _ => none
def sPut (fo fi fe : Ex) : Sx := fun env h => (fe env h).bindS env fun d h1 => (fo env h1).bindS env fun a h2 => (fi env h2).bindS env fun b h3 => ofOS (putAt a b d h3) fun h4 => .next env h4
/-- the reading of what all three come to -/
theorem rd_put {fo fi fe : Ex} {E : Ends} {σ : L2.St} {H : Hp} (hh : rdSt X W (sPut fo fi fe) E σ H) :
    rd X W fe σ H fun v H1 => rd X W fo σ H1 fun x H2 => rd X W fi σ H2 fun y H3 => ∃ p, x = .ref p ∧
      ((∃ xs i n, H3 p = some (.lst xs) ∧ y = .int i ∧ ixN xs.length i = some n ∧ E.nx σ (upd H3 p (.lst (xs.set n v)))) ∨
       ∃ kvs k, H3 p = some (.dK kvs) ∧ y = kV k ∧ kvs.length < sizeLine ∧ E.nx σ (upd H3 p (.dK (putK kvs k v)))) := by
  obtain ⟨T, env, h, r1, r2, a⟩ := hh
  refine ⟨T, env, h, r1, r2, a.bindS r1.mut r2 fun d h1 T1 H1 v ee1 l1 q1 rv a1 => ?_⟩
  have e1 := relE_mono l1 r1.mut r2
  refine ⟨T1, env, h1, q1, e1, a1.bindS q1.mut e1 fun o h2 T2 H2 x ee2 l2 q2 rx a2 => ?_⟩
  have e2 := relE_mono l2 q1.mut e1
  refine ⟨T2, env, h2, q2, e2, a2.bindS q2.mut e2 fun b h3 T3 H3 y ee3 l3 q3 ry a3 => ?_⟩
  have e3 := relE_mono l3 q2.mut e2
  have rv3 := rel_mono (l2.trans q1.mut l3) q1.mut d v rv
  have rx3 := rel_mono l3 q2.mut o x rx
  obtain ⟨h4, e4, a4⟩ := a3.ofOS
  unfold putAt at e4
  split at e4
  · rename_i j
    unfold rel at rx3
    obtain ⟨p, rfl, hp⟩ := rx3
    refine ⟨p, rfl, ?_⟩
    have pl : p ∈ T3.L := List.mem_of_getElem? hp
    cases e5 : h3[j]? with
    | none => rw [e5] at e4; cases e4
    | some ob =>
      obtain ⟨p', e6, hob⟩ := q3.at_ _ _ e5
      rw [hp] at e6; cases e6
      cases ob with
      | lst xs =>
        rw [e5] at e4
        obtain ⟨vs, e7, rvs⟩ := hob
        cases b with
        | int i =>
          dsimp only at e4
          cases e8 : ixN xs.length i with
          | none => rw [e8] at e4; cases e4
          | some n =>
            rw [e8] at e4; cases e4
            refine .inl ⟨vs, i, n, e7, rel_int_iff.mp ry, by rw [rels_length rvs]; exact e8, ?_⟩
            refine a4 T3 _ σ (Le.wr pl (by intro _ _ z; rw [e7] at z; cases z)) (q3.wr hp LD.lst ⟨_, upd_same, ?_⟩) (relE_mono (Le.wr pl (by intro _ _ z; rw [e7] at z; cases z)) q3.mut e3)
            exact rels_mono (Le.wr pl (by intro _ _ z; rw [e7] at z; cases z)) q3.mut _ _ (rels_set rvs rv3 n)
        | _ => cases e4
      | dic kvs =>
        rw [e5] at e4
        obtain ⟨vs, e7, rvs⟩ := hob
        dsimp only at e4
        cases e8 : kyD b with
        | none => rw [e8] at e4; cases e4
        | some k =>
          rw [e8] at e4
          dsimp only [Option.bind] at e4
          split at e4
          · rename_i hz
            cases e4
            refine .inr ⟨vs, kyV k, e7, rel_ky ry e8, by rw [relk_length rvs, sizeLine_eq]; exact hz, ?_⟩
            refine a4 T3 _ σ (Le.wr pl (by intro _ _ z; rw [e7] at z; cases z)) (q3.wr hp LD.dK ⟨_, upd_same, ?_⟩) (relE_mono (Le.wr pl (by intro _ _ z; rw [e7] at z; cases z)) q3.mut e3)
            exact relk_mono (Le.wr pl (by intro _ _ z; rw [e7] at z; cases z)) q3.mut _ _ (relk_put rvs k rv3)
          · cases e4
      | lkd kvs => rw [e5] at e4; cases e4
  · cases e4
def rSetA : V → V → V → Hp → (Hp → Prop) → Prop := fun o i v H Q => ∃ p, o = .ref p ∧ ((∃ xs k n, H p = some (.lst xs) ∧ i = .int k ∧ ixN xs.length k = some n ∧ Q (upd H p (.lst (xs.set n v)))) ∨
  ∃ kvs k, H p = some (.dK kvs) ∧ i = kV k ∧ kvs.length < sizeLine ∧ Q (upd H p (.dK (putK kvs k v))))
theorem set_any (hu : X.A.units + 1 < cLine) : PSet X rSetA := by
  intro pins s σ H o i v ov iv u Q I ro ri rv ⟨p, e, q⟩
  subst e
  rcases q with ⟨xs, k, n, h1, h2, h3, q⟩ | ⟨kvs, k, h1, h2, h3, q⟩
  · exact set_list pins s σ H _ i v ov iv u Q I ro ri rv ⟨p, xs, k, n, rfl, h2, h1, h3, q⟩
  · subst h2
    cases (show ov = Value.ref p from ro)
    exact d_setItem hu I (DPut.k h1 h3) ri rv fun s' I' => ⟨_, I', q⟩
theorem ss_put {o i value : Expr} {fo fi fe : Ex} {pos pos' : Pos} (hv : SE X W value fe) (hg : PG X (.Subscript o i pos') (gSub (rd X W fo) (rd X W fi) rSetA))
    (hs : swapsWithSole [.Subscript o i pos'] value pos.line X.env = pure false := by rfl) (hw : swappedStores [.Subscript o i pos'] value X.env = pure none := by rfl)
    (h1 : (assignEach [.Subscript o i pos'] X.env).map (·.2) = [assign (.Subscript o i pos') X.env] := by rfl) : SS X W (.Assign [.Subscript o i pos'] value pos) (sPut fo fi fe) :=
  PS.mono (ps_asg hv hg hs hw h1) fun E σ H hh => rd_put hh
end
end Pu

namespace Pu
open PySem PySem.Spec PyProof.Rows L2

/-! ### whether two values are written the same -/
mutual
def beqD : D → D → Bool
  | .non, .non => true
  | .bl a, .bl b => a == b
  | .int a, .int b => decide (a = b)
  | .str a, .str b => decide (a = b)
  | .tup a, .tup b => beqDs a b
  | .lst a, .lst b => beqDs a b
  | .frz a, .frz b => beqDs a b
  | .dic a, .dic b => beqDk a b
  | .ref a, .ref b => decide (a = b)
  | .ty a, .ty b => decide (a = b)
  | .xc a, .xc b => decide (a = b)
  | .tux a, .tux b => beqDs a b
  | _, _ => false
def beqDs : List D → List D → Bool
  | [], [] => true
  | a :: as, b :: bs => beqD a b && beqDs as bs
  | _, _ => false
def beqDk : List (Sum Int String × D) → List (Sum Int String × D) → Bool
  | [], [] => true
  | (k, a) :: as, (j, b) :: bs => decide (k = j) && beqD a b && beqDk as bs
  | _, _ => false
end
mutual
theorem beqD_eq : ∀ a b : D, beqD a b = true → a = b
  | .non, b, h => by cases b <;> simp [beqD] at h ⊢
  | .bl a, b, h => by cases b <;> simp [beqD] at h ⊢; exact h
  | .int a, b, h => by cases b <;> simp [beqD] at h ⊢; exact h
  | .str a, b, h => by cases b <;> simp [beqD] at h ⊢; exact h
  | .tup a, b, h => by cases b <;> simp [beqD] at h ⊢; exact beqDs_eq _ _ h
  | .lst a, b, h => by cases b <;> simp [beqD] at h ⊢; exact beqDs_eq _ _ h
  | .frz a, b, h => by cases b <;> simp [beqD] at h ⊢; exact beqDs_eq _ _ h
  | .dic a, b, h => by cases b <;> simp [beqD] at h ⊢; exact beqDk_eq _ _ h
  | .ref a, b, h => by cases b <;> simp [beqD] at h ⊢; exact h
  | .ty a, b, h => by cases b <;> simp [beqD] at h ⊢; exact h
  | .xc a, b, h => by cases b <;> simp [beqD] at h ⊢; exact h
  | .tux a, b, h => by cases b <;> simp [beqD] at h ⊢; exact beqDs_eq _ _ h
theorem beqDs_eq : ∀ a b : List D, beqDs a b = true → a = b
  | [], b, h => by cases b <;> simp [beqDs] at h ⊢
  | a :: as, b, h => by
    cases b with
    | nil => simp [beqDs] at h
    | cons b bs =>
      simp only [beqDs, Bool.and_eq_true] at h
      rw [beqD_eq a b h.1, beqDs_eq as bs h.2]
theorem beqDk_eq : ∀ a b : List (Sum Int String × D), beqDk a b = true → a = b
  | [], b, h => by cases b <;> simp [beqDk] at h ⊢
  | (k, a) :: as, b, h => by
    cases b with
    | nil => simp [beqDk] at h
    | cons b bs =>
      obtain ⟨j, b⟩ := b
      simp only [beqDk, Bool.and_eq_true, decide_eq_true_eq] at h
      rw [h.1.1, beqD_eq a b h.1.2, beqDk_eq as bs h.2]
end
mutual
theorem beqD_refl : ∀ a : D, beqD a a = true
  | .non => by simp [beqD]
  | .bl a => by simp [beqD]
  | .int a => by simp [beqD]
  | .str a => by simp [beqD]
  | .tup a => by simp only [beqD]; exact beqDs_refl a
  | .lst a => by simp only [beqD]; exact beqDs_refl a
  | .frz a => by simp only [beqD]; exact beqDs_refl a
  | .dic a => by simp only [beqD]; exact beqDk_refl a
  | .ref a => by simp [beqD]
  | .ty a => by simp [beqD]
  | .xc a => by simp [beqD]
  | .tux a => by simp only [beqD]; exact beqDs_refl a
theorem beqDs_refl : ∀ a : List D, beqDs a a = true
  | [] => by simp [beqDs]
  | a :: as => by simp only [beqDs, beqD_refl a, beqDs_refl as, Bool.and_self]
theorem beqDk_refl : ∀ a : List (Sum Int String × D), beqDk a a = true
  | [] => by simp [beqDk]
  | (k, a) :: as => by simp only [beqDk, beqD_refl a, beqDk_refl as, decide_true, Bool.and_self]
end

/-! ### what is walked -/
/-- its items, and the lists that must stand still meanwhile -/
structure IT where
  ds : List D
  chk : List (Nat × List D)
abbrev Ei := En → HH → R IT
def chkOk (h : HH) : List (Nat × List D) → Bool
  | [] => true
  | (j, xs) :: r => (match h[j]? with | some (.lst ys) => beqDs ys xs | _ => false) && chkOk h r
def Itr8 (K : PySem.W.Frag) (T : Tk) (H : Hp) (it : IT) (J : It) : Prop := ∃ G Y, Walk J it.ds.length G Y ∧
  (∀ T1 H1 h1, Le T H T1 H1 → RelH K T1 H1 h1 → chkOk h1 it.chk = true → G H1) ∧
  ∀ i H1 x H', i < it.ds.length → Y i H1 x H' → ∀ T1 h1, Le T H T1 H1 → RelH K T1 H1 h1 → chkOk h1 it.chk = true → ∃ d, it.ds[i]? = some d ∧ Le T1 H1 T1 H' ∧ RelH K T1 H' h1 ∧ rel K T1 H' d x
def rdI (X : Cx) (W : WX) (f : Ei) : TI := rdG X.K X.mg W (Itr8 X.K) f
abbrev SI (X : Cx) (W : WX) (tg iter : Expr) (f : Ei) : Prop := PI X tg iter (rdI X W f)
/-- the list that d is, by its place where it changes -/
def chkD (d : D) (xs : List D) : List (Nat × List D) := match d with
  | .ref j => [(j, xs)]
  | _ => []
def iSeq (f : Ex) : Ei := fun env h => (f env h).bind fun d h1 => ofO (items h1 d) fun xs => .ok ⟨xs, chkD d xs⟩ h1
def intsL (lo : Int) (n : Nat) : List D := (List.range n).map fun i => .int (lo + (i : Nat))
@[irreducible] def inB (i : Int) : Bool := decide (-4611686018427387904 ≤ i) && decide (i < 4611686018427387904)
def iRg (f : Exs) : Ei := fun env h => (f env h).bind fun ds h1 => match ds with
  | [.int j] => if inB j = true then .ok ⟨intsL 0 j.toNat, []⟩ h1 else .stuck
  | [.int i, .int j] => if (inB i && inB j) = true then .ok ⟨intsL i (j - i).toNat, []⟩ h1 else .stuck
  | _ => .stuck
def iRev (f : Ex) : Ei := fun env h => (f env h).bind fun d h1 => ofO (items h1 d) fun xs => .ok ⟨xs.reverse, chkD d xs⟩ h1
def zipD (xs ys : List D) : List D := (xs.zip ys).map fun p => .tux [p.1, p.2]
def iZip8 (f : Exs) : Ei := fun env h => (f env h).bind fun ds h1 => match ds with
  | [.tup xs, .tup ys] => .ok ⟨zipD xs ys, []⟩ h1
  | [a, b] => ofO (itemsL h1 a) fun xs => ofO (itemsL h1 b) fun ys => .ok ⟨zipD xs ys, chkD a xs ++ chkD b ys⟩ h1
  | _ => .stuck
def numb : Nat → List D → List D
  | _, [] => []
  | i, d :: ds => .tux [.int i, d] :: numb (i + 1) ds
def iEnumL (f : Exs) : Ei := fun env h => (f env h).bind fun ds h1 => match ds with
  | [a] => ofO (itemsL h1 a) fun xs => .ok ⟨numb 0 xs, chkD a xs⟩ h1
  | _ => .stuck
section
variable {K : PySem.W.Frag} {T : Tk} {H : Hp} {h : HH}
theorem itemsL_stay {d : D} {v : V} {xs : List D} (r : RelH K T H h) (q : rel K T H d v) (e : itemsL h d = some xs) : ∃ a, v = .ref a ∧
    ∀ T1 H1 h1, Le T H T1 H1 → RelH K T1 H1 h1 → chkOk h1 (chkD d xs) = true → ∃ vs, SqL K H1 a vs ∧ rels K T1 H1 xs vs := by
  have m := r.mut
  cases d with
  | lst ys =>
    unfold itemsL at e; cases e
    unfold rel at q
    obtain ⟨a, vs, rfl, s, n, rv⟩ := q
    exact ⟨a, rfl, fun T1 H1 h1 l _ _ => ⟨vs, SqL.of (l.keep _ _ s (m.out n) fun _ z => nomatch z), rels_mono l m _ _ rv⟩⟩
  | frz ys =>
    unfold itemsL at e; cases e
    unfold rel at q
    obtain ⟨a, vs, rfl, s, rv⟩ := q
    refine ⟨a, rfl, fun T1 H1 h1 l _ _ => ⟨vs, ?_, rels_mono l m _ _ rv⟩⟩
    rcases s with ⟨s, n⟩ | s
    · exact .inl (l.rd m s n).1
    · exact s H1
  | ref j =>
    unfold itemsL at e
    unfold rel at q
    obtain ⟨a, rfl, hp⟩ := q
    dsimp only at e
    split at e
    · rename_i ys e2
      cases e
      refine ⟨a, rfl, fun T1 H1 h1 l r1 hc => ?_⟩
      simp only [chkD, chkOk, Bool.and_true] at hc
      split at hc
      · rename_i zs e3
        have := beqDs_eq _ _ hc
        subst this
        obtain ⟨b, e4, vs, e5, rv⟩ := r1.at_ _ _ e3
        rw [l.get hp] at e4; cases e4
        exact ⟨vs, SqL.of e5, rv⟩
      · cases hc
    · cases e
  | _ => unfold itemsL at e; cases e
theorem tup_stay {v : V} {xs : List D} (r : RelH K T H h) (q : rel K T H (.tup xs) v) : ∃ a, v = .ref a ∧ ∀ T1 H1, Le T H T1 H1 → ∃ vs, SqT K H1 a vs ∧ rels K T1 H1 xs vs := by
  unfold rel at q
  obtain ⟨a, vs, rfl, s, rv⟩ := q
  exact ⟨a, rfl, fun T1 H1 l => ⟨vs, l.sqT r.mut s.sq, rels_mono l r.mut _ _ rv⟩⟩
variable {a b : Addr} {n : Nat}
theorem wk_list : Walk (Itl K a) n (fun H => ∃ vs, vs.length = n ∧ SqL K H a vs) (fun i H x H' => H' = H ∧ ∀ vs, SqL K H a vs → vs[i]? = some x) :=
  ⟨fun i _ hi ⟨vs, e, q⟩ => ⟨vs, vs[i]'(by omega), q, by simp [e, hi]⟩, fun _ ⟨vs, e, q⟩ => ⟨vs, q, by omega⟩, fun _ _ _ _ _ _ y => y⟩
theorem wk_tup : Walk (Itt K a) n (fun H => ∃ vs, vs.length = n ∧ SqT K H a vs) (fun i H x H' => H' = H ∧ ∀ vs, SqT K H a vs → vs[i]? = some x) :=
  ⟨fun i _ hi ⟨vs, e, q⟩ => ⟨vs, vs[i]'(by omega), q, by simp [e, hi]⟩, fun _ ⟨vs, e, q⟩ => ⟨vs, q, by omega⟩, fun _ _ _ _ _ _ y => y⟩
theorem rels_back {ds : List D} {vs : List V} (r : rels K T H ds vs) {i : Nat} {v : V} (e : vs[i]? = some v) : ∃ d, ds[i]? = some d ∧ rel K T H d v := by
  have hl := (List.getElem?_eq_some_iff.mp e).1
  rw [rels_length r] at hl
  obtain ⟨v', e', q⟩ := rels_get r (List.getElem?_eq_getElem hl)
  rw [e] at e'; cases e'
  exact ⟨_, List.getElem?_eq_getElem hl, q⟩
theorem itr_list {d : D} {xs : List D} (hs : ∀ T1 H1 h1, Le T H T1 H1 → RelH K T1 H1 h1 → chkOk h1 (chkD d xs) = true → ∃ vs, SqL K H1 a vs ∧ rels K T1 H1 xs vs) : Itr8 K T H ⟨xs, chkD d xs⟩ (Itl K a) := by
  refine ⟨_, _, wk_list, fun T1 H1 h1 l r hc => ?_, fun i H1 x H' hi y T1 h1 l r hc => ?_⟩
  · obtain ⟨vs, q, rv⟩ := hs T1 H1 h1 l r hc
    exact ⟨vs, rels_length rv, q⟩
  · obtain ⟨vs, q, rv⟩ := hs T1 H1 h1 l r hc
    obtain ⟨rfl, y⟩ := y
    obtain ⟨d', e, rd⟩ := rels_back rv (y vs q)
    exact ⟨d', e, Le.refl, r, rd⟩
theorem itr_tup {xs : List D} {c : List (Nat × List D)} (hs : ∀ T1 H1, Le T H T1 H1 → ∃ vs, SqT K H1 a vs ∧ rels K T1 H1 xs vs) : Itr8 K T H ⟨xs, c⟩ (Itt K a) := by
  refine ⟨_, _, wk_tup, fun T1 H1 h1 l r hc => ?_, fun i H1 x H' hi y T1 h1 l r hc => ?_⟩
  · obtain ⟨vs, q, rv⟩ := hs T1 H1 l
    exact ⟨vs, rels_length rv, q⟩
  · obtain ⟨vs, q, rv⟩ := hs T1 H1 l
    obtain ⟨rfl, y⟩ := y
    obtain ⟨d', e, rd⟩ := rels_back rv (y vs q)
    exact ⟨d', e, Le.refl, r, rd⟩
theorem PI.mono {X : Cx} {tg e : Expr} {t t' : TI} (h : PI X tg e t) (i : ∀ σ H R, t' σ H R → t σ H R) : PI X tg e t' := ⟨fun pins s σ H Q I hq => h.run pins s σ H Q I (i σ H Q hq)⟩
theorem PI.or {X : Cx} {tg e : Expr} {t t' : TI} (h : PI X tg e t) (h' : PI X tg e t') : PI X tg e (fun σ H R => t σ H R ∨ t' σ H R) := ⟨fun pins s σ H Q I hq => hq.elim (h.run pins s σ H Q I) (h'.run pins s σ H Q I)⟩
variable {X : Cx} {W : WX} {tg : Expr}
theorem si_seq {e : Expr} {f : Ex} (hf : SE X W e f) : SI X W tg e (iSeq f) := PI.mono (PI.or (pi_list hf) (pi_tup hf)) fun σ H R hh => by
  obtain ⟨T, env, h, r1, r2, a⟩ := hh
  have key : (∃ xs h1, f env h = .ok (.tup xs) h1) ∨ ¬ ∃ xs h1, f env h = .ok (.tup xs) h1 := Classical.em _
  rcases key with ⟨xs, h1, e1⟩ | key
  · refine .inr ⟨T, env, h, r1, r2, a.bind r1.mut fun d h2 T1 H1 v e2 l1 q1 rv a1 => ?_⟩
    rw [e1] at e2; cases e2
    obtain ⟨p, rfl, hs⟩ := tup_stay q1 rv
    obtain ⟨vs, s, _⟩ := hs T1 H1 Le.refl
    exact ⟨p, rfl, ⟨vs, s⟩, After.done a1 q1 (itr_tup hs)⟩
  · refine .inl ⟨T, env, h, r1, r2, a.bind r1.mut fun d h2 T1 H1 v e2 l1 q1 rv a1 => ?_⟩
    obtain ⟨xs, e3, a2⟩ := a1.ofO
    have e4 : itemsL h2 d = some xs := by
      unfold items at e3
      split at e3
      · exact absurd ⟨_, _, e2⟩ key
      · exact e3
    obtain ⟨p, rfl, hs⟩ := itemsL_stay q1 rv e4
    cases hc : chkOk h2 (chkD d xs) with
    | true =>
      obtain ⟨vs, s, _⟩ := hs T1 H1 h2 Le.refl q1 hc
      exact ⟨p, rfl, ⟨vs, s⟩, a2.done q1 (itr_list hs)⟩
    | false =>
      exfalso
      revert hc e4
      unfold itemsL
      split
      · intro _ hc; simp [chkD, chkOk] at hc
      · intro _ hc; simp [chkD, chkOk] at hc
      · rename_i j
        split
        · rename_i ys e5
          intro z hc
          cases z
          simp only [chkD, chkOk, e5, beqDs_refl] at hc
          cases hc
        · intro z; cases z
      · intro z; cases z
theorem wk_ints {lo : Int} {n : Nat} {c : List (Nat × List D)} : Itr8 K T H ⟨intsL lo n, c⟩ (Itr lo n) := by
  refine ⟨fun _ => True, YFn fun i => .int (lo + i), ?_, fun _ _ _ _ _ _ => trivial, fun i H1 x H' hi y T1 h1 l r hc => ?_⟩
  · have : (intsL lo n).length = n := by unfold intsL; simp
    rw [this]; exact walk_range
  · obtain ⟨rfl, rfl⟩ := y
    have hi' : i < n := by unfold intsL at hi; simpa using hi
    exact ⟨.int (lo + i), by unfold intsL; simp [hi'], Le.refl, r, rel_int_iff.mpr rfl⟩
theorem inB_iff {i : Int} (h : inB i = true) : -(2 ^ 62) ≤ i ∧ i < 2 ^ 62 := by
  unfold inB at h
  simp only [Bool.and_eq_true, decide_eq_true_eq] at h
  omega
theorem si_range1 {a : Expr} {f : Exs} {p pos : Pos} (hg : Gl X "range") (hm : X.mg "range" = none) (ha : SA X W [a] f) (hs : starEach [a] X.env = [(false, eval a X.env)] := by rfl) : SI X W tg (.Call (.Name "range" p) [a] [] pos) (iRg f) :=
  PI.mono (pi_range1 hg hm ha.pa hs) fun σ H R hh => by
    obtain ⟨T, env, h, r1, r2, a⟩ := hh
    refine ⟨T, env, h, r1, r2, a.bind r1.mut fun ds h1 T1 H1 vs e l1 q1 rvs a1 => ?_⟩
    have hl := ha.len _ _ _ _ e
    split at a1
    · rename_i j
      split at a1
      · rename_i hb
        obtain ⟨v, rfl, rv⟩ := rels_one rvs
        rw [rel_int_iff] at rv
        subst rv
        exact ⟨j, rfl, (inB_iff hb).1, (inB_iff hb).2, a1.done q1 wk_ints⟩
      · exact a1.elim
    · simp at hl
    · exact a1.elim
theorem si_range2 {a b : Expr} {f : Exs} {p pos : Pos} (hg : Gl X "range") (hm : X.mg "range" = none) (ha : SA X W [a, b] f) (hs : starEach [a, b] X.env = [(false, eval a X.env), (false, eval b X.env)] := by rfl)
    (hs2 : starEach [b] X.env = [(false, eval b X.env)] := by rfl) : SI X W tg (.Call (.Name "range" p) [a, b] [] pos) (iRg f) :=
  PI.mono (pi_range2 hg hm ha.pa hs hs2) fun σ H R hh => by
    obtain ⟨T, env, h, r1, r2, a⟩ := hh
    refine ⟨T, env, h, r1, r2, a.bind r1.mut fun ds h1 T1 H1 vs e l1 q1 rvs a1 => ?_⟩
    have hl := ha.len _ _ _ _ e
    split at a1
    · simp at hl
    · rename_i i j
      split at a1
      · rename_i hb
        rw [Bool.and_eq_true] at hb
        obtain ⟨v, u, rfl, rv, ru⟩ := rels_two rvs
        rw [rel_int_iff] at rv ru
        subst rv ru
        exact ⟨i, j, rfl, ⟨(inB_iff hb.1).1, (inB_iff hb.1).2, (inB_iff hb.2).1, (inB_iff hb.2).2⟩, a1.done q1 wk_ints⟩
      · exact a1.elim
    · exact a1.elim
theorem chkOk_append {h : HH} : ∀ {c c' : List (Nat × List D)}, chkOk h (c ++ c') = true → chkOk h c = true ∧ chkOk h c' = true
  | [], c', e => ⟨rfl, e⟩
  | (j, xs) :: c, c', e => by
    rw [List.cons_append] at e
    have e : ((match h[j]? with | some (.lst ys) => beqDs ys xs | _ => false) && chkOk h (c ++ c')) = true := e
    rw [Bool.and_eq_true] at e
    refine ⟨?_, (chkOk_append e.2).2⟩
    show ((match h[j]? with | some (.lst ys) => beqDs ys xs | _ => false) && chkOk h c) = true
    rw [Bool.and_eq_true]
    exact ⟨e.1, (chkOk_append e.2).1⟩
theorem chkOk_self {d : D} {xs : List D} {h : HH} (e : itemsL h d = some xs) : chkOk h (chkD d xs) = true := by
  revert e
  unfold itemsL
  split
  · intro _; simp [chkD, chkOk]
  · intro _; simp [chkD, chkOk]
  · rename_i j
    split
    · rename_i ys e5
      intro z
      cases z
      simp only [chkD, chkOk, e5, beqDs_refl]; rfl
    · intro z; cases z
  · intro z; cases z
theorem Le.tup {v : V} {p : Addr} {ds : List D} {vs : List V} (r : RelH K T H h) (hp : H p = none) (rv : rels K T H ds vs) (e : v = .ref p) : Le T H T (upd H p (.tup vs)) ∧ RelH K T (upd H p (.tup vs)) h ∧ rel K T (upd H p (.tup vs)) (.tux ds) v := by
  subst e
  exact ⟨Le.new hp, r.new hp, rel_tux upd_same (rels_mono (Le.new hp) r.mut _ _ rv)⟩
theorem wk_zip (hn : n ≤ n) {m : Nat} : Walk (Itz K a b) (min n m) (fun H => (∃ vs, vs.length = n ∧ SqL K H a vs) ∧ ∃ vs, vs.length = m ∧ SqL K H b vs)
    (fun i H v H' => ∃ T x y, v = .ref T ∧ H T = none ∧ H' = upd H T (.tup [x, y]) ∧ (∀ xs, SqL K H a xs → xs[i]? = some x) ∧ ∀ ys, SqL K H b ys → ys[i]? = some y) :=
  ⟨fun i _ hi ⟨⟨vs, e, q⟩, ws, e', q'⟩ => ⟨vs, ws, vs[i]'(by omega), ws[i]'(by omega), q, q', List.getElem?_eq_getElem _, List.getElem?_eq_getElem _⟩,
    fun _ ⟨⟨vs, e, q⟩, ws, e', q'⟩ => ⟨vs, ws, q, q', by omega⟩, fun _ _ _ _ _ _ y => y⟩
theorem wk_zipT {m : Nat} : Walk (RZ.ItzT K a b) (min n m) (fun H => (∃ vs, vs.length = n ∧ SqT K H a vs) ∧ ∃ vs, vs.length = m ∧ SqT K H b vs)
    (fun i H v H' => ∃ T x y, v = .ref T ∧ H T = none ∧ H' = upd H T (.tup [x, y]) ∧ (∀ xs, SqT K H a xs → xs[i]? = some x) ∧ ∀ ys, SqT K H b ys → ys[i]? = some y) :=
  ⟨fun i _ hi ⟨⟨vs, e, q⟩, ws, e', q'⟩ => ⟨vs, ws, vs[i]'(by omega), ws[i]'(by omega), q, q', List.getElem?_eq_getElem _, List.getElem?_eq_getElem _⟩,
    fun _ ⟨⟨vs, e, q⟩, ws, e', q'⟩ => ⟨vs, ws, q, q', by omega⟩, fun _ _ _ _ _ _ y => y⟩
theorem zipD_len {xs ys : List D} : (zipD xs ys).length = min xs.length ys.length := by unfold zipD; simp
theorem zipD_get {xs ys : List D} {i : Nat} {x y : D} (hx : xs[i]? = some x) (hy : ys[i]? = some y) : (zipD xs ys)[i]? = some (.tux [x, y]) := by
  unfold zipD
  rw [List.getElem?_map, show (xs.zip ys)[i]? = some (x, y) from List.getElem?_zip_eq_some.mpr ⟨hx, hy⟩]; rfl
theorem si_zip {e1 e2 : Expr} {f : Exs} {p pos tpos : Pos} {elts : List Expr} {kk : Nat} (hg : Gl X "zip") (hm : X.mg "zip" = none) (ha : SA X W [e1, e2] f)
    (hs : starEach [e1, e2] X.env = (false, eval e1 X.env) :: starEach [e2] X.env := by rfl) (hpl : (backTo pos (starEach [e2] X.env)).any (·.1) = false := by rfl) :
    SI X W (.Tuple elts kk tpos) (.Call (.Name "zip" p) [e1, e2] [] pos) (iZip8 f) := PI.mono (RZ.pi_zipA hg hm ha.pa hs hpl) fun σ H R hh => by
  obtain ⟨T, env, h, r1, r2, a⟩ := hh
  refine ⟨T, env, h, r1, r2, a.bind r1.mut fun ds h1 T1 H1 vs e l1 q1 rvs a1 => ?_⟩
  have hl := ha.len _ _ _ _ e
  split at a1
  · rename_i xs ys
    obtain ⟨v, u, rfl, rv, ru⟩ := rels_two rvs
    obtain ⟨p1, rfl, s1⟩ := tup_stay q1 rv
    obtain ⟨p2, rfl, s2⟩ := tup_stay q1 ru
    obtain ⟨vs1, t1, _⟩ := s1 T1 H1 Le.refl
    obtain ⟨vs2, t2, _⟩ := s2 T1 H1 Le.refl
    refine ⟨p1, p2, vs1, vs2, rfl, .inr ⟨t1, t2, After.done a1 q1 ?_⟩⟩
    refine ⟨_, _, by rw [zipD_len]; exact wk_zipT, fun T3 H3 h3 l3 r3 hc => ?_, fun i H3 x H' hi y T3 h3 l3 r3 hc => ?_⟩
    · obtain ⟨ws1, t1, r1⟩ := s1 T3 H3 l3
      obtain ⟨ws2, t2, r2⟩ := s2 T3 H3 l3
      exact ⟨⟨ws1, rels_length r1, t1⟩, ws2, rels_length r2, t2⟩
    · obtain ⟨ws1, t1, w1⟩ := s1 T3 H3 l3
      obtain ⟨ws2, t2, w2⟩ := s2 T3 H3 l3
      obtain ⟨T', x', y', rfl, hp, rfl, y1, y2⟩ := y
      obtain ⟨d1, g1, k1⟩ := rels_back w1 (y1 _ t1)
      obtain ⟨d2, g2, k2⟩ := rels_back w2 (y2 _ t2)
      obtain ⟨z1, z2, z3⟩ := Le.tup r3 hp (rels_cons k1 (rels_cons k2 rels_nil)) rfl
      exact ⟨_, zipD_get g1 g2, z1, z2, z3⟩
  · rename_i a' b' _
    obtain ⟨xs, e1, a1⟩ := After.ofO a1
    obtain ⟨ys, e2, a1⟩ := After.ofO a1
    obtain ⟨v, u, rfl, rv, ru⟩ := rels_two rvs
    obtain ⟨p1, rfl, s1⟩ := itemsL_stay q1 rv e1
    obtain ⟨p2, rfl, s2⟩ := itemsL_stay q1 ru e2
    obtain ⟨vs1, t1, _⟩ := s1 T1 H1 h1 Le.refl q1 (chkOk_self e1)
    obtain ⟨vs2, t2, _⟩ := s2 T1 H1 h1 Le.refl q1 (chkOk_self e2)
    refine ⟨p1, p2, vs1, vs2, rfl, .inl ⟨t1, t2, After.done a1 q1 ?_⟩⟩
    refine ⟨_, _, by rw [zipD_len]; exact wk_zip (Nat.le_refl _), fun T3 H3 h3 l3 r3 hc => ?_, fun i H3 x H' hi y T3 h3 l3 r3 hc => ?_⟩
    · obtain ⟨c1, c2⟩ := chkOk_append hc
      obtain ⟨ws1, t1, r1⟩ := s1 T3 H3 h3 l3 r3 c1
      obtain ⟨ws2, t2, r2⟩ := s2 T3 H3 h3 l3 r3 c2
      exact ⟨⟨ws1, rels_length r1, t1⟩, ws2, rels_length r2, t2⟩
    · obtain ⟨c1, c2⟩ := chkOk_append hc
      obtain ⟨ws1, t1, w1⟩ := s1 T3 H3 h3 l3 r3 c1
      obtain ⟨ws2, t2, w2⟩ := s2 T3 H3 h3 l3 r3 c2
      obtain ⟨T', x', y', rfl, hp, rfl, y1, y2⟩ := y
      obtain ⟨d1, g1, k1⟩ := rels_back w1 (y1 _ t1)
      obtain ⟨d2, g2, k2⟩ := rels_back w2 (y2 _ t2)
      obtain ⟨z1, z2, z3⟩ := Le.tup r3 hp (rels_cons k1 (rels_cons k2 rels_nil)) rfl
      exact ⟨_, zipD_get g1 g2, z1, z2, z3⟩
  · exact False.elim a1
theorem numb_get : ∀ {xs : List D} {k i : Nat} {x : D}, xs[i]? = some x → (numb k xs)[i]? = some (.tux [.int ((k + i : Nat) : Int), x])
  | [], k, i, x, e => by simp at e
  | y :: ys, k, 0, x, e => by simp at e; subst e; rfl
  | y :: ys, k, i + 1, x, e => by
    show (numb (k + 1) ys)[i]? = _
    rw [numb_get (by simpa using e)]
    congr 4; omega
theorem numb_len : ∀ {xs : List D} {k : Nat}, (numb k xs).length = xs.length
  | [], k => rfl
  | y :: ys, k => by unfold numb; rw [List.length_cons, numb_len]; rfl
theorem wk_enum : Walk (Ite K a) n (fun H => ∃ vs, vs.length = n ∧ SqL K H a vs) (fun i H v H' => ∃ T x, v = .ref T ∧ H T = none ∧ H' = upd H T (.tup [.int (i : Nat), x]) ∧ ∀ xs, SqL K H a xs → xs[i]? = some x) :=
  ⟨fun i _ hi ⟨vs, e, q⟩ => ⟨vs, vs[i]'(by omega), q, List.getElem?_eq_getElem _⟩, fun _ ⟨vs, e, q⟩ => ⟨vs, q, by omega⟩, fun _ _ _ _ _ _ y => y⟩
theorem si_enumL {e : Expr} {f : Exs} {p pos tpos : Pos} {elts : List Expr} {kk : Nat} (hg : Gl X "enumerate") (hm : X.mg "enumerate" = none) (ha : SA X W [e] f) (hs : starEach [e] X.env = [(false, eval e X.env)] := by rfl) :
    SI X W (.Tuple elts kk tpos) (.Call (.Name "enumerate" p) [e] [] pos) (iEnumL f) := PI.mono (pi_enum hg hm ha.pa hs) fun σ H R hh => by
  obtain ⟨T, env, h, r1, r2, a⟩ := hh
  refine ⟨T, env, h, r1, r2, a.bind r1.mut fun ds h1 T1 H1 vs e l1 q1 rvs a1 => ?_⟩
  split at a1
  · obtain ⟨xs, e1, a1⟩ := After.ofO a1
    obtain ⟨v, rfl, rv⟩ := rels_one rvs
    obtain ⟨p1, rfl, s1⟩ := itemsL_stay q1 rv e1
    obtain ⟨vs1, t1, _⟩ := s1 T1 H1 h1 Le.refl q1 (chkOk_self e1)
    refine ⟨p1, vs1, rfl, t1, After.done a1 q1 ?_⟩
    refine ⟨_, _, by rw [numb_len]; exact wk_enum, fun T3 H3 h3 l3 r3 hc => ?_, fun i H3 x H' hi y T3 h3 l3 r3 hc => ?_⟩
    · obtain ⟨ws1, t1, r1⟩ := s1 T3 H3 h3 l3 r3 hc
      exact ⟨ws1, rels_length r1, t1⟩
    · obtain ⟨ws1, t1, w1⟩ := s1 T3 H3 h3 l3 r3 hc
      obtain ⟨T', x', rfl, hp, rfl, y1⟩ := y
      obtain ⟨d1, g1, k1⟩ := rels_back w1 (y1 _ t1)
      obtain ⟨z1, z2, z3⟩ := Le.tup r3 hp (rels_cons (d := .int ((i : Nat) : Int)) (rel_int_iff.mpr rfl) (rels_cons k1 rels_nil)) rfl
      refine ⟨_, ?_, z1, z2, z3⟩
      have := numb_get (k := 0) g1
      rw [Nat.zero_add] at this
      exact this
  · exact False.elim a1
theorem rev_get {α : Type} {xs : List α} {i : Nat} (hi : i < xs.length) : xs.reverse[i]? = xs[xs.length - 1 - i]? := List.getElem?_reverse hi
theorem wk_rev : Walk (Itv K a n) n (fun H => ∃ vs, vs.length = n ∧ SqL K H a vs) (fun i H x H' => H' = H ∧ ∀ vs, SqL K H a vs → vs[n - 1 - i]? = some x) :=
  ⟨fun i _ hi ⟨vs, e, q⟩ => ⟨hi, vs, vs[n - 1 - i]'(by omega), q, List.getElem?_eq_getElem _⟩, fun _ _ => Nat.le_refl _, fun _ _ _ _ _ _ y => y⟩
theorem wk_revT : Walk (RT.ItvT K a n) n (fun H => ∃ vs, vs.length = n ∧ SqT K H a vs) (fun i H x H' => H' = H ∧ ∀ vs, SqT K H a vs → vs[n - 1 - i]? = some x) :=
  ⟨fun i _ hi ⟨vs, e, q⟩ => ⟨hi, vs, vs[n - 1 - i]'(by omega), q, List.getElem?_eq_getElem _⟩, fun _ _ => Nat.le_refl _, fun _ _ _ _ _ _ y => y⟩
theorem si_rev {e : Expr} {f : Ex} {p pos : Pos} (hg : Gl X "reversed") (hm : X.mg "reversed" = none) (he : SE X W e f) (hs : starEach [e] X.env = (false, eval e X.env) :: starEach [] X.env := by rfl) : SI X W tg (.Call (.Name "reversed" p) [e] [] pos) (iRev f) :=
  PI.mono (RT.pi_revA hg hm he hs) fun σ H R hh => by
    obtain ⟨T, env, h, r1, r2, a⟩ := hh
    refine ⟨T, env, h, r1, r2, a.bind r1.mut fun d h1 T1 H1 v e l1 q1 rv a1 => ?_⟩
    obtain ⟨xs, e1, a1⟩ := a1.ofO
    have key : (∃ ys, d = .tup ys) ∨ itemsL h1 d = some xs := by
      unfold items at e1
      split at e1
      · exact .inl ⟨_, rfl⟩
      · exact .inr e1
    rcases key with ⟨ys, rfl⟩ | e2
    · have e3 : ys = xs := by unfold items at e1; exact Option.some.inj e1
      rw [e3] at rv
      obtain ⟨p1, rfl, s1⟩ := tup_stay q1 rv
      obtain ⟨vs1, t1, w1⟩ := s1 T1 H1 Le.refl
      refine ⟨p1, vs1, rfl, .inr ⟨t1, a1.done q1 ?_⟩⟩
      have hl : vs1.length = xs.reverse.length := by rw [rels_length w1, List.length_reverse]
      refine ⟨_, _, by rw [hl]; exact wk_revT, fun T3 H3 h3 l3 r3 hc => ?_, fun i H3 x H' hi y T3 h3 l3 r3 hc => ?_⟩
      · obtain ⟨ws1, t1, r1⟩ := s1 T3 H3 l3
        exact ⟨ws1, by rw [rels_length r1, List.length_reverse], t1⟩
      · obtain ⟨ws1, t1, w1⟩ := s1 T3 H3 l3
        obtain ⟨rfl, y1⟩ := y
        obtain ⟨d1, g1, k1⟩ := rels_back w1 (y1 _ t1)
        rw [List.length_reverse] at hi
        exact ⟨d1, by show xs.reverse[i]? = _; rw [rev_get hi]; simpa using g1, Le.refl, r3, k1⟩
    · obtain ⟨p1, rfl, s1⟩ := itemsL_stay q1 rv e2
      obtain ⟨vs1, t1, w1⟩ := s1 T1 H1 h1 Le.refl q1 (chkOk_self e2)
      refine ⟨p1, vs1, rfl, .inl ⟨t1, a1.done q1 ?_⟩⟩
      have hl : vs1.length = xs.reverse.length := by rw [rels_length w1, List.length_reverse]
      refine ⟨_, _, by rw [hl]; exact wk_rev, fun T3 H3 h3 l3 r3 hc => ?_, fun i H3 x H' hi y T3 h3 l3 r3 hc => ?_⟩
      · obtain ⟨ws1, t1, r1⟩ := s1 T3 H3 h3 l3 r3 hc
        exact ⟨ws1, by rw [rels_length r1, List.length_reverse], t1⟩
      · obtain ⟨ws1, t1, w1⟩ := s1 T3 H3 h3 l3 r3 hc
        obtain ⟨rfl, y1⟩ := y
        obtain ⟨d1, g1, k1⟩ := rels_back w1 (y1 _ t1)
        rw [List.length_reverse] at hi
        exact ⟨d1, by show xs.reverse[i]? = _; rw [rev_get hi]; simpa using g1, Le.refl, r3, k1⟩
end
end Pu

namespace Pu
open PySem PySem.Spec PyProof.Rows L2

/-! ### for, while -/
def forGo (c : List (Nat × List D)) (g : Tg) (body : Sx) : List D → En → HH → S
  | [], env, h => if chkOk h c = true then .next env h else .stuck
  | d :: ds, env, h => if chkOk h c = true then ofOS (g d env) fun env1 => match body env1 h with
    | .next env' h' => forGo c g body ds env' h'
    | .cont env' h' => forGo c g body ds env' h'
    | .brk env' h' => .next env' h'
    | r => r else .stuck
def sFor (it : Ei) (g : Tg) (body : Sx) : Sx := fun env h => (it env h).bindS env fun i h1 => forGo i.chk g body i.ds env h1
def whGo (c : Et) (body : Sx) : Nat → En → HH → S
  | 0, _, _ => .stuck
  | n + 1, env, h => (c env h).bindS env fun b h1 => if b = true then match body env h1 with
    | .next env' h' => whGo c body n env' h'
    | .cont env' h' => whGo c body n env' h'
    | .brk env' h' => .next env' h'
    | r => r else .next env h1
def sWh (n : Nat) (c : Et) (body : Sx) : Sx := whGo c body n
section
variable {X : Cx} {W : WX} {k : Nat}
theorem ss_for (C : Cok X W k) {tg iter : Expr} {body : List Stmt} {fi : Ei} {g : Tg} {fb : Sx} {vs : List Nat} {pos : Pos} (hi : SI X W tg iter fi) (hg : SG X tg vs g) (hb : SB X W body fb)
    (hs : ∀ x, foldedSetIterable iter X.env x = pure x := by intro _; rfl) : SS X W (.For tg iter body [] pos) (sFor fi g fb) := PS.mono (ps_for C.po C.calm hi hg hb hs) fun E σ H hh => by
  obtain ⟨T, env, h, r1, r2, a⟩ := hh
  refine ⟨T, env, h, r1, r2, a.bindS r1.mut r2 fun it h1 T1 H1 J _ l1 q1 ⟨G, Y, w, hG, hY⟩ a1 => ?_⟩
  refine for_it w (fun i σ H => ∃ T env h, RelH X.K T H h ∧ relE X.K T H env σ ∧ Le T1 H1 T H ∧ AfterS X.K X.mg W T H E (forGo it.chk g fb (it.ds.drop i) env h)) ?_ ?_ ?_ ?_
  · exact ⟨T1, env, h1, q1, relE_mono l1 r1.mut r2, Le.refl, by rw [List.drop_zero]; exact a1⟩
  · rintro i σ H hi ⟨T, env, h, r, e, l, a⟩
    refine hG T H h l r ?_
    cases ds : it.ds.drop i with
    | nil =>
      rw [ds] at a; unfold forGo at a
      by_cases hc : chkOk h it.chk = true
      · exact hc
      · rw [if_neg hc] at a; exact a.elim
    | cons d r =>
      rw [ds] at a; unfold forGo at a
      by_cases hc : chkOk h it.chk = true
      · exact hc
      · rw [if_neg hc] at a; exact a.elim
  · rintro i x σ H H' hi ⟨T, env, h, r, e, l, a⟩ y
    have ed : it.ds.drop i = it.ds[i] :: it.ds.drop (i + 1) := by rw [List.drop_eq_getElem_cons hi]
    rw [ed] at a
    unfold forGo at a
    by_cases hc : chkOk h it.chk = true
    · rw [if_pos hc] at a
      obtain ⟨env1, e1, a⟩ := a.ofOS
      obtain ⟨d, e2, l2, r2, rd⟩ := hY i H x H' hi y T h l r hc
      rw [List.getElem?_eq_getElem hi] at e2
      cases e2
      refine ⟨T, env, h, _, env1, r2, relE_mono l2 r.mut e, rd, e1, fun σ' r3 _ => ⟨T, env1, h, r2, r3, ?_⟩⟩
      have a := AfterS.later a l2 r.mut
      have l3 := l.trans q1.mut l2
      revert a
      cases fb env1 h with
      | next env' h' => exact fun a T' H2 σ2 l4 r4 e4 => ⟨T', env', h', r4, e4, l3.trans q1.mut l4, AfterS.later (r := forGo it.chk g fb (it.ds.drop (i + 1)) env' h') a l4 r2.mut⟩
      | cont env' h' => exact fun a T' H2 σ2 l4 r4 e4 => ⟨T', env', h', r4, e4, l3.trans q1.mut l4, AfterS.later (r := forGo it.chk g fb (it.ds.drop (i + 1)) env' h') a l4 r2.mut⟩
      | brk env' h' => exact fun a => a
      | ret d h' => exact fun a => a
      | exc c env' h' => exact fun a => a
      | stuck => exact fun a => a
    · rw [if_neg hc] at a; exact a.elim
  · rintro σ H ⟨T, env, h, r, e, l, a⟩
    rw [List.drop_length] at a
    unfold forGo at a
    by_cases hc : chkOk h it.chk = true
    · rw [if_pos hc] at a; exact a.next r e
    · rw [if_neg hc] at a; exact a.elim
theorem ss_while (C : Cok X W k) (n : Nat) {c : Expr} {body : List Stmt} {fc : Et} {fb : Sx} {pos : Pos} (hc : ST X W c fc) (hb : SB X W body fb) : SS X W (.While c body [] pos) (sWh n fc fb) := PS.mono (ps_while C.po hc hb) fun E σ H hh => by
  obtain ⟨T, env, h, r1, r2, a⟩ := hh
  refine ⟨fun m σ H => ∃ T env h, RelH X.K T H h ∧ relE X.K T H env σ ∧ AfterS X.K X.mg W T H E (whGo fc fb m env h), ⟨n, T, env, h, r1, r2, a⟩, ?_⟩
  rintro m σ H ⟨T, env, h, r1, r2, a⟩
  cases m with
  | zero => exact False.elim a
  | succ m =>
    unfold whGo at a
    refine ⟨T, env, h, r1, r2, a.bindS r1.mut r2 fun b h1 T1 H1 v _ l1 q1 rv a1 => ?_⟩
    subst rv
    by_cases hb : b = true
    · rw [if_pos hb] at a1 ⊢
      refine ⟨fun σ' H' => ∃ T env h, RelH X.K T H' h ∧ relE X.K T H' env σ' ∧ AfterS X.K X.mg W T H' E (whGo fc fb m env h), fun σ' H' q => ⟨m, Nat.lt_succ_self _, q⟩, T1, env, h1, q1, relE_mono l1 r1.mut r2, ?_⟩
      revert a1
      cases fb env h1 with
      | next env' h' => exact fun a T' H2 σ2 l4 r4 e4 => ⟨T', env', h', r4, e4, AfterS.later (r := whGo fc fb m env' h') a l4 q1.mut⟩
      | cont env' h' => exact fun a T' H2 σ2 l4 r4 e4 => ⟨T', env', h', r4, e4, AfterS.later (r := whGo fc fb m env' h') a l4 q1.mut⟩
      | brk env' h' => exact fun a => a
      | ret d h' => exact fun a => a
      | exc c env' h' => exact fun a => a
      | stuck => exact fun a => a
    · rw [if_neg hb] at a1 ⊢
      exact a1.next q1 (relE_mono l1 r1.mut r2)
end

/-! ### comprehensions -/
def wipeE (env : En) : List Nat → En
  | [] => env
  | v :: vs => (wipeE env vs).set v none
def bindX {α β : Type} (x : R α) (k : α → HH → R β) : R β := match x with
  | .ok a h => k a h
  | _ => .stuck
def lcGo (c : List (Nat × List D)) (g : Tg) (t : Et) (f : Ex) (env : En) : List D → List D → HH → R (List D)
  | [], acc, h => if chkOk h c = true then .ok acc h else .stuck
  | d :: ds, acc, h => if chkOk h c = true then ofO (g d env) fun env1 => bindX (t env1 h) fun b h1 =>
      if b = true then bindX (f env1 h1) fun y h2 => if acc.length < sz then lcGo c g t f env ds (acc ++ [y]) h2 else .stuck else lcGo c g t f env ds acc h1 else .stuck
def fLc (it : Ei) (g : Tg) (t : Et) (f : Ex) (vs : List Nat) : Exs := fun env h => (it env h).bind fun i h1 => lcGo i.chk g t f (wipeE env vs) i.ds [] h1
def tYesD : Et := fun _ h => .ok true h
abbrev W0 : WX := fun _ _ _ _ => False
theorem Cok.blk {X : Cx} {W : WX} {k : Nat} (C : Cok X W k) (s : Shared) (H : Hp) (scope : Scope) (cenv : Env) (fp : List Addr) : Cok (X.blk s H scope cenv fp) W0 k :=
  ⟨C.calm, takes0, PassesOwn.never, C.hr, C.gd⟩
structure SPt (X : Cx) (W : WX) (ifs : List Expr) (t : Et) : Prop where
  pt : PTs X ifs (rdt X W t)
theorem PTs.mono {X : Cx} {e : List Expr} {t t' : TT} (h : PTs X e t) (i : ∀ σ H Q, t' σ H Q → t σ H Q) : PTs X e t' := ⟨fun pins s σ H Q I hq => h.run pins s σ H Q I (i σ H Q hq)⟩
theorem spt_nil {X : Cx} {W : WX} : SPt X W [] tYesD := ⟨PTs.mono pts_nil fun σ H Q hh => by
  obtain ⟨T, env, h, r1, r2, a⟩ := hh
  exact a.done r1 rfl⟩
theorem spt_one {X : Cx} {W : WX} {c : Expr} {t : Et} (h : ST X W c t) : SPt X W [c] t := ⟨pts_one h⟩
section
variable {K : PySem.W.Frag} {T : Tk} {H : Hp}
theorem relE_wipe {env : En} {σ : L2.St} (e : relE K T H env σ) : ∀ vs : List Nat, relE K T H (wipeE env vs) (wipe σ vs)
  | [] => e
  | v :: vs => by
    have ih := relE_wipe e vs
    unfold wipeE wipe
    refine ⟨by rw [List.length_set, List.length_set]; exact ih.1, fun j d h => ?_⟩
    by_cases hj : v = j
    · subst hj
      by_cases hl : v < (wipeE env vs).length
      · rw [List.getElem?_set_self hl] at h; cases h
      · rw [List.getElem?_eq_none (by rw [List.length_set]; omega)] at h; cases h
    · rw [List.getElem?_set_ne hj] at h ⊢
      exact ih.2 j d h
theorem wipe_but {σ σ' : L2.St} : ∀ {vs : List Nat}, σ'.length = σ.length → (∀ j, j ∉ vs → σ'[j]? = σ[j]?) → wipe σ' vs = wipe σ vs := by
  intro vs hl h
  have key : ∀ (τ : L2.St) (vs : List Nat) (j : Nat), (wipe τ vs)[j]? = if j ∈ vs ∧ j < τ.length then some none else τ[j]? := by
    intro τ vs
    induction vs with
    | nil => intro j; simp [wipe]
    | cons v vs ih =>
      intro j
      unfold wipe
      by_cases hj : v = j
      · subst hj
        by_cases hl : v < τ.length
        · rw [List.getElem?_set_self (by rw [wipe_length]; exact hl)]; simp [hl]
        · rw [List.getElem?_eq_none (by rw [List.length_set, wipe_length]; omega)]; simp [hl]
      · rw [List.getElem?_set_ne hj, ih j]
        by_cases hm : j ∈ vs ∧ j < τ.length
        · rw [if_pos hm, if_pos ⟨List.mem_cons_of_mem _ hm.1, hm.2⟩]
        · rw [if_neg hm, if_neg]
          intro z
          rcases List.mem_cons.mp z.1 with z1 | z1
          · exact hj z1.symm
          · exact hm ⟨z1, z.2⟩
  apply List.ext_getElem?
  intro j
  rw [key, key, hl]
  by_cases hm : j ∈ vs ∧ j < σ.length
  · rw [if_pos hm, if_pos hm]
  · rw [if_neg hm, if_neg hm]
    by_cases hj : j ∈ vs
    · have : ¬ j < σ.length := fun z => hm ⟨hj, z⟩
      rw [List.getElem?_eq_none (by omega), List.getElem?_eq_none (by omega)]
    · exact h j hj
theorem wipe_idem {σ : L2.St} {vs : List Nat} : wipe (wipe σ vs) vs = wipe σ vs := by
  refine wipe_but (wipe_length _ _) fun j hj => ?_
  induction vs with
  | nil => rfl
  | cons v vs ih =>
    unfold wipe
    rw [List.getElem?_set_ne fun z => hj (by simp [z])]
    exact ih fun z => hj (List.mem_cons_of_mem _ z)
theorem Le.bw {T' : Tk} {H' : Hp} {a : Addr} {o : HO} (l : Le T H T' H') (n : H a = none) : Le T H T' (upd H' a o) :=
  ⟨l.pre, l.more, l.fresh, l.freshL, fun b u e hb ht => by rw [upd_ne (ne_of_none e n)]; exact l.keep b u e hb ht, fun b ps e hb => by rw [upd_ne (ne_of_none e n)]; exact l.kt b ps e hb, l.tq, fun b q xs e => by rw [upd_ne (ne_of_none e n)]; exact l.lk b q xs e⟩
theorem Le.notL {T' : Tk} {H' : Hp} {a : Addr} {o : HO} (l : Le T H T' H') (e : H a = some o) (n : a ∉ T.L) : a ∉ T'.L := fun q => by
  rcases l.freshL a q with z | z
  · exact n z
  · rw [e] at z; cases z
variable {X : Cx} {W : WX} {k : Nat}
/-- the reading of a comprehension -/
theorem rd_lc {fi : Ei} {g : Tg} {t : Et} {f : Ex} {vs tv : List Nat} {Y : Cx} (hK : Y.K = X.K) (hm : Y.mg = X.mg) {σ : L2.St} {H : Hp} {Q : VK} (hv : ∀ i ∈ tv, i ∈ vs)
    (hh : rdF X W (fLc fi g t f vs) σ H Q) : tLc (rdI X W fi) (rdTg X.K (rel X.K) tv g) (rdt Y W0 t) (rd Y W0 f) vs σ H Q := by
  obtain ⟨T, env, h, r1, r2, a⟩ := hh
  refine ⟨T, env, h, r1, r2, After.bind0 a fun it h1 T1 H1 J _ l1 q1 ⟨G, Y, w, hG, hY⟩ a1 => fun D hD => ?_⟩
  refine lc_it w (fun i H2 => ∃ T2 acc ws h2, RelH X.K T2 H2 h2 ∧ Le T1 H1 T2 H2 ∧ T2.B D ∧ D ∉ T2.L ∧ H2 D = some (.lst ws) ∧ rels X.K T2 H2 acc ws ∧ relE X.K T2 H2 (wipeE env vs) (wipe σ vs) ∧
    After X.K X.mg W T H σ (qF X.K H) Q (lcGo it.chk g t f (wipeE env vs) (it.ds.drop i) acc h2)) ?_ ?_ ?_ ?_
  · exact ⟨T1.blk D, [], [], h1, q1.blk hD, Le.blk hD, .inr rfl, fun z => q1.mut.free hD (q1.sub D z), upd_same, rels_nil, relE_wipe (relE_mono (l1.trans r1.mut (Le.blk hD)) r1.mut r2) vs, by rw [List.drop_zero]; exact a1⟩
  · rintro i H2 hi ⟨T2, acc, ws, h2, q2, l2, hb, hl, e0, rv, re, a⟩
    refine hG T2 H2 h2 l2 q2 ?_
    cases ds : it.ds.drop i with
    | nil =>
      rw [ds] at a; unfold lcGo at a
      by_cases hc : chkOk h2 it.chk = true
      · exact hc
      · rw [if_neg hc] at a; exact a.elim
    | cons d r =>
      rw [ds] at a; unfold lcGo at a
      by_cases hc : chkOk h2 it.chk = true
      · exact hc
      · rw [if_neg hc] at a; exact a.elim
  · rintro i x H2 H' hi ⟨T2, acc, ws, h2, q2, l2, hb, hl, e0, rv, re, a⟩ y
    have ed : it.ds.drop i = it.ds[i] :: it.ds.drop (i + 1) := by rw [List.drop_eq_getElem_cons hi]
    rw [ed] at a
    unfold lcGo at a
    by_cases hc : chkOk h2 it.chk = true
    · rw [if_pos hc] at a
      obtain ⟨env1, e1, a⟩ := a.ofO
      obtain ⟨d, e2, l3, q3, rd'⟩ := hY i H2 x H' hi y T2 h2 l2 q2 hc
      rw [List.getElem?_eq_getElem hi] at e2
      cases e2
      have e3 : H' D = some (.lst ws) := l3.keep _ _ e0 hl fun _ z => nomatch z
      have l4 : Le T1 H1 T2 H' := l2.trans q1.mut l3
      refine ⟨T2, wipeE env vs, h2, _, env1, q3, relE_mono l3 q2.mut re, rd', e1, fun σ2 r3 bt => ⟨?_, ?_⟩⟩
      · rw [wipe_but (σ := wipe σ vs) bt.1 fun j hj => bt.2 j fun z => hj (hv j z), wipe_idem]
      · cases et : t env1 h2 with
        | ok b h3 =>
          rw [et] at a
          have a : After X.K X.mg W T H σ (qF X.K H) Q (if b = true then bindX (f env1 h3) fun y h2 => if acc.length < sz then lcGo it.chk g t f (wipeE env vs) (it.ds.drop (i + 1)) (acc ++ [y]) h2 else .stuck else lcGo it.chk g t f (wipeE env vs) (it.ds.drop (i + 1)) acc h3) := a
          refine ⟨T2, env1, h2, by rw [hK]; exact q3, by rw [hK]; exact r3, ?_⟩
          rw [et]
          intro T3 H3 b' l5 q5 hbb
          rw [hK] at q5
          have hbb : b = b' := hbb
          subst hbb
          have e5 : H3 D = some (.lst ws) := l5.keep _ _ e3 hl fun _ z => nomatch z
          have nl5 := l5.notL e3 hl
          have l6 : Le T1 H1 T3 H3 := l4.trans q1.mut l5
          by_cases hbt : b = true
          · rw [if_pos hbt] at a ⊢
            cases ef : f env1 h3 with
            | ok y4 h4 =>
              rw [ef] at a
              refine ⟨T3, env1, h3, by rw [hK]; exact q5, by rw [hK]; exact relE_mono l5 q3.mut r3, ?_⟩
              rw [ef]
              intro T4 H4 v l7 q7 rv7
              rw [hK] at q7 rv7
              have e7 : H4 D = some (.lst ws) := l7.keep _ _ e5 nl5 fun _ z => nomatch z
              have nl7 := l7.notL e5 nl5
              have hb7 : T4.B D := l7.more _ (l5.more _ hb)
              have l27 : Le T2 H' T4 H4 := l5.trans q3.mut l7
              have a : After X.K X.mg W T H σ (qF X.K H) Q (if acc.length < sz then lcGo it.chk g t f (wipeE env vs) (it.ds.drop (i + 1)) (acc ++ [y4]) h4 else .stuck) := a
              by_cases hz : acc.length < sz
              · rw [if_pos hz] at a
                refine ⟨ws, e7, by rw [rels_length rv, sizeLine_eq]; exact hz, T4, acc ++ [y4], ws ++ [v], h4, q7.bw hb7 nl7 LD.lst, (l6.trans q1.mut l7).bw hD, hb7, nl7, upd_same, ?_, ?_, a⟩
                · exact rels_append (rels_bw q7.mut hb7 _ _ (rels_mono l27 q3.mut _ _ (rels_mono l3 q2.mut _ _ rv))) (rels_cons (rel_bw q7.mut hb7 _ _ rv7) rels_nil)
                · exact relE_bw q7.mut hb7 (relE_mono l27 q3.mut (relE_mono l3 q2.mut re))
              · rw [if_neg hz] at a; exact a.elim
            | exc c h4 => rw [ef] at a; exact a.elim
            | stuck => rw [ef] at a; exact a.elim
          · rw [if_neg hbt] at a ⊢
            exact ⟨T3, acc, ws, h3, q5, l6, l5.more _ hb, nl5, e5, rels_mono l5 q3.mut _ _ (rels_mono l3 q2.mut _ _ rv), relE_mono l5 q3.mut (relE_mono l3 q2.mut re), a⟩
        | exc c h3 => rw [et] at a; exact a.elim
        | stuck => rw [et] at a; exact a.elim
    · rw [if_neg hc] at a; exact a.elim
  · rintro H2 ⟨T2, acc, ws, h2, q2, l2, hb, hl, e0, rv, re, a⟩
    rw [List.drop_length] at a
    unfold lcGo at a
    by_cases hc : chkOk h2 it.chk = true
    · rw [if_pos hc] at a
      exact a T2 H2 _ (l1.trans r1.mut l2) q2 ⟨D, ws, rfl, e0, hl, hb, l1.was q1.mut hD, rv⟩
    · rw [if_neg hc] at a; exact a.elim
/-- a comprehension is a fresh list -/
theorem sf_lc (C : Cok X W k) {elt tg iter : Expr} {ifs : List Expr} {scope : Scope} {own : List (Str × Nat)} {pos : Pos} {fi : Ei} {g : Tg} {t : Et} {f : Ex} {tv : List Nat} (hN : X.N.Nodup) (hi : SI X W tg iter fi) (ok : BlkOk X.N X.env.scope scope own)
    (hg : ∀ (s : Shared) (H : Hp) (A : Addr) (cl : List (Str × Addr)) (fp : List Addr), SG (X.blk s H scope (compEnvC scope cl A X.env) fp) tg tv g)
    (ht : ∀ (s : Shared) (H : Hp) (A : Addr) (cl : List (Str × Addr)) (fp : List Addr), SPt (X.blk s H scope (compEnvC scope cl A X.env) fp) W0 ifs t)
    (he : ∀ (s : Shared) (H : Hp) (A : Addr) (cl : List (Str × Addr)) (fp : List Addr), SE (X.blk s H scope (compEnvC scope cl A X.env) fp) W0 elt f)
    (hv : ∀ i ∈ tv, i ∈ own.map (·.2) := by decide) (hs : ∀ x, foldedSetIterable iter X.env x = pure x := by intro _; rfl) :
    SF X W (.ListComp elt [⟨tg, iter, ifs, 0⟩] scope pos) (fLc fi g t f (own.map (·.2))) :=
  PE.mono (pe_lc C.calm hN hi ok hg (fun s H A cl fp => (ht s H A cl fp).pt) he hs) fun σ H Q hh => rd_lc (Y := X) rfl rfl hv hh
/-- it is named -/
theorem ss_setLc (C : Cok X W k) {i : Nat} {y : Str} {py : Pos} {elt tg iter : Expr} {ifs : List Expr} {scope : Scope} {own : List (Str × Nat)} {pos spos : Pos} {fi : Ei} {g : Tg} {t : Et} {f : Ex} {tv : List Nat} {fin : Exs → Ex}
    (hf : ∀ (f : Exs) (σ : L2.St) (H : Hp) (Q : VK), rd X W (fin f) σ H Q → rdF X W f σ H Q) (hN : X.N.Nodup) (hy : X.N[i]? = some y) (hyl : X.env.scope.names.lookup y = some .local)
    (hsw : swapsWith (.ListComp elt [⟨tg, iter, ifs, 0⟩] scope pos) (some (.Name y py)) spos.line X.env = pure true) (hi : SI X W tg iter fi) (ok : BlkOk X.N X.env.scope scope own)
    (hg : ∀ (s : Shared) (H : Hp) (A : Addr) (cl : List (Str × Addr)) (fp : List Addr), SG (X.blk s H scope (compEnvC scope cl A X.env) fp) tg tv g)
    (ht : ∀ (s : Shared) (H : Hp) (A : Addr) (cl : List (Str × Addr)) (fp : List Addr), SPt (X.blk s H scope (compEnvC scope cl A X.env) fp) W0 ifs t)
    (he : ∀ (s : Shared) (H : Hp) (A : Addr) (cl : List (Str × Addr)) (fp : List Addr), SE (X.blk s H scope (compEnvC scope cl A X.env) fp) W0 elt f)
    (hv : ∀ i ∈ tv, i ∈ own.map (·.2) := by decide) (hs : ∀ x, foldedSetIterable iter X.env x = pure x := by intro _; rfl) :
    SS X W (.Assign [.Name y py] (.ListComp elt [⟨tg, iter, ifs, 0⟩] scope pos) spos) (sSet i (fin (fLc fi g t f (own.map (·.2))))) :=
  PS.mono (ps_setLc C.calm hN hy hyl hsw hi ok hg (fun s H A cl fp => (ht s H A cl fp).pt) he hs) fun E σ H hh => by
    obtain ⟨T, env, h, r1, r2, a⟩ := hh
    refine rd_lc (Y := X) rfl rfl hv (hf _ _ _ _ ⟨T, env, h, r1, r2, a.bindS r1.mut r2 fun d h1 T1 H1 v _ l1 q1 rv a1 => ?_⟩)
    exact a1.next q1 (relE_set (relE_mono l1 r1.mut r2) rv i)
end
end Pu

namespace Pu
open PySem PySem.Spec PyProof.Rows L2

/-! ### defs -/
abbrev Fn := List D → HH → R D
def runF (n : Nat) (b : Sx) : Fn := fun ds h => match b (ds.map some ++ List.replicate (n - ds.length) none) h with
  | .ret d h' => .ok d h'
  | .next _ h' => .ok .non h'
  | .exc c _ h' => .exc c h'
  | _ => .stuck
def AfterF (K : PySem.W.Frag) (mg : Str → Option Value) (T : Tk) (H : Hp) (Q : VK) (E : XK) : R D → Prop
  | .ok d h' => ∀ T' H' v, Le T H T' H' → RelH K T' H' h' → rel K T' H' d v → Q v H'
  | .exc c h' => ∀ C T' H', mg (Str.ofString c) = some C → Le T H T' H' → RelH K T' H' h' → E C none H'
  | .stuck => False
structure FnG (P : Program) (w : World) (K : PySem.W.Frag) (mg : Str → Option Value) (base : Heap) (k : Nat) (f : Addr) (fd : FuncData) (ps : List Str) (F : Fn) : Prop where
  run : ∀ (A : Around) (outer : List Env) (s : Shared) (H : Hp) (args : Args) (us : List Value) (vs : List V) (T : Tk) (ds : List D) (h : HH) (Q : VK) (E : XK), Room k A → A.guards = some [] → Env0 P w K mg base A outer s H →
    BindsTo s fd args (ps.zip us) → Vals vs us → RelH K T H h → rels K T H ds vs → ds.length = ps.length → AfterF K mg T H Q E (F ds h) →
    codeAny (model P w) A (.call (.ref f) args) (CR (L2.CX P w) outer P w H s Q E) s
section
variable {P : Program} {w : World} {K : PySem.W.Frag} {mg : Str → Option Value} {base : Heap} {j k : Nat} {f : Addr} {fd : FuncData} {ps : List Str} {F F' : Fn}
theorem FnG.mono (g : FnG P w K mg base j f fd ps F) (h : j ≤ k) : FnG P w K mg base k f fd ps F :=
  ⟨fun A o s H args us vs T ds hh Q E hr => g.run A o s H args us vs T ds hh Q E (hr.mono h)⟩
/-- told otherwise, where it is told -/
theorem FnG.as (g : FnG P w K mg base k f fd ps F) (h : ∀ ds hh, ds.length = ps.length → F' ds hh = .stuck ∨ F' ds hh = F ds hh) : FnG P w K mg base k f fd ps F' :=
  ⟨fun A o s H args us vs T ds hh Q E hr hg e0 hb r rh rs hl a => g.run A o s H args us vs T ds hh Q E hr hg e0 hb r rh rs hl (by
    rcases h ds hh hl with z | z
    · rw [z] at a; exact a.elim
    · rw [← z]; exact a)⟩
theorem relE_start {T : Tk} {H : Hp} {N : List Str} {ds : List D} {vs : List V} (r : rels K T H ds vs) : relE K T H (ds.map some ++ List.replicate (N.length - ds.length) none) (L2.start N vs) := by
  unfold L2.start
  have hl := rels_length r
  refine ⟨by simp [hl], fun i d e => ?_⟩
  by_cases hi : i < ds.length
  · rw [List.getElem?_append_left (by simpa using hi), List.getElem?_map] at e
    cases e1 : ds[i]? with
    | none => rw [e1] at e; cases e
    | some d' =>
      rw [e1] at e; cases e
      obtain ⟨v, e2, q⟩ := rels_get r e1
      refine ⟨v, ?_, q⟩
      rw [List.getElem?_append_left (by simpa [hl] using hi), List.getElem?_map, e2]; rfl
  · rw [List.getElem?_append_right (by simpa using hi), List.getElem?_replicate] at e
    split at e <;> cases e
/-- a def, by its body -/
theorem fnG_of {name qual : Str} {st : Stmt} {N : List Str} {b : Sx} (Fu : Fun K name qual st f fd) (sc : FnScope N ps (defScope st))
    (hbody : ∀ (cdv : Value) (A : Around) (outer : List Env) (s : Shared) (H : Hp) (E : XK), Cok (cxOf (L2.CX P w) P w K mg base N qual (defScope st) f cdv A outer s H E) (fun cls d _ G => E cls d G) k →
      SB (cxOf (L2.CX P w) P w K mg base N qual (defScope st) f cdv A outer s H E) (fun cls d _ G => E cls d G) (defBody st) b) : FnG P w K mg base (k + 1) f fd ps (runF N.length b) := by
  obtain ⟨oc, od, kV, doc, pm, an, cdv, ct, osl, rfl, lk, hcd⟩ := Fu.ex
  refine ⟨fun A outer s H args us vs T ds h Q E hr hgd e0 hb r rh rs hl a => ?_⟩
  have hvl : vs.length = ps.length := (rels_length rs).trans hl
  have KX : K.In s.heap := e0.mod.kin.keeps fun b o e => (e0.bs b o e).1
  have lim : s.heap.NoLimit := e0.mod.nolimit.keeps fun b o e => (e0.bs b o e).1
  have hkind : ∀ y ∈ ps.zip us, (defScope st).names.lookup y.1 = some .local ∨ ((defScope st).names.lookup y.1 = some .cell ∧ ((cellsFrom (s.heap.objs.size + 1) (defScope st).names []).lookup y.1).isSome = true) := fun y hy => by
    rcases sc.par y.1 (List.of_mem_zip hy).1 with q | q
    · exact .inl q
    · exact .inr ⟨q, PySem.W.cellsFrom_some _ _ _ (.inl q)⟩
  refine codeAny_call_function hr.depth (KX _ _ lk) rfl sc.co sc.gen rfl (PySem.W.codeRec_of KX hcd) (hb _ _ _ _ ?_)
  refine wpAny_newFunctionEnv_cells sc.kind hkind fun env he s1 x => ?_
  subst he
  refine ⟨lim.keeps x.toInCall.keep, codeAny_func ?_⟩
  have ok : Cok (cxOf (L2.CX P w) P w K mg base N qual (defScope st) f cdv A outer s H E) (fun cls d _ G => E cls d G) k := ⟨rfl, takes_of rfl rfl rfl rfl, passes_of rfl, hr.deeper _, hgd⟩
  have ht := hbody cdv A outer s H E ok
  have I : Inv (cxOf (L2.CX P w) P w K mg base N qual (defScope st) f cdv A outer s H E) [] (L2.start N vs) H s1 := inv_start sc hr.hd e0 hvl r x
  have hq : rdSt (cxOf (L2.CX P w) P w K mg base N qual (defScope st) f cdv A outer s H E) (fun cls d _ G => E cls d G) b { nx := fun _ H' => Q .non H', rt := Q } (L2.start N vs) H := by
    refine ⟨T, _, h, rh, relE_start rs, ?_⟩
    revert a
    unfold runF
    cases b (ds.map some ++ List.replicate (N.length - ds.length) none) h with
    | next env' h' => exact fun a T' H' σ l q _ => a T' H' .non l q (rel_non_iff.mpr rfl)
    | ret d h' => exact fun a T' H' v l q rv => a T' H' v l q rv
    | brk env' h' => exact fun a => a.elim
    | cont env' h' => exact fun a => a.elim
    | exc c env' h' => exact fun a C T' H' σ hm l q _ => a C T' H' hm l q
    | stuck => exact fun a => a.elim
  refine wpAny_mono (ht.run [] s1 (L2.start N vs) H _ I hq) (fun fl s' hs => ?_) fun e s' hs => hs
  cases fl with
  | ret u =>
    obtain ⟨v, σ', H', J, rv, q⟩ := hs
    exact ⟨v, H', J.os, J.bare, J.base, J.hok, rv, q⟩
  | next =>
    obtain ⟨σ', H', J, q⟩ := hs
    exact ⟨V.non, H', J.os, J.bare, J.base, J.hok, rfl, q⟩
  | brk =>
    obtain ⟨_, _, _, q⟩ := hs
    exact False.elim q
  | cont =>
    obtain ⟨_, _, _, q⟩ := hs
    exact False.elim q
end

/-! ### calls -/
def eFn (F : Fn) (g : Exs) : Ex := fun env h => (g env h).bind F
section
variable {X : Cx} {W : WX} {k j : Nat} {f : Addr} {fd : FuncData} {ps : List Str} {F : Fn}
theorem call_fnG (C : Cok X W k) (G : FnG X.prog X.w X.K X.mg X.base j f fd ps F) (hk : j ≤ k) (hb : Binds X.K fd ps []) {pins : List (Addr × Obj)} {σ : L2.St} {H : Hp} {s : Shared} {Q : VK} {us : List Value} {vs : List V} {T : Tk} {ds : List D} {h : HH}
    (I : Inv X pins σ H s) (r : Vals vs us) (rh : RelH X.K T H h) (rs : rels X.K T H ds vs) (hl : ds.length = ps.length) (a : After X.K X.mg W T H σ (rel X.K) Q (F ds h)) :
    wpAny (model X.prog X.w) X.A (call (.ref f) us) (EP X pins σ Q) X.xe s := by
  have hu : us.length = ps.length := by rw [← r.length, rels_length rs]; exact hl
  have b := hb s us I.kIn (by rw [List.append_nil]; exact hu)
  rw [List.append_nil] at b
  refine wpAny_call (codeAny_mono (G.run X.A X.stack s H ⟨us, []⟩ us vs T ds h Q (fun cls d G => W cls d σ G) (C.hr.mono hk) C.gd I.env0 b r rh rs hl ?_) fun r s' hq => ?_)
  · revert a
    cases F ds h with
    | ok d h' => exact fun a => a
    | exc c h' => exact fun a => a
    | stuck => exact fun a => a
  · cases r with
    | error e => exact C.tk e s' (XE.of_call I (fun _ _ _ h => h) hq)
    | ok fl =>
      cases fl with
      | ret u => exact I.after hq
      | next => exact False.elim hq
      | brk => exact False.elim hq
      | cont => exact False.elim hq
theorem se_fn (C : Cok X W k) (G : FnG X.prog X.w X.K X.mg X.base j f fd ps F) (hk : j ≤ k) {x : Str} {e : Expr} {es : List Expr} {g : Exs} {p pos : Pos} (hg : Gl X x) (hm : X.mg x = some (.ref f)) (hkp : PySem.W.keepIn X.K (.ref f) = true) (hb : Binds X.K fd ps [])
    (ha : SA X W (e :: es) g) (hl : (e :: es).length = ps.length := by rfl) (hdb : (x == ("__debug__" : Str)) = false := by decide) (he : starEach (e :: es) X.env = (false, eval e X.env) :: starEach es X.env := by rfl) (hpl : (backTo pos (starEach es X.env)).any (·.1) = false := by rfl) :
    SE X W (.Call (.Name x p) (e :: es) [] pos) (eFn F g) := by
  refine ⟨fun pins s σ H Q I hh => wpAny_Call_Name_kw (ld_glob I hg hm ?_ hdb)⟩
  obtain ⟨T, env, h, r1, r2, a⟩ := hh
  have hq : rds X W g σ H fun vs H1 => ∃ T1 ds h1, RelH X.K T1 H1 h1 ∧ rels X.K T1 H1 ds vs ∧ ds.length = ps.length ∧ After X.K X.mg W T1 H1 σ (rel X.K) Q (F ds h1) :=
    ⟨T, env, h, r1, r2, a.bind r1.mut fun ds h1 T1 H1 vs e1 l1 q1 rv a1 => ⟨T1, ds, h1, q1, rv, (ha.len _ _ _ _ e1).trans hl, a1⟩⟩
  exact PySem.W.callWith_K (h₀ := X.base) I.ok.mod.kin hkp (thn (ha.pa.run pos pins s σ H _ I hq) fun us s1 ⟨vs, H1, I1, r, T1, ds, h1, q1, rv, hl1, a1⟩ => ⟨I1.kIn, call_fnG C G hk hb I1 r q1 rv hl1 a1⟩) he hpl
theorem se_fn0 (C : Cok X W k) (G : FnG X.prog X.w X.K X.mg X.base j f fd [] F) (hk : j ≤ k) {x : Str} {p pos : Pos} (hg : Gl X x) (hm : X.mg x = some (.ref f)) (hkp : PySem.W.keepIn X.K (.ref f) = true) (hb : Binds X.K fd [] [])
    (hdb : (x == ("__debug__" : Str)) = false := by decide) : SE X W (.Call (.Name x p) [] [] pos) (eFn F aNil) := by
  refine ⟨fun pins s σ H Q I hh => wpAny_Call_Name_kw (ld_glob I hg hm ?_ hdb)⟩
  obtain ⟨T, env, h, r1, r2, a⟩ := hh
  exact PySem.W.callWith_K0 I.kIn hkp (call_fnG C G hk hb I (.nil : Vals [] []) r1 rels_nil rfl a)
end
end Pu

namespace Pu
open PySem PySem.Spec PyProof.Rows L2

/-! ### the law's end -/
abbrev T0 : Tk := ⟨[], fun _ => False, []⟩
theorem relH0 {K : PySem.W.Frag} {H : Hp} : RelH K T0 H [] := ⟨rfl, List.nodup_nil, fun i o e => (by simp at e), fun a e => (by cases e), fun a e => False.elim e, fun p hp => nomatch hp⟩
theorem rels_ofInts {K : PySem.W.Frag} {T : Tk} {H : Hp} : ∀ ns : List Int, rels K T H (ns.map D.int) (ns.map V.int)
  | [] => rels_nil
  | n :: ns => rels_cons (rel_int_iff.mpr rfl) (rels_ofInts ns)
/-- the law is called: from what its def comes to -/
theorem law_go {P : Program} {w : World} {K : PySem.W.Frag} {mg mb : Str → Option Value} {k : Nat} {fa a : Addr} {fd : FuncData} {x : Str} {F : Fn} {s₁ : Shared} {us : List Value} {ns : List Int}
    (KX : K.In s₁.heap) (hns : s₁.heap.Ns mainGlobals mg) (hb : s₁.heap.Ns builtinsNs mb) (hbb : ∀ x : Str, x ≠ "__name__" → mb x = bootBuiltins x) (hlim : s₁.heap.NoLimit) (hg : s₁.gens = #[])
    (ha : s₁.heap.get? a = some { cls := .type "list", data := .seq us.toArray }) (hi : IntsAre us ns) (hz : ns.length ≤ sizeLine) (hr : Room k callerA)
    (G : ∀ base : Heap, K.In base → base.Ns mainGlobals mg → FnG P w K mg base k fa fd [x] F) (hbind : ∀ (s : Shared) (u : Value), BindsTo s fd ⟨[u], []⟩ [(x, u)])
    (hF : ∃ h', F [.frz (ns.map D.int)] [] = .ok (.bl true) h') :
    codeAny (model P w) callerA (.call (.ref fa) ⟨[.ref a], []⟩) (fun r s' => r = .ok (.ret (.bool true)) ∧ OldK s₁.heap s'.heap ∧ s'.os = s₁.os ∧ AllBare s'.gens) s₁ := by
  obtain ⟨hF1, hF⟩ := hF
  have vals := vals_ints hi
  have len := hi.length
  -- the dict objects are not the script
  have notDict : ∀ {b : Addr} {o : Obj} {es : Array DictEntry} {ep : Nat}, s₁.heap.get? b = some o → o.data = .dict es ep → b ≠ a := fun e d z => by
    rw [z, ha] at e; cases e; cases d
  have core : ∀ H : Hp, (∀ b, b ≠ a → H b = none) → (∀ u, H a = some u → ∃ o xs, u = .frz o (.lst xs)) → ((Rd H a (.lst (ns.map V.int))) ∨ ∀ G, SqL K G a (ns.map V.int)) → HOk P w H s₁.heap → (H a ≠ none → K.lookup a = none) →
      codeAny (model P w) callerA (.call (.ref fa) ⟨[.ref a], []⟩) (fun r s' => r = .ok (.ret (.bool true)) ∧ OldK s₁.heap s'.heap ∧ s'.os = s₁.os ∧ AllBare s'.gens) s₁ := by
    intro H h0 hfr hS ok hK
    have keepNs : ∀ {b : Addr} {m : Str → Option Value}, s₁.heap.Ns b m → (hidT s₁.heap H).Ns b m := fun ⟨o, es, ep, e, d, r⟩ => ⟨o, es, ep, hidT_get e (h0 _ (notDict e d)), d, r⟩
    have inB : K.In (hidT s₁.heap H) := fun b o e => by
      refine hidT_get (KX b o e) ?_
      by_cases hba : b = a
      · cases q : H b with
        | none => rfl
        | some u =>
          subst hba
          rw [hK (by rw [q]; simp)] at e; cases e
      · exact h0 b hba
    obtain ⟨mc, l1, l2⟩ := hlim
    have md : Mod K mg (hidT s₁.heap H) := ⟨inB, keepNs hns, ⟨mb, keepNs hb, hbb⟩, mc, keepNs l1, l2⟩
    have env0 : Env0 P w K mg (hidT s₁.heap H) callerA [] s₁ H := ⟨rfl, md, fun b o e => of_hidT e, Nat.le_of_eq (hidT_size _ _), trivial, fun b hb => (nomatch (show b ∈ ([] : List Addr) from hb)), ok, .of_eq hg⟩
    have rr : rels K T0 H [.frz (ns.map D.int)] [.ref a] := by
      refine rels_cons ?_ rels_nil
      unfold rel
      exact ⟨a, _, rfl, hS.imp (fun z => ⟨z, fun z => z⟩) id, rels_ofInts ns⟩
    refine codeAny_mono ((G _ inB (keepNs hns)).run callerA [] s₁ H ⟨[.ref a], []⟩ [.ref a] [.ref a] T0 _ [] (fun v _ => v = .bl true) (fun _ _ _ => False) hr rfl env0 (hbind s₁ (.ref a)) (.cons rfl .nil) relH0 rr rfl ?_) fun r s' h => ?_
    · rw [hF]
      exact fun T' H' v _ _ rv => rel_bl_iff.mp rv
    · cases r with
      | error e =>
        obtain ⟨_, _, _, _, _, _, _, _, _, _, _, _, z⟩ := h
        exact z.elim
      | ok fl =>
        cases fl with
        | ret u =>
          obtain ⟨v, H', os, bare, un, ok', rv, q⟩ := h
          have q : v = .bl true := q
          subst q
          cases rv
          refine ⟨rfl, OldK.of_keep fun b o e => ?_, os, bare⟩
          cases q : H b with
          | none => exact un.keep b o e q (fun z => nomatch (show b ∈ ([] : List Addr) from z)) (by simp)
          | some u =>
            have hba : b = a := Classical.byContradiction fun z => by rw [h0 b z] at q; cases q
            subst hba
            obtain ⟨ob, xs, rfl⟩ := hfr u q
            obtain ⟨g1, _⟩ := ok b _ q
            obtain ⟨g2, _⟩ := ok' b _ (un.frzs b ob _ q)
            rw [e] at g1; cases g1
            exact g2
        | next => exact False.elim h
        | brk => exact False.elim h
        | cont => exact False.elim h
  cases hk : K.lookup a with
  | some o =>
    have e := KX a o hk
    rw [ha] at e
    cases e
    refine core (fun _ => none) (fun _ _ => rfl) (fun u z => nomatch z) (.inr fun G => .inr ⟨_, us.toArray, _, hk, rfl, rfl, rfl, by rw [List.size_toArray, len]; exact hz, by simpa using vals⟩) (fun b u z => nomatch z) fun z => absurd rfl z
  | none =>
    refine core (fun b => if b = a then some (.frz { cls := .type "list", data := .seq us.toArray } (.lst (ns.map V.int))) else none) (fun b z => if_neg z) (fun u z => ?_) (.inl (.inr ⟨_, if_pos rfl⟩)) (fun b u z => ?_) fun _ => hk
    · have z := (if_pos rfl).symm.trans z
      cases z
      exact ⟨_, _, rfl⟩
    · by_cases hba : b = a
      · have z := (if_pos hba).symm.trans z
        cases z
        subst hba
        exact ⟨ha, by rw [List.length_map]; exact hz, us, _, vals, ha⟩
      · have z := (if_neg hba).symm.trans z
        cases z
theorem walk_G {l : PySem.W.OpenLaw} {n k : Nat} {q : Program} {loose : List Str} {XP : (Str → Option Value) → Heap → Prop} {YP : World → Heap → Prop} {d : DefRec} {K : Params → PySem.W.Frag} {x : Str} {F : Fn}
    (hn : l.most = some n) (hn2 : n ≤ sizeLine) (hdf : d.params.defaults = []) (hr : Room k callerA) (hY : ∀ (w : World) (h : Heap), YP w h → (K w.params).In h)
    (G : ∀ (w : World) (mg : Str → Option Value) (fa : Addr) (h : Heap), (K w.params).In h → h.Ns mainGlobals mg → mg d.name = some (.ref fa) →
      ∃ fd : FuncData, (∀ (s : Shared) (u : Value), BindsTo s fd ⟨[u], []⟩ [(x, u)]) ∧
        ∀ base : Heap, (K w.params).In base → base.Ns mainGlobals mg → FnG l.prog w (K w.params) mg base k fa fd [x] F)
    (hF : ∀ ns : List Int, ns.length ≤ n → ∃ h', F [.frz (ns.map D.int)] [] = .ok (.bl true) h') : PySem.W.WalkO q loose XP YP l.row.toRowW d [] (fun f vs => PySem.call f vs) := by
  refine Att.attach_call hn hdf fun w s₀ s₁ mg mb fa o pm cd doc a us ns Gr Y ho hd hcd hmg hobj hints hlen hg => ?_
  have KX := hY w _ Y
  obtain ⟨fd, hb, hG⟩ := G w mg fa _ KX Gr.T.g hmg
  exact law_go KX Gr.T.g Gr.T.b Gr.T.builtins Gr.T.nolimit hg hobj hints (Nat.le_trans hlen hn2) hr hG hb (hF ns hlen)
end Pu

namespace Pu
open PySem PySem.Spec PyProof.Rows L2

/-! ### a list that changes -/
/-- the list that d is, by its place -/
def refL (h : HH) (d : D) : Option (Nat × List D) := match d with
  | .ref i => match h[i]? with
    | some (.lst xs) => some (i, xs)
    | _ => none
  | _ => none
section
variable {K : PySem.W.Frag} {T : Tk} {H : Hp} {h : HH}
theorem rel_refL (r : RelH K T H h) {d : D} {v : V} {i : Nat} {xs : List D} (q : rel K T H d v) (e : refL h d = some (i, xs)) : ∃ a vs, v = .ref a ∧ T.L[i]? = some a ∧ H a = some (.lst vs) ∧ rels K T H xs vs := by
  unfold refL at e
  split at e
  · unfold rel at q
    obtain ⟨a, rfl, hp⟩ := q
    split at e
    · rename_i j ys e2
      cases e
      obtain ⟨b, e3, vs, e4, rr⟩ := r.at_ _ _ e2
      rw [hp] at e3; cases e3
      exact ⟨a, vs, rfl, hp, e4, rr⟩
    · cases e
  · cases e
/-- it is written -/
theorem wr_lst (r : RelH K T H h) {i : Nat} {a : Addr} {ys : List D} {ws us : List V} (hp : T.L[i]? = some a) (s : H a = some (.lst us)) (rr : rels K T H ys ws) : Le T H T (upd H a (.lst ws)) ∧ RelH K T (upd H a (.lst ws)) (h.set i (.lst ys)) := by
  have pl : a ∈ T.L := List.mem_of_getElem? hp
  have lw : Le T H T (upd H a (.lst ws)) := Le.wr pl (by intro _ _ z; rw [s] at z; cases z)
  exact ⟨lw, r.wr hp LD.lst ⟨ws, upd_same, rels_mono lw r.mut _ _ rr⟩⟩
end
/-! ### methods of built-ins by values -/
def rdM (X : Cx) (m : D → List D → HH → R D) : V → List V → Hp → VK → Prop := fun x xs H Q => ∃ T h d ds, RelH X.K T H h ∧ rel X.K T H d x ∧ rels X.K T H ds xs ∧ match m d ds h with
  | .ok d' h' => ∀ T' H' v, Le T H T' H' → RelH X.K T' H' h' → rel X.K T' H' d' v → Q v H'
  | _ => False
def eM (c : HH → D → Bool) (m : D → List D → HH → R D) (f : Ex) (g : Exs) : Ex := fun env h => (f env h).bind fun d h1 => if c h1 d = true then (g env h1).bind fun ds h2 => noX (m d ds h2) else .stuck
def cL (h : HH) (d : D) : Bool := (itemsL h d).isSome
def cS (_ : HH) (d : D) : Bool := match d with
  | .str _ => true
  | _ => false
def mApp (d : D) (ds : List D) (h : HH) : R D := match refL h d, ds with
  | some (i, xs), [e] => if xs.length < sz then .ok .non (h.set i (.lst (xs ++ [e]))) else .stuck
  | _, _ => .stuck
def mExt (d : D) (ds : List D) (h : HH) : R D := match refL h d, ds with
  | some (i, xs), [e] => ofO (lview h e) fun ys => if xs.length + ys.length ≤ sz then .ok .non (h.set i (.lst (xs ++ ys))) else .stuck
  | _, _ => .stuck
def mPop (d : D) (ds : List D) (h : HH) : R D := match refL h d, ds with
  | some (i, xs), [] => ofO xs[xs.length - 1]? fun z => .ok z (h.set i (.lst xs.dropLast))
  | _, _ => .stuck
def mClear (d : D) (ds : List D) (h : HH) : R D := match refL h d, ds with
  | some (i, _), [] => .ok .non (h.set i (.lst []))
  | _, _ => .stuck
def mRev (d : D) (ds : List D) (h : HH) : R D := match refL h d, ds with
  | some (i, xs), [] => .ok .non (h.set i (.lst xs.reverse))
  | _, _ => .stuck
/-- the first place of an equal one -/
def findAt (a : D) : List D → Nat → Option Nat
  | [], _ => none
  | y :: ys, n => if eqv y a = true then some n else findAt a ys (n + 1)
def mIndex (d : D) (ds : List D) (h : HH) : R D := match itemsL h d, ds with
  | some xs, [e] => if inOk h e xs = true then ofO (findAt (view h e) xs 0) fun n => .ok (.int n) h else .stuck
  | _, _ => .stuck
section
variable {X : Cx} {W : WX} {k : Nat}
theorem MtR.mono {id : String} {r r' : V → List V → Hp → VK → Prop} (h : MtR X id r) (i : ∀ x xs H Q, r' x xs H Q → r x xs H Q) : MtR X id r' :=
  fun pins s σ H x xs v us Q I rx rs q => h pins s σ H x xs v us Q I rx rs (i _ _ _ _ q)
theorem cL_ty {T : Tk} {H : Hp} {h : HH} (r : RelH X.K T H h) {d : D} {v : V} (q : rel X.K T H d v) (e : cL h d = true) : tyV X.K "list" v H := by
  unfold cL at e
  cases e1 : itemsL h d with
  | none => rw [e1] at e; cases e
  | some xs =>
    obtain ⟨a, vs, rfl, s, _⟩ := rel_itemsL r q e1
    exact .inl ⟨rfl, vs, s⟩
theorem cS_ty {T : Tk} {H : Hp} {h : HH} (r : RelH X.K T H h) {d : D} {v : V} (q : rel X.K T H d v) (e : cS h d = true) : tyV X.K "str" v H := by
  unfold cS at e
  split at e
  · rw [rel_str_iff] at q; subst q; rfl
  · cases e
theorem rd_M {Ty : String} {c : HH → D → Bool} (hc : ∀ T H h d v, RelH X.K T H h → rel X.K T H d v → c h d = true → tyV X.K Ty v H) {m : D → List D → HH → R D} {f : Ex} {g : Exs} {σ : L2.St} {H : Hp} {Q : VK} (hh : rd X W (eM c m f g) σ H Q) :
    tBM X.K Ty (rdM X m) (rd X W f) (rds X W g) σ H Q := by
  obtain ⟨T, env, h, r1, r2, a⟩ := hh
  refine ⟨T, env, h, r1, r2, a.bind r1.mut fun d h1 T1 H1 v _ l1 q1 rv a1 => ?_⟩
  by_cases hk : c h1 d = true
  · rw [if_pos hk] at a1
    refine ⟨hc _ _ _ _ _ q1 rv hk, T1, env, h1, q1, relE_mono l1 r1.mut r2, a1.bind q1.mut fun ds h2 T2 H2 us _ l2 q2 rus a2 => ⟨T2, h2, d, ds, q2, rel_mono l2 q1.mut d v rv, rus, ?_⟩⟩
    revert a2
    cases m d ds h2 with
    | ok d' h' => exact fun a2 T' H' v' l r q => a2 T' H' v' l r q
    | exc c h' => exact fun a2 => a2
    | stuck => exact fun a2 => a2
  · rw [if_neg hk] at a1; exact a1.elim
theorem rd_M0 {Ty : String} {c : HH → D → Bool} (hc : ∀ T H h d v, RelH X.K T H h → rel X.K T H d v → c h d = true → tyV X.K Ty v H) {m : D → List D → HH → R D} {f : Ex} {σ : L2.St} {H : Hp} {Q : VK} (hh : rd X W (eM c m f aNil) σ H Q) :
    tBM0 X.K Ty (rdM X m) (rd X W f) σ H Q := by
  obtain ⟨T, env, h, r1, r2, a⟩ := hh
  refine ⟨T, env, h, r1, r2, a.bind r1.mut fun d h1 T1 H1 v _ l1 q1 rv a1 => ?_⟩
  by_cases hk : c h1 d = true
  · rw [if_pos hk] at a1
    refine ⟨hc _ _ _ _ _ q1 rv hk, T1, h1, d, [], q1, rv, rels_nil, ?_⟩
    have a1 : After X.K X.mg W T1 H1 σ (rel X.K) Q (noX (m d [] h1)) := a1
    revert a1
    cases m d [] h1 with
    | ok d' h' => exact fun a2 T' H' v' l r q => a2 T' H' v' l r q
    | exc c h' => exact fun a2 => a2
    | stuck => exact fun a2 => a2
  · rw [if_neg hk] at a1; exact a1.elim
/-- o.m(e, ..) of a list -/
theorem se_mL {id : String} {name : Str} {o e : Expr} {es : List Expr} {m : D → List D → HH → R D} {f : Ex} {g : Exs} {apos cpos : Pos} (slot : Slot "list" name id) (hty : typeOf (.builtin id) = pure (.type "method_descriptor")) (hm : MtR X id (rdM X m)) (ho : SE X W o f) (ha : SA X W (e :: es) g)
    (hbase : attributeBase o name X.env (eval o X.env) = eval o X.env := by rfl)
    (hfew : ((backTo cpos (starEach (e :: es) X.env)).all (fun x => !x.1) && (backToKw cpos (keywordEach [] X.env)).all (fun x => x.1.isSome)
      && decide ((e :: es).length + ([] : List Keyword).length + (if ([] : List Keyword).isEmpty then 0 else 1) < 30)) = true := by rfl)
    (hline : (apos.endLine == cpos.line) = true := by rfl) (hs : starEach (e :: es) X.env = (false, eval e X.env) :: starEach es X.env := by rfl) (hplain : (backTo cpos (starEach es X.env)).any (·.1) = false := by rfl) :
    SE X W (.Call (.Attribute o name apos) (e :: es) [] cpos) (eM cL m f g) :=
  PE.mono (pe_bm PySem.F.plainAttrs_list slot hty hm ho ha.pa hbase hfew hline hs hplain) fun _ _ _ => rd_M fun _ _ _ _ _ r q e => cL_ty r q e
theorem se_mL0 {id : String} {name : Str} {o : Expr} {m : D → List D → HH → R D} {f : Ex} {apos cpos : Pos} (slot : Slot "list" name id) (hty : typeOf (.builtin id) = pure (.type "method_descriptor")) (hm : MtR X id (rdM X m)) (ho : SE X W o f)
    (hbase : attributeBase o name X.env (eval o X.env) = eval o X.env := by rfl) (hline : (apos.endLine == cpos.line) = true := by rfl) : SE X W (.Call (.Attribute o name apos) [] [] cpos) (eM cL m f aNil) :=
  PE.mono (pe_bm0 PySem.F.plainAttrs_list slot hty hm ho hbase hline) fun _ _ _ => rd_M0 fun _ _ _ _ _ r q e => cL_ty r q e
theorem rdM_ok {r : R D} {P : D → HH → Prop} (q : match r with | .ok d h' => P d h' | _ => False) : ∃ d h', r = .ok d h' ∧ P d h' := rdO_ok q
theorem m_app : MtR X "list.append" (rdM X mApp) := MtR.mono mt_append fun x xs H Q q => by
  obtain ⟨T, h, d, ds, r, rv, rs, q⟩ := q
  obtain ⟨d', h', e, q⟩ := rdO_ok q
  unfold mApp at e
  split at e
  · rename_i i ys e1 a
    split at e
    · rename_i hz
      cases e
      obtain ⟨p, vs, rfl, hp, s, rr⟩ := rel_refL r rv a
      obtain ⟨u, rfl, ru⟩ := rels_one rs
      obtain ⟨w1, w2⟩ := wr_lst r hp s (rels_append rr (rels_cons ru rels_nil))
      exact ⟨p, vs, u, rfl, rfl, s, by rw [rels_length rr, sizeLine_eq]; exact hz, q T _ _ w1 w2 (rel_non_iff.mpr rfl)⟩
    · cases e
  · cases e
theorem m_ext : MtR X "list.extend" (rdM X mExt) := MtR.mono mt_extend fun x xs H Q q => by
  obtain ⟨T, h, d, ds, r, rv, rs, q⟩ := q
  obtain ⟨d', h', e, q⟩ := rdO_ok q
  unfold mExt at e
  split at e
  · rename_i i ys e1 a
    obtain ⟨zs, e2, e⟩ := ofO_ok e
    split at e
    · rename_i hz
      cases e
      obtain ⟨p, vs, rfl, hp, s, rr⟩ := rel_refL r rv a
      obtain ⟨u, rfl, ru⟩ := rels_one rs
      obtain ⟨p2, ws, rfl, s2, rr2⟩ := rel_lview r ru e2
      obtain ⟨w1, w2⟩ := wr_lst r hp s (rels_append rr rr2)
      exact ⟨p, p2, vs, ws, rfl, rfl, s, s2, by rw [rels_length rr, rels_length rr2, sizeLine_eq]; exact hz, q T _ _ w1 w2 (rel_non_iff.mpr rfl)⟩
    · cases e
  · cases e
theorem m_pop : MtR X "list.pop" (rdM X mPop) := MtR.mono mt_pop fun x xs H Q q => by
  obtain ⟨T, h, d, ds, r, rv, rs, q⟩ := q
  obtain ⟨d', h', e, q⟩ := rdO_ok q
  unfold mPop at e
  split at e
  · rename_i i ys a
    obtain ⟨z, e2, e⟩ := ofO_ok e
    cases e
    obtain ⟨p, vs, rfl, hp, s, rr⟩ := rel_refL r rv a
    have hx : xs = [] := List.length_eq_zero_iff.mp (rels_length rs)
    obtain ⟨u, e3, ru⟩ := rels_get rr e2
    have rd' : rels X.K T H ys.dropLast vs.dropLast := by
      rw [List.dropLast_eq_take, List.dropLast_eq_take, rels_length rr]
      exact rels_take _ rr
    obtain ⟨w1, w2⟩ := wr_lst r hp s rd'
    exact ⟨p, vs, u, rfl, hx, s, by rw [rels_length rr]; exact e3, q T _ _ w1 w2 (rel_mono w1 r.mut _ _ ru)⟩
  · cases e
theorem m_clear : MtR X "list.clear" (rdM X mClear) := MtR.mono mt_clear fun x xs H Q q => by
  obtain ⟨T, h, d, ds, r, rv, rs, q⟩ := q
  obtain ⟨d', h', e, q⟩ := rdO_ok q
  unfold mClear at e
  split at e
  · rename_i i ys a
    cases e
    obtain ⟨p, vs, rfl, hp, s, rr⟩ := rel_refL r rv a
    have hx : xs = [] := List.length_eq_zero_iff.mp (rels_length rs)
    obtain ⟨w1, w2⟩ := wr_lst r hp s (rels_nil (K := X.K) (T := T) (H := H))
    exact ⟨p, vs, rfl, hx, s, q T _ _ w1 w2 (rel_non_iff.mpr rfl)⟩
  · cases e
theorem m_rev : MtR X "list.reverse" (rdM X mRev) := MtR.mono mt_reverse fun x xs H Q q => by
  obtain ⟨T, h, d, ds, r, rv, rs, q⟩ := q
  obtain ⟨d', h', e, q⟩ := rdO_ok q
  unfold mRev at e
  split at e
  · rename_i i ys a
    cases e
    obtain ⟨p, vs, rfl, hp, s, rr⟩ := rel_refL r rv a
    have hx : xs = [] := List.length_eq_zero_iff.mp (rels_length rs)
    obtain ⟨w1, w2⟩ := wr_lst r hp s (rels_reverse rr)
    exact ⟨p, vs, rfl, hx, s, q T _ _ w1 w2 (rel_non_iff.mpr rfl)⟩
  · cases e
theorem findAt_spec {a : D} : ∀ {ys : List D} {n j : Nat}, findAt a ys n = some j → ∃ i, j = n + i ∧ (∃ z, ys[i]? = some z ∧ eqv z a = true) ∧ ∀ m z, m < i → ys[m]? = some z → eqv z a = false
  | [], n, j, e => by unfold findAt at e; cases e
  | y :: ys, n, j, e => by
    unfold findAt at e
    split at e
    · rename_i hy
      cases e
      exact ⟨0, rfl, ⟨y, rfl, hy⟩, fun m z hm => absurd hm (Nat.not_lt_zero _)⟩
    · rename_i hy
      obtain ⟨i, e1, ⟨z, e2, e3⟩, e4⟩ := findAt_spec e
      refine ⟨i + 1, by omega, ⟨z, by simpa using e2, e3⟩, fun m z' hm hz => ?_⟩
      cases m with
      | zero => simp at hz; subst hz; simpa using hy
      | succ m => exact e4 m z' (by omega) (by simpa using hz)
theorem toPs_get : ∀ {ys : List D} {i : Nat}, (toPs ys)[i]? = ys[i]?.map toP
  | [], i => by unfold toPs; simp
  | y :: ys, 0 => by unfold toPs; simp
  | y :: ys, i + 1 => by unfold toPs; simpa using toPs_get
theorem m_index (hu : X.A.units + 65 < cLine) : MtR X "list.index" (rdM X mIndex) := MtR.mono (mt_indexD hu) fun x xs H Q q => by
  obtain ⟨T, h, d, ds, r, rv, rs, q⟩ := q
  obtain ⟨d', h', e, q⟩ := rdO_ok q
  unfold mIndex at e
  split at e
  · rename_i ys e0 a
    split at e
    · rename_i hc
      obtain ⟨j, e2, e⟩ := ofO_ok e
      cases e
      unfold inOk at hc
      simp only [Bool.and_eq_true, decide_eq_true_eq] at hc
      obtain ⟨u, rfl, ru⟩ := rels_one rs
      obtain ⟨p, vs, rfl, s, rr⟩ := rel_itemsL r rv a
      obtain ⟨i, e3, ⟨z, e4, e5⟩, e6⟩ := findAt_spec e2
      have hj : j = i := by omega
      subst hj
      refine ⟨p, u, _, toPs ys, j, toP z, rfl, rfl, .lst s (rels_dp ys vs hc.1.1.2 rr), rel_view r ru hc.1.1.1, toPs_shaped hc.1.1.2 hc.2, toP_shaped hc.1.1.1 (by omega), by rw [toPs_get, e4]; rfl, e5, fun m z' hm hz => ?_, q T H _ Le.refl r (rel_int_iff.mpr rfl)⟩
      rw [toPs_get] at hz
      cases e7 : ys[m]? with
      | none => rw [e7] at hz; cases hz
      | some w => rw [e7] at hz; cases hz; exact e6 m w hm e7
    · cases e
  · cases e

/-! ### minus -/
def opNeg (d : D) (h : HH) : R D := match d with
  | .int i => .ok (.int (-i)) h
  | _ => .stuck
def eUn (o : D → HH → R D) (f : Ex) : Ex := fun env h => (f env h).bind fun d h1 => noX (o d h1)
theorem se_neg {a : Expr} {f : Ex} {pos : Pos} (ha : SE X W a f) : SE X W (.UnaryOp .USub a pos) (eUn opNeg f) := PE.mono (pe_un un_neg ha) fun σ H Q hh => by
  obtain ⟨T, env, h, r1, r2, a⟩ := hh
  refine ⟨T, env, h, r1, r2, a.bind r1.mut fun d h1 T1 H1 v _ l1 q1 rv a1 => ?_⟩
  cases d with
  | int i => exact ⟨i, rel_int_iff.mp rv, After.done (d := D.int (-i)) a1 q1 (rel_int_iff.mpr rfl)⟩
  | _ => exact False.elim a1

/-! ### dict displays -/
def dicGo : List (Ex × Ex) → En → HH → R (List (Ky × D))
  | [], _, h => .ok [] h
  | (f, g) :: r, env, h => (f env h).bind fun k h1 => (g env h1).bind fun d h2 => (dicGo r env h2).bind fun kvs h3 => ofO (kyD k) fun ky => .ok ((ky, d) :: kvs) h3
def merD (kvs : List (Ky × D)) : List (Ky × D) := kvs.foldl (fun acc p => dPut acc p.1 p.2) []
def eDic (ps : List (Ex × Ex)) : Ex := fun env h => (dicGo ps env h).bind fun kvs h1 => .ok (.dic (merD kvs)) h1
def eDicN (ps : List (Ex × Ex)) : Ex := fun env h => (dicGo ps env h).bind fun kvs h1 => .ok (.ref h1.length) (h1 ++ [.dic (merD kvs)])
def qK (K : PySem.W.Frag) : Tk → Hp → List (Ky × D) → List (V × V) → Prop := fun T H kvs ps => ∃ ks : List (Key × V), ps = ks.map (fun kv => (kV kv.1, kv.2)) ∧ relk K T H kvs ks
structure SD (X : Cx) (W : WX) (pos : Pos) (keys : List (Option Expr)) (values : List Expr) (ps : List (Ex × Ex)) : Prop where
  pps : PPs X pos keys values (ps.map fun p => (rd X W p.1, rd X W p.2))
theorem sd_nil {pos : Pos} : SD X W pos [] [] [] := ⟨pps_nil⟩
theorem sd_cons {pos : Pos} {a b : Expr} {ks : List (Option Expr)} {vs : List Expr} {f g : Ex} {ps : List (Ex × Ex)} (ha : SE X W a f) (hb : SE X W b g) (h : SD X W pos ks vs ps) : SD X W pos (some a :: ks) (b :: vs) ((f, g) :: ps) := ⟨pps_cons ha hb h.pps⟩
theorem rd_pairs {σ : L2.St} {env : En} : ∀ {ps : List (Ex × Ex)} {T : Tk} {H : Hp} {h : HH} {Q : List (V × V) → Hp → Prop}, RelH X.K T H h → relE X.K T H env σ → After X.K X.mg W T H σ (qK X.K) Q (dicGo ps env h) → tPairs (ps.map fun p => (rd X W p.1, rd X W p.2)) σ H Q
  | [], T, H, h, Q, r, e, a => After.done (d := ([] : List (Ky × D))) a r ⟨[], rfl, by unfold relk; rfl⟩
  | (f, g) :: ps, T, H, h, Q, r, e, a => by
    unfold dicGo at a
    refine ⟨T, env, h, r, e, a.bind r.mut fun k h1 T1 H1 x _ l1 q1 rk a1 => ?_⟩
    have e1 := relE_mono l1 r.mut e
    refine ⟨T1, env, h1, q1, e1, a1.bind q1.mut fun d h2 T2 H2 y _ l2 q2 rd' a2 => ?_⟩
    have e2 := relE_mono l2 q1.mut e1
    refine rd_pairs q2 e2 (a2.bind q2.mut fun kvs h3 T3 H3 qs _ l3 q3 ⟨ks, eqs, rks⟩ a3 => ?_)
    obtain ⟨ky, e3, a3⟩ := a3.ofO
    refine a3.done q3 ⟨(kyV ky, y) :: ks, ?_, ?_⟩
    · rw [eqs, List.map_cons, rel_ky (rel_mono (l2.trans q1.mut l3) q1.mut k x rk) e3]
    · unfold relk
      exact ⟨y, ks, rfl, rel_mono l3 q2.mut d y rd', rks⟩
theorem dicGo_len {env : En} : ∀ {ps : List (Ex × Ex)} {h h' : HH} {kvs : List (Ky × D)}, dicGo ps env h = .ok kvs h' → kvs.length = ps.length
  | [], h, h', kvs, e => by cases e; rfl
  | (f, g) :: ps, h, h', kvs, e => by
    unfold dicGo at e
    obtain ⟨k, h1, e1, e⟩ := R.bind_ok e
    obtain ⟨d, h2, e2, e⟩ := R.bind_ok e
    obtain ⟨ks, h3, e3, e⟩ := R.bind_ok e
    obtain ⟨ky, e4, e⟩ := ofO_ok e
    cases e
    rw [List.length_cons, List.length_cons, dicGo_len e3]
theorem relk_mer {T : Tk} {H : Hp} : ∀ {kvs : List (Ky × D)} {ks : List (Key × V)} {acc : List (Ky × D)} {ak : List (Key × V)}, relk X.K T H kvs ks → relk X.K T H acc ak → relk X.K T H (kvs.foldl (fun acc p => dPut acc p.1 p.2) acc) (mergeK ak ks)
  | [], ks, acc, ak, r, q => by unfold relk at r; subst r; exact q
  | (k, d) :: kvs, ks, acc, ak, r, q => by
    unfold relk at r
    obtain ⟨v, t, rfl, r1, r2⟩ := r
    exact relk_mer (kvs := kvs) (acc := dPut acc k d) (ak := putK ak (kyV k) v) r2 (relk_put q k r1)
theorem relk_nil {T : Tk} {H : Hp} : relk X.K T H [] [] := by unfold relk; rfl
theorem rd_dic {ps : List (Ex × Ex)} {fin : List (Ky × D) → HH → R D} {σ : L2.St} {H : Hp} {Q : VK} (h15 : ps.length ≤ 15)
    (hfin : ∀ T H T1 H1 h kvs ks p, RelH X.K T1 H1 h → Le T H T1 H1 → Mu T H → H p = none → H1 p = some (.dK ks) → p ∉ T1.L → T1.B p → relk X.K T1 H1 (merD kvs) ks → After X.K X.mg W T H σ (rel X.K) Q (fin kvs h) → Q (.ref p) H1)
    (hh : rd X W (fun env h => (dicGo ps env h).bind fin) σ H Q) : tDisp (ps.map fun p => (rd X W p.1, rd X W p.2)) σ H Q := by
  intro p hn
  obtain ⟨T, env, h, r1, r2, a⟩ := hh
  refine rd_pairs (r1.blk hn (o := .dK [])) (relE_mono (Le.blk hn) r1.mut r2) ?_
  revert a
  dsimp only
  cases e : dicGo ps env h with
  | ok kvs h1 =>
    intro a T1 H1 qs l1 q1 ⟨ks, eqs, rks⟩
    have np : p ∉ T.L := fun z => r1.mut.free hn (r1.sub p z)
    have e1 : H1 p = some (.dK []) := l1.keep p _ upd_same np fun _ z => nomatch z
    have nl : p ∉ T1.L := l1.notL (a := p) upd_same np
    have hb : T1.B p := l1.more p (.inr rfl)
    have lt : Le T H T1 H1 := (Le.blk hn).trans r1.mut l1
    refine ⟨e1, ks, eqs, by rw [relk_length rks, dicGo_len e]; exact h15, ?_⟩
    exact hfin T H T1 _ h1 kvs _ p (q1.bw hb nl LD.dK) (lt.bw hn) r1.mut hn upd_same nl hb (relk_bw q1.mut hb _ _ (relk_mer rks relk_nil)) a
  | exc c h1 => exact fun a C T1 H1 hm l1 q1 => a C T1 H1 hm ((Le.blk hn).trans r1.mut l1) q1
  | stuck => exact fun a => a
theorem se_dic {pos : Pos} {keys : List (Option Expr)} {values : List Expr} {ps : List (Ex × Ex)} (h : SD X W pos keys values ps) (hall : keys.all (·.isSome) = true := by rfl) (hl : keys.length = values.length := by rfl) (h0 : keys ≠ [] := by exact fun z => nomatch z)
    (h15 : keys.length ≤ 15 := by decide) (hp : ps.length ≤ 15 := by decide) : SE X W (.Dict keys values pos) (eDic ps) := PE.mono (pe_disp h.pps hall hl h0 h15) fun σ H Q hh => by
  refine rd_dic (fin := fun kvs h1 => .ok (.dic (merD kvs)) h1) hp (fun T H T1 H1 h kvs ks p q1 l m hn e1 nl hb rk a => ?_) hh
  refine a (T1.un p) H1 _ (l.un hn m) (q1.un hb nl) ?_
  unfold rel
  exact ⟨p, ks, rfl, e1, fun z => z.2 rfl, relk_un (hb := hb) _ _ rk⟩
theorem se_dicN {pos : Pos} {keys : List (Option Expr)} {values : List Expr} {ps : List (Ex × Ex)} (h : SD X W pos keys values ps) (hall : keys.all (·.isSome) = true := by rfl) (hl : keys.length = values.length := by rfl) (h0 : keys ≠ [] := by exact fun z => nomatch z)
    (h15 : keys.length ≤ 15 := by decide) (hp : ps.length ≤ 15 := by decide) : SE X W (.Dict keys values pos) (eDicN ps) := PE.mono (pe_disp h.pps hall hl h0 h15) fun σ H Q hh => by
  refine rd_dic (fin := fun kvs h1 => R.ok (D.ref h1.length) (h1 ++ [O.dic (merD kvs)])) hp (fun T H T1 H1 h kvs ks p q1 l m hn e1 nl hb rk a => ?_) hh
  refine a (T1.add p) H1 _ (l.add hn) (q1.add hb nl ⟨ks, e1, relk_add _ _ hb rk⟩) ?_
  unfold rel
  exact ⟨p, rfl, by show (T1.L ++ [p])[h.length]? = _; rw [← q1.len, List.getElem?_append_right (Nat.le_refl _), Nat.sub_self]; rfl⟩
theorem se_dic0 {pos : Pos} : SE X W (.Dict [] [] pos) (eDic []) := PE.mono pe_dnewK fun σ H Q hh p hn => by
  obtain ⟨T, env, h, r1, r2, a⟩ := hh
  refine After.new (d := D.dic []) a r1 hn ?_
  unfold rel
  exact ⟨p, [], rfl, upd_same, r1.mut.free hn, relk_nil⟩
theorem se_dicN0 {pos : Pos} : SE X W (.Dict [] [] pos) (eDicN []) := PE.mono pe_dnewK fun σ H Q hh p hn => by
  obtain ⟨T, env, h, r1, r2, a⟩ := hh
  have np : p ∉ T.L := fun z => r1.mut.free hn (r1.sub p z)
  refine a ((T.blk p).add p) _ _ ((Le.blk hn).add hn) ((r1.blk hn (o := .dK [])).add (.inr rfl) np ⟨[], upd_same, relk_nil⟩) ?_
  unfold rel
  exact ⟨p, rfl, by show (T.L ++ [p])[h.length]? = _; rw [← r1.len, List.getElem?_append_right (Nat.le_refl _), Nat.sub_self]; rfl⟩
end
end Pu

namespace Pu
open PySem PySem.Spec PyProof.Rows L2

section
variable {X : Cx} {W : WX} {k : Nat}
theorem Cok.hu64 (C : Cok X W k) : X.A.units + 64 < cLine := C.hr.units
theorem Cok.hu65 (C : Cok X W k) : X.A.units + 65 < cLine := by have := C.hr.un; omega
theorem Cok.hu0 (C : Cok X W k) : X.A.units < cLine := Nat.lt_of_le_of_lt (Nat.le_add_right _ _) C.hr.units
end
theorem bt_len : bootBuiltins "len" = some (.builtin "len") := by decide +kernel
theorem bt_isinstance : bootBuiltins "isinstance" = some (.builtin "isinstance") := by decide +kernel
theorem bt_abs : bootBuiltins "abs" = some (.builtin "abs") := by decide +kernel
theorem bt_max : bootBuiltins "max" = some (.builtin "max") := by decide +kernel
theorem bt_min : bootBuiltins "min" = some (.builtin "min") := by decide +kernel
theorem bt_sum : bootBuiltins "sum" = some (.builtin "sum") := by decide +kernel
theorem bt_all : bootBuiltins "all" = some (.builtin "all") := by decide +kernel
theorem bt_any : bootBuiltins "any" = some (.builtin "any") := by decide +kernel
theorem bt_repr : bootBuiltins "repr" = some (.builtin "repr") := by decide +kernel
theorem bt_int : bootBuiltins "int" = some (.type "int") := by decide +kernel
theorem bt_str : bootBuiltins "str" = some (.type "str") := by decide +kernel
theorem bt_tuple : bootBuiltins "tuple" = some (.type "tuple") := by decide +kernel
theorem bt_list : bootBuiltins "list" = some (.type "list") := by decide +kernel
theorem bt_dict : bootBuiltins "dict" = some (.type "dict") := by decide +kernel
theorem bt_bool : bootBuiltins "bool" = some (.type "bool") := by decide +kernel

section
variable {X : Cx} {W : WX} {k : Nat} {a b : Expr} {f g : Ex} {o : D → D → HH → R D} {pos : Pos}
theorem st_cmp {op : CmpOp} (ho : OpR X (compareOp op) (rdO X o)) (ha : SE X W a f) (hb : SE X W b g) (hm : behindInMarks op b = false := by first | exact nomark _ | rfl) : ST X W (.Compare a [op] [b] pos) (tB (eOp o f g)) :=
  PT.mono (pt_cmpR ho ha hb hm) fun _ _ _ hh => rd_op (rd_tB hh)
theorem st_din (C : Cok X W k) (ha : SE X W a f) (hb : SE X W b g) (hm : behindInMarks .In b = false := by first | exact nobehind _ (by decide) (by decide) | rfl) : ST X W (.Compare a [.In] [b] pos) (tB (eOp (opDIn false) f g)) :=
  PT.mono (pt_cmp (pc_din C.hu1 ha hb) hm) fun _ _ _ hh => rd_din (rd_tB hh)
theorem st_dnotin (C : Cok X W k) (ha : SE X W a f) (hb : SE X W b g) (hm : behindInMarks .NotIn b = false := by first | exact nobehind _ (by decide) (by decide) | rfl) : ST X W (.Compare a [.NotIn] [b] pos) (tB (eOp (opDIn true) f g)) :=
  PT.mono (pt_cmp (pc_dnotin C.hu1 ha hb) hm) fun _ _ _ hh => rd_din (rd_tB hh)
end
/-- a def of the module, as its callers see it -/
structure Fd (K : PySem.W.Frag) (mg : Str → Option Value) (name : Str) (ps : List Str) (st : Stmt) (f : Addr) (fd : FuncData) : Prop where
  fu : Fun K name name st f fd
  mg : mg name = some (.ref f)
  bi : Binds K fd ps []
/-- a name of the module that holds a value -/
structure Cn (mg : Str → Option Value) (K : PySem.W.Frag) (x : Str) (d : D) : Prop where
  ex : ∃ (v : V) (u : Value), mg x = some u ∧ RelV v u ∧ (∀ T H, rel K T H d v) ∧ ∀ ds, d = .tup ds → ∃ p o, v = .ref p ∧ K.lookup p = some o ∧ o.cls = Value.type "tuple" ∧ o.dict = none
theorem Cn.se {X : Cx} {W : WX} {x : Str} {d : D} {pos : Pos} (c : Cn X.mg X.K x d) (hg : Gl X x) (hdb : (x == ("__debug__" : Str)) = false := by decide) : SE X W (.Name x pos) (eC d) := by
  obtain ⟨v, u, hm, r, hd, _⟩ := c.ex
  exact se_glob hg hm r hd hdb

/-! ### dict(list of pairs) -/
def pairD : D → Option (Ky × D)
  | .tup [k, v] => (kyD k).map fun ky => (ky, v)
  | _ => none
def pairsD : List D → Option (List (Ky × D))
  | [] => some []
  | d :: r => match pairD d, pairsD r with
    | some p, some q => some (p :: q)
    | _, _ => none
def dictP (h : HH) : List D → Option (List (Ky × D))
  | [d] => (itemsL h d).bind pairsD
  | _ => none
def eDict (f : Exs) : Ex := fun env h => (f env h).bind fun ds h1 => ofO (dictP h1 ds) fun kvs => .ok (.dic (merD kvs)) h1
def eDictN (f : Exs) : Ex := fun env h => (f env h).bind fun ds h1 => ofO (dictP h1 ds) fun kvs => .ok (.ref h1.length) (h1 ++ [.dic (merD kvs)])
section
variable {X : Cx} {W : WX} {k : Nat}
theorem pairs_rel {T : Tk} {H : Hp} : ∀ {xs : List D} {vs : List V} {kvs : List (Ky × D)}, rels X.K T H xs vs → pairsD xs = some kvs →
    ∃ (ps : List Addr) (ks : List (Key × V)), vs = ps.map V.ref ∧ Paired (fun p kv => SqT X.K H p [kV kv.1, kv.2]) ps ks ∧ relk X.K T H kvs ks
  | [], vs, kvs, r, e => by
    unfold rels at r
    cases e
    exact ⟨[], [], r, .nil, by unfold relk; rfl⟩
  | d :: xs, vs, kvs, r, e => by
    unfold rels at r
    obtain ⟨v, t, rfl, r1, r2⟩ := r
    unfold pairsD at e
    split at e
    · rename_i p q e1 e2
      cases e
      obtain ⟨ps, ks, rfl, hp, rk⟩ := pairs_rel r2 e2
      unfold pairD at e1
      split at e1
      · rename_i kd vd
        obtain ⟨ky, e3, e4⟩ := Option.map_eq_some_iff.mp e1
        subst e4
        unfold rel at r1
        obtain ⟨a, ws, rfl, s, rr⟩ := r1
        obtain ⟨w1, w2, rfl, q1, q2⟩ := rels_two rr
        rw [rel_ky q1 e3] at s
        refine ⟨a :: ps, (kyV ky, w2) :: ks, rfl, .cons s.sq hp, ?_⟩
        unfold relk
        exact ⟨w2, ks, rfl, q2, rk⟩
      · cases e1
    · cases e
theorem rd_dict {f : Exs} {fin : List (Ky × D) → HH → R D} {σ : L2.St} {H : Hp} {Q : VK}
    (hfin : ∀ T H h kvs ks p, RelH X.K T H h → H p = none → relk X.K T H kvs ks → After X.K X.mg W T H σ (rel X.K) Q (fin kvs h) → Q (.ref p) (upd H p (.dK ks)))
    (hh : rd X W (fun env h => (f env h).bind fun ds h1 => ofO (dictP h1 ds) fun kvs => fin (merD kvs) h1) σ H Q) :
    rds X W f σ H fun xs H1 => ∃ (a : Addr) (ps : List Addr) (kvs : List (Key × V)), xs = [.ref a] ∧ SqL X.K H1 a (ps.map V.ref) ∧ Paired (fun p kv => SqT X.K H1 p [kV kv.1, kv.2]) ps kvs ∧
      ∀ p, H1 p = none → Q (.ref p) (upd H1 p (.dK (mergeK [] kvs))) := by
  obtain ⟨T, env, h, r1, r2, a⟩ := hh
  refine ⟨T, env, h, r1, r2, a.bind r1.mut fun ds h1 T1 H1 vs e l1 q1 rvs a1 => ?_⟩
  obtain ⟨kvs, e1, a2⟩ := a1.ofO
  unfold dictP at e1
  split at e1
  · obtain ⟨xs, e2, e3⟩ := Option.bind_eq_some_iff.mp e1
    obtain ⟨v, rfl, rv⟩ := rels_one rvs
    obtain ⟨b, ws, rfl, s, rr⟩ := rel_itemsL q1 rv e2
    obtain ⟨ps, ks, rfl, hp, rk⟩ := pairs_rel rr e3
    exact ⟨b, ps, ks, rfl, s, hp, fun p hn => hfin T1 H1 h1 (merD kvs) _ p q1 hn (relk_mer rk relk_nil) a2⟩
  · cases e1
theorem se_dict (C : Cok X W k) {x : Str} {e : Expr} {f : Exs} {p pos : Pos} (hg : Gl X x) (hm : X.mg x = none) (hv : bootBuiltins x = some (.type "dict")) (ha : SA X W [e] f)
    (hn : x ≠ "__name__" := by decide) (hdb : (x == ("__debug__" : Str)) = false := by decide)
    (he : starEach [e] X.env = (false, eval e X.env) :: starEach [] X.env := by rfl) (hpl : (backTo pos (starEach [] X.env)).any (·.1) = false := by rfl) : SE X W (.Call (.Name x p) [e] [] pos) (eDict f) :=
  PE.mono (pe_callTy (call_dictP C.calm) hg hm hv ha.pa hn hdb he hpl) fun σ H Q hh => by
    refine rd_dict (fin := fun kvs h1 => .ok (.dic kvs) h1) (fun T H h kvs ks p q hn rk a => ?_) hh
    refine After.new (d := D.dic kvs) a q hn ?_
    unfold rel
    exact ⟨p, ks, rfl, upd_same, q.mut.free hn, relk_mono (Le.new hn) q.mut _ _ rk⟩
theorem se_dictN (C : Cok X W k) {x : Str} {e : Expr} {f : Exs} {p pos : Pos} (hg : Gl X x) (hm : X.mg x = none) (hv : bootBuiltins x = some (.type "dict")) (ha : SA X W [e] f)
    (hn : x ≠ "__name__" := by decide) (hdb : (x == ("__debug__" : Str)) = false := by decide)
    (he : starEach [e] X.env = (false, eval e X.env) :: starEach [] X.env := by rfl) (hpl : (backTo pos (starEach [] X.env)).any (·.1) = false := by rfl) : SE X W (.Call (.Name x p) [e] [] pos) (eDictN f) :=
  PE.mono (pe_callTy (call_dictP C.calm) hg hm hv ha.pa hn hdb he hpl) fun σ H Q hh => by
    refine rd_dict (fin := fun kvs (h1 : HH) => R.ok (D.ref h1.length) (h1 ++ [O.dic kvs])) (fun T H h kvs ks p q hn rk a => ?_) hh
    have np : p ∉ T.L := fun z => q.mut.free hn (q.sub p z)
    have q2 := q.blk hn (o := .dK ks)
    have rk2 : relk X.K (T.blk p) (upd H p (.dK ks)) kvs ks := relk_mono (Le.blk hn) q.mut _ _ rk
    refine a ((T.blk p).add p) _ _ ((Le.blk hn).add hn) (q2.add (.inr rfl) np ⟨ks, upd_same, relk_add _ _ (.inr rfl) rk2⟩) ?_
    unfold rel
    exact ⟨p, rfl, by show (T.L ++ [p])[h.length]? = _; rw [← q.len, List.getElem?_append_right (Nat.le_refl _), Nat.sub_self]; rfl⟩
end
end Pu

namespace Pu
open PySem PySem.Spec PyProof.Rows L2

/-! ### what a def leaves behind is dropped; what it made and gives back is a value -/
mutual
def cl (n : Nat) : D → Bool
  | .tup xs => cls n xs
  | .tux xs => cls n xs
  | .lst xs => cls n xs
  | .frz xs => cls n xs
  | .dic kvs => clk n kvs
  | .ref i => decide (i < n)
  | .non => true
  | .bl _ => true
  | .int _ => true
  | .str _ => true
  | .ty _ => true
  | .xc _ => true
def cls (n : Nat) : List D → Bool
  | [] => true
  | d :: r => cl n d && cls n r
def clk (n : Nat) : List (Sum Int String × D) → Bool
  | [] => true
  | (_, d) :: r => cl n d && clk n r
end
def clO (n : Nat) : O → Bool
  | .lst xs => cls n xs
  | .dic kvs => clk n kvs
  | .lkd kvs => clk n kvs
mutual
inductive Fz (hh : HH) (n : Nat) : D → D → Prop
  | same {d : D} (h : cl n d = true) : Fz hh n d d
  | mk {i : Nat} {ds es : List D} (h : n ≤ i) (e : hh[i]? = some (.lst ds)) (z : Fzs hh n ds es) : Fz hh n (.ref i) (.lst es)
  | mkd {i : Nat} {ds es : List (Sum Int String × D)} (h : n ≤ i) (e : hh[i]? = some (.dic ds)) (z : Fzk hh n ds es) : Fz hh n (.ref i) (.dic es)
  | tup {ds es : List D} (z : Fzs hh n ds es) : Fz hh n (.tup ds) (.tup es)
  | lst {ds es : List D} (z : Fzs hh n ds es) : Fz hh n (.lst ds) (.lst es)
  | dic {ds es : List (Sum Int String × D)} (z : Fzk hh n ds es) : Fz hh n (.dic ds) (.dic es)
inductive Fzs (hh : HH) (n : Nat) : List D → List D → Prop
  | nil : Fzs hh n [] []
  | cons {d e : D} {ds es : List D} (h : Fz hh n d e) (r : Fzs hh n ds es) : Fzs hh n (d :: ds) (e :: es)
inductive Fzk (hh : HH) (n : Nat) : List (Sum Int String × D) → List (Sum Int String × D) → Prop
  | nil : Fzk hh n [] []
  | cons {k : Sum Int String} {d e : D} {ds es : List (Sum Int String × D)} (h : Fz hh n d e) (r : Fzk hh n ds es) : Fzk hh n ((k, d) :: ds) ((k, e) :: es)
end
/-- the first n objects alone -/
def Tk.cutT (T : Tk) (n : Nat) : Tk := ⟨T.L.take n, fun a => T.B a ∧ a ∉ T.L.drop n, T.Q⟩
section
variable {K : PySem.W.Frag} {T : Tk} {H : Hp} {hh : HH} {n : Nat}
theorem cut_not {a : Addr} (h : ¬ T.B a) : ¬ (T.cutT n).B a := fun q => h q.1
mutual
theorem rel_cl : ∀ (d : D) (v : V), cl n d = true → rel K T H d v → rel K (T.cutT n) H d v
  | .non, v, c, r => by unfold rel at r ⊢; exact r
  | .bl _, v, c, r => by unfold rel at r ⊢; exact r
  | .int _, v, c, r => by unfold rel at r ⊢; exact r
  | .str _, v, c, r => by unfold rel at r ⊢; exact r
  | .ty _, v, c, r => by unfold rel at r ⊢; exact r
  | .xc _, v, c, r => by unfold rel at r ⊢; exact r
  | .ref i, v, c, r => by
    unfold rel at r ⊢
    unfold cl at c
    obtain ⟨a, e, q⟩ := r
    refine ⟨a, e, ?_⟩
    show (T.L.take n)[i]? = _
    rw [List.getElem?_take_of_lt (of_decide_eq_true c)]
    exact q
  | .tup ds, v, c, r => by
    unfold rel at r ⊢
    unfold cl at c
    obtain ⟨a, vs, e, q, z⟩ := r
    exact ⟨a, vs, e, q, rels_cl ds vs c z⟩
  | .tux ds, v, c, r => by
    unfold rel at r ⊢
    unfold cl at c
    obtain ⟨a, vs, e, q, z⟩ := r
    exact ⟨a, vs, e, q, rels_cl ds vs c z⟩
  | .lst ds, v, c, r => by
    unfold rel at r ⊢
    unfold cl at c
    obtain ⟨a, vs, e, q, m, z⟩ := r
    exact ⟨a, vs, e, q, cut_not m, rels_cl ds vs c z⟩
  | .frz ds, v, c, r => by
    unfold rel at r ⊢
    unfold cl at c
    obtain ⟨a, vs, e, q, z⟩ := r
    exact ⟨a, vs, e, q.imp (fun q => ⟨q.1, cut_not q.2⟩) id, rels_cl ds vs c z⟩
  | .dic ds, v, c, r => by
    unfold rel at r ⊢
    unfold cl at c
    obtain ⟨a, vs, e, q, m, z⟩ := r
    exact ⟨a, vs, e, q, cut_not m, relk_cl ds vs c z⟩
theorem rels_cl : ∀ (ds : List D) (vs : List V), cls n ds = true → rels K T H ds vs → rels K (T.cutT n) H ds vs
  | [], vs, c, r => by unfold rels at r ⊢; exact r
  | d :: ds, vs, c, r => by
    unfold rels at r ⊢
    unfold cls at c
    rw [Bool.and_eq_true] at c
    obtain ⟨v, t, e, r1, r2⟩ := r
    exact ⟨v, t, e, rel_cl d v c.1 r1, rels_cl ds t c.2 r2⟩
theorem relk_cl : ∀ (ds : List (Sum Int String × D)) (vs : List (Key × V)), clk n ds = true → relk K T H ds vs → relk K (T.cutT n) H ds vs
  | [], vs, c, r => by unfold relk at r ⊢; exact r
  | (k, d) :: ds, vs, c, r => by
    unfold relk at r ⊢
    unfold clk at c
    rw [Bool.and_eq_true] at c
    obtain ⟨v, t, e, r1, r2⟩ := r
    exact ⟨v, t, e, rel_cl d v c.1 r1, relk_cl ds t c.2 r2⟩
end
theorem cut_gone (q : RelH K T H hh) {i : Nat} (hi : n ≤ i) {a : Addr} (e : T.L[i]? = some a) : ¬ (T.cutT n).B a := fun z => z.2 (by
  refine List.mem_iff_getElem?.mpr ⟨i - n, ?_⟩
  rw [List.getElem?_drop, Nat.add_sub_cancel' hi]
  exact e)
mutual
theorem Fz.rel (q : RelH K T H hh) : ∀ {d e : D} {v : V}, Fz hh n d e → Pu.rel K T H d v → Pu.rel K (T.cutT n) H e v
  | _, _, v, .same h, r => rel_cl _ v h r
  | _, _, v, .mk hi e z, r => by
    unfold Pu.rel at r ⊢
    obtain ⟨a, e1, e2⟩ := r
    obtain ⟨b, e3, vs, e4, rr⟩ := q.at_ _ _ e
    rw [e2] at e3; cases e3
    exact ⟨a, vs, e1, e4, cut_gone q hi e2, Fzs.rels q z rr⟩
  | _, _, v, .mkd hi e z, r => by
    unfold Pu.rel at r ⊢
    obtain ⟨a, e1, e2⟩ := r
    obtain ⟨b, e3, vs, e4, rr⟩ := q.at_ _ _ e
    rw [e2] at e3; cases e3
    exact ⟨a, vs, e1, e4, cut_gone q hi e2, Fzk.relk q z rr⟩
  | _, _, v, .tup z, r => by
    unfold Pu.rel at r ⊢
    obtain ⟨a, vs, e, s, rr⟩ := r
    exact ⟨a, vs, e, s, Fzs.rels q z rr⟩
  | _, _, v, .lst z, r => by
    unfold Pu.rel at r ⊢
    obtain ⟨a, vs, e, s, m, rr⟩ := r
    exact ⟨a, vs, e, s, cut_not m, Fzs.rels q z rr⟩
  | _, _, v, .dic z, r => by
    unfold Pu.rel at r ⊢
    obtain ⟨a, vs, e, s, m, rr⟩ := r
    exact ⟨a, vs, e, s, cut_not m, Fzk.relk q z rr⟩
theorem Fzs.rels (q : RelH K T H hh) : ∀ {d e : List D} {v : List V}, Fzs hh n d e → Pu.rels K T H d v → Pu.rels K (T.cutT n) H e v
  | _, _, v, .nil, r => by unfold Pu.rels at r ⊢; exact r
  | _, _, v, .cons h t, r => by
    unfold Pu.rels at r ⊢
    obtain ⟨u, w, e, r1, r2⟩ := r
    exact ⟨u, w, e, Fz.rel q h r1, Fzs.rels q t r2⟩
theorem Fzk.relk (q : RelH K T H hh) : ∀ {d e : List (Sum Int String × D)} {v : List (Key × V)}, Fzk hh n d e → Pu.relk K T H d v → Pu.relk K (T.cutT n) H e v
  | _, _, v, .nil, r => by unfold Pu.relk at r ⊢; exact r
  | _, _, v, .cons h t, r => by
    unfold Pu.relk at r ⊢
    obtain ⟨u, w, e, r1, r2⟩ := r
    exact ⟨u, w, e, Fz.rel q h r1, Fzk.relk q t r2⟩
end
theorem RelH.cutH {h' g : HH} (q : RelH K T H (h' ++ g)) (c : h'.all (clO h'.length) = true) : RelH K (T.cutT h'.length) H h' := by
  have hl := q.len
  rw [List.length_append] at hl
  refine ⟨?_, q.nd.sublist (List.take_sublist _ _), fun i o e => ?_, fun a h => ⟨q.sub a (List.mem_of_mem_take h), fun z => ?_⟩, fun a h => q.occ a h.1, q.tabs⟩
  · show (T.L.take _).length = _
    rw [List.length_take]
    omega
  · have hi := (List.getElem?_eq_some_iff.mp e).1
    obtain ⟨a, e1, r⟩ := q.at_ i o (by rw [List.getElem?_append_left hi]; exact e)
    refine ⟨a, by show (T.L.take _)[i]? = _; rw [List.getElem?_take_of_lt hi]; exact e1, ?_⟩
    have c1 := List.all_eq_true.mp c o (List.mem_of_getElem? e)
    cases o with
    | lst ds => obtain ⟨vs, e2, rr⟩ := r; exact ⟨vs, e2, rels_cl _ _ c1 rr⟩
    | dic ds => obtain ⟨vs, e2, rr⟩ := r; exact ⟨vs, e2, relk_cl _ _ c1 rr⟩
    | lkd ds => obtain ⟨vs, e2, rr⟩ := r; exact ⟨vs, e2, relk_cl _ _ c1 rr⟩
  · have nd := q.nd
    rw [← List.take_append_drop h'.length T.L] at nd
    exact (List.nodup_append.mp nd).2.2 a h a z rfl
theorem Le.cutH {T0 : Tk} {H0 : Hp} {h0 h' g : HH} (l : Le T0 H0 T H) (q0 : RelH K T0 H0 h0) (q : RelH K T H (h' ++ g)) (hl : h0.length ≤ h'.length) : Le T0 H0 (T.cutT h'.length) H := by
  have e0 := q0.len
  obtain ⟨M, eM⟩ := l.pre
  have tk : T.L.take h'.length = T0.L ++ M.take (h'.length - T0.L.length) := by
    rw [eM, List.take_append, List.take_of_length_le (by omega)]
  have dk : T.L.drop h'.length = M.drop (h'.length - T0.L.length) := by
    rw [eM, List.drop_append, List.drop_of_length_le (by omega), List.nil_append]
  refine ⟨⟨_, tk⟩, fun a h => ⟨l.more a h, fun z => ?_⟩, fun a h => l.fresh a h.1, fun a h => l.freshL a (List.mem_of_mem_take h), l.keep, l.kt, l.tq, l.lk⟩
  rw [dk] at z
  have z1 := List.mem_of_mem_drop z
  rcases l.freshL a (by rw [eM]; exact List.mem_append_right _ z1) with y | y
  · have nd := q.nd
    rw [eM] at nd
    exact (List.nodup_append.mp nd).2.2 a y a z1 rfl
  · obtain ⟨xs, e | ⟨xs, e | ⟨_, e⟩⟩⟩ := q0.occ a h <;> (rw [y] at e; cases e)
end
/-- how one telling of a def comes to another: what it left behind dropped -/
inductive Tells (hh : HH) : R D → R D → Prop
  | stuck {r : R D} : Tells hh r .stuck
  | ok {h' g : HH} {d e : D} (hl : hh.length ≤ h'.length) (c : h'.all (clO h'.length) = true) (z : Fz (h' ++ g) h'.length d e) : Tells hh (.ok d (h' ++ g)) (.ok e h')
  | exc {h' g : HH} {x : String} (hl : hh.length ≤ h'.length) (c : h'.all (clO h'.length) = true) : Tells hh (.exc x (h' ++ g)) (.exc x h')
  | same {r : R D} : Tells hh r r
section
variable {P : Program} {w : World} {K : PySem.W.Frag} {mg : Str → Option Value} {base : Heap} {j k : Nat} {f : Addr} {fd : FuncData} {ps : List Str} {F F' : Fn}
theorem FnG.imp (g : FnG P w K mg base k f fd ps F) (h : ∀ ds hh, ds.length = ps.length → Tells hh (F ds hh) (F' ds hh)) : FnG P w K mg base k f fd ps F' :=
  ⟨fun A o s H args us vs T ds hh Q E hr hg e0 hb r rh rs hl a => g.run A o s H args us vs T ds hh Q E hr hg e0 hb r rh rs hl (by
    have t := h ds hh hl
    revert a t
    cases F' ds hh with
    | ok e h' =>
      intro a t
      generalize F ds hh = r0 at t
      cases t with
      | same => exact a
      | ok hl c z => exact fun T' H' v l q rv => a _ H' v (l.cutH rh q hl) (q.cutH c) (z.rel q rv)
    | exc c h' =>
      intro a t
      generalize F ds hh = r0 at t
      cases t with
      | same => exact a
      | exc hl c => exact fun C T' H' hm l q => a C _ H' hm (l.cutH rh q hl) (q.cutH c)
    | stuck => exact fun a => a.elim)⟩
theorem FnG.no : FnG P w K mg base k f fd ps (fun _ _ => .stuck) :=
  ⟨fun A o s H args us vs T ds hh Q E hr hg e0 hb r rh rs hl a => a.elim⟩
end
end Pu

namespace Pu
open PySem PySem.Spec PyProof.Rows L2

def fz (hh : HH) (n : Nat) : Nat → D → D
  | 0, d => d
  | k + 1, .ref i => if i < n then .ref i else match hh[i]? with
    | some (.lst ds) => .lst (ds.map (fz hh n k))
    | some (.dic kvs) => .dic (kvs.map fun p => (p.1, fz hh n k p.2))
    | _ => .ref i
  | k + 1, .tup ds => .tup (ds.map (fz hh n k))
  | k + 1, .lst ds => .lst (ds.map (fz hh n k))
  | k + 1, .dic kvs => .dic (kvs.map fun p => (p.1, fz hh n k p.2))
  | _ + 1, d => d
theorem fzs_ok {hh : HH} {n : Nat} {f : D → D} (hf : ∀ d, cl n (f d) = true → Fz hh n d (f d)) : ∀ ds : List D, cls n (ds.map f) = true → Fzs hh n ds (ds.map f)
  | [], _ => .nil
  | d :: ds, c => by
    rw [List.map_cons] at c ⊢
    unfold cls at c
    rw [Bool.and_eq_true] at c
    exact .cons (hf d c.1) (fzs_ok hf ds c.2)
theorem fzk_ok {hh : HH} {n : Nat} {f : D → D} (hf : ∀ d, cl n (f d) = true → Fz hh n d (f d)) : ∀ ds : List (Sum Int String × D), clk n (ds.map fun p => (p.1, f p.2)) = true → Fzk hh n ds (ds.map fun p => (p.1, f p.2))
  | [], _ => .nil
  | (k, d) :: ds, c => by
    rw [List.map_cons] at c ⊢
    unfold clk at c
    rw [Bool.and_eq_true] at c
    exact .cons (hf d c.1) (fzk_ok hf ds c.2)
theorem fz_ok {hh : HH} {n : Nat} : ∀ (k : Nat) (d : D), cl n (fz hh n k d) = true → Fz hh n d (fz hh n k d)
  | 0, d, c => .same c
  | k + 1, .ref i, c => by
    unfold fz at c ⊢
    by_cases h : i < n
    · rw [if_pos h] at c ⊢; exact .same c
    · rw [if_neg h] at c ⊢
      cases e : hh[i]? with
      | none =>
        rw [e] at c
        unfold cl at c
        exact absurd (of_decide_eq_true c) h
      | some o =>
        rw [e] at c
        cases o with
        | lst ds => exact .mk (Nat.le_of_not_lt h) e (fzs_ok (fz_ok k) ds (by unfold cl at c; exact c))
        | dic ds => exact .mkd (Nat.le_of_not_lt h) e (fzk_ok (fz_ok k) ds (by unfold cl at c; exact c))
        | lkd ds => unfold cl at c; exact absurd (of_decide_eq_true c) h
  | k + 1, .tup ds, c => by unfold fz at c ⊢; unfold cl at c; exact .tup (fzs_ok (fz_ok k) ds c)
  | k + 1, .lst ds, c => by unfold fz at c ⊢; unfold cl at c; exact .lst (fzs_ok (fz_ok k) ds c)
  | k + 1, .dic ds, c => by unfold fz at c ⊢; unfold cl at c; exact .dic (fzk_ok (fz_ok k) ds c)
  | k + 1, .non, c => .same rfl
  | k + 1, .bl _, c => .same rfl
  | k + 1, .int _, c => .same rfl
  | k + 1, .str _, c => .same rfl
  | k + 1, .ty _, c => .same rfl
  | k + 1, .xc _, c => .same rfl
  | k + 1, .frz _, c => .same c
  | k + 1, .tux _, c => .same c
/-- a def whose fresh objects are dropped, frozen -/
def fzF (F : Fn) : Fn := fun ds hh => match F ds hh with
  | .ok d h' => if hh.length ≤ h'.length ∧ (h'.take hh.length).all (clO hh.length) = true ∧ cl hh.length (fz h' hh.length 9 d) = true then .ok (fz h' hh.length 9 d) (h'.take hh.length) else .stuck
  | .exc c h' => if hh.length ≤ h'.length ∧ (h'.take hh.length).all (clO hh.length) = true then .exc c (h'.take hh.length) else .stuck
  | .stuck => .stuck
theorem tells_fz (F : Fn) (ds : List D) (hh : HH) : Tells hh (F ds hh) (fzF F ds hh) := by
  unfold fzF
  cases F ds hh with
  | ok d h' =>
    dsimp only
    split
    · rename_i h
      obtain ⟨h1, h2, h3⟩ := h
      have l : (h'.take hh.length).length = hh.length := by rw [List.length_take]; omega
      have := Tells.ok (hh := hh) (h' := h'.take hh.length) (g := h'.drop hh.length) (d := d) (e := fz h' hh.length 9 d) (by omega) (by rw [l]; exact h2) (by
        rw [List.take_append_drop, l]; exact fz_ok 9 d h3)
      rw [List.take_append_drop] at this
      exact this
    · exact .stuck
  | exc c h' =>
    dsimp only
    split
    · rename_i h
      obtain ⟨h1, h2⟩ := h
      have l : (h'.take hh.length).length = hh.length := by rw [List.length_take]; omega
      have := Tells.exc (hh := hh) (h' := h'.take hh.length) (g := h'.drop hh.length) (x := c) (by omega) (by rw [l]; exact h2)
      rw [List.take_append_drop] at this
      exact this
    · exact .stuck
  | stuck => exact .stuck
theorem FnG.fz {P : Program} {w : World} {K : PySem.W.Frag} {mg : Str → Option Value} {base : Heap} {k : Nat} {f : Addr} {fd : FuncData} {ps : List Str} {F : Fn} (g : FnG P w K mg base k f fd ps F) : FnG P w K mg base k f fd ps (fzF F) :=
  g.imp fun ds hh _ => tells_fz F ds hh
mutual
theorem cl_pure {n : Nat} : ∀ d : D, cl 0 d = true → cl n d = true
  | .non, _ => rfl
  | .bl _, _ => rfl
  | .int _, _ => rfl
  | .str _, _ => rfl
  | .ty _, _ => rfl
  | .xc _, _ => rfl
  | .ref i, h => by unfold cl at h; simp at h
  | .tup ds, h => by unfold cl at h ⊢; exact cls_pure ds h
  | .tux ds, h => by unfold cl at h ⊢; exact cls_pure ds h
  | .lst ds, h => by unfold cl at h ⊢; exact cls_pure ds h
  | .frz ds, h => by unfold cl at h ⊢; exact cls_pure ds h
  | .dic ds, h => by unfold cl at h ⊢; exact clk_pure ds h
theorem cls_pure {n : Nat} : ∀ d : List D, cls 0 d = true → cls n d = true
  | [], _ => by unfold cls; rfl
  | d :: ds, h => by
    unfold cls at h ⊢
    rw [Bool.and_eq_true] at h ⊢
    exact ⟨cl_pure d h.1, cls_pure ds h.2⟩
theorem clk_pure {n : Nat} : ∀ d : List (Sum Int String × D), clk 0 d = true → clk n d = true
  | [], _ => by unfold clk; rfl
  | (k, d) :: ds, h => by
    unfold clk at h ⊢
    rw [Bool.and_eq_true] at h ⊢
    exact ⟨cl_pure d h.1, clk_pure ds h.2⟩
end
theorem clO_pure {n : Nat} {o : O} (h : clO 0 o = true) : clO n o = true := by
  cases o with
  | lst ds => exact cls_pure ds h
  | dic ds => exact clk_pure ds h
  | lkd ds => exact clk_pure ds h
theorem all_pure {n : Nat} {hh : HH} (h : hh.all (clO 0) = true) : hh.all (clO n) = true :=
  List.all_eq_true.mpr fun o ho => clO_pure (List.all_eq_true.mp h o ho)
theorem map_id_of {f : D → D} (hf : ∀ d, cl 0 d = true → f d = d) : ∀ ds : List D, cls 0 ds = true → ds.map f = ds
  | [], _ => rfl
  | d :: ds, c => by
    unfold cls at c
    rw [Bool.and_eq_true] at c
    rw [List.map_cons, hf d c.1, map_id_of hf ds c.2]
theorem mapk_id_of {f : D → D} (hf : ∀ d, cl 0 d = true → f d = d) : ∀ ds : List (Sum Int String × D), clk 0 ds = true → (ds.map fun p => (p.1, f p.2)) = ds
  | [], _ => rfl
  | (k, d) :: ds, c => by
    unfold clk at c
    rw [Bool.and_eq_true] at c
    rw [List.map_cons, hf d c.1, mapk_id_of hf ds c.2]
theorem fz_pure {hh : HH} {n : Nat} : ∀ (k : Nat) (d : D), cl 0 d = true → fz hh n k d = d
  | 0, d, _ => rfl
  | k + 1, .ref i, h => by unfold cl at h; simp at h
  | k + 1, .tup ds, h => by unfold fz; unfold cl at h; rw [map_id_of (fz_pure k) ds h]
  | k + 1, .lst ds, h => by unfold fz; unfold cl at h; rw [map_id_of (fz_pure k) ds h]
  | k + 1, .dic ds, h => by unfold fz; unfold cl at h; rw [mapk_id_of (fz_pure k) ds h]
  | k + 1, .non, _ => rfl
  | k + 1, .bl _, _ => rfl
  | k + 1, .int _, _ => rfl
  | k + 1, .str _, _ => rfl
  | k + 1, .ty _, _ => rfl
  | k + 1, .xc _, _ => rfl
  | k + 1, .frz _, _ => rfl
  | k + 1, .tux _, _ => rfl
/-- dropped: what is given back is pure -/
theorem fzF_pure {F : Fn} {ds : List D} {hh h' g : HH} {d : D} (e : F ds hh = .ok d (h' ++ g)) (hl : h'.length = hh.length) (hp : h'.all (clO 0) = true) (hd : cl 0 d = true) : fzF F ds hh = .ok d h' := by
  unfold fzF
  rw [e]
  dsimp only
  have t : (h' ++ g).take hh.length = h' := by rw [← hl, List.take_left']; rfl
  rw [fz_pure 9 d hd, t, if_pos ⟨by rw [List.length_append]; omega, all_pure hp, cl_pure d hd⟩]
/-- frozen: a fresh list of pure values is given back -/
theorem fzF_mk {F : Fn} {ds xs : List D} {hh h' g : HH} {i : Nat} (e : F ds hh = .ok (.ref i) (h' ++ g)) (hl : h'.length = hh.length) (hp : h'.all (clO 0) = true) (hi : hh.length ≤ i) (hx : (h' ++ g)[i]? = some (.lst xs)) (hd : cls 0 xs = true) : fzF F ds hh = .ok (.lst xs) h' := by
  unfold fzF
  rw [e]
  dsimp only
  have t : (h' ++ g).take hh.length = h' := by rw [← hl, List.take_left']; rfl
  have z : Pu.fz (h' ++ g) hh.length 9 (.ref i) = .lst xs := by
    unfold Pu.fz
    rw [if_neg (by omega), hx]
    dsimp only
    rw [map_id_of (fz_pure 8) xs hd]
  rw [z, t, if_pos ⟨by rw [List.length_append]; omega, all_pure hp, by unfold cl; exact cls_pure xs hd⟩]
end Pu

namespace Pu
open PySem PySem.Spec PyProof.Rows L2

/-! ### values that the top has written -/
def KD (K : PySem.W.Frag) (d : D) (u : Value) : Prop := ∃ v, RelV v u ∧ (∀ T H, rel K T H d v) ∧ ∀ ds, d = .tup ds → ∃ p o, v = .ref p ∧ K.lookup p = some o ∧ o.cls = Value.type "tuple" ∧ o.dict = none
def KDs (K : PySem.W.Frag) (ds : List D) (us : List Value) : Prop := ∃ vs, Vals vs us ∧ ∀ T H, rels K T H ds vs
section
variable {K : PySem.W.Frag}
theorem kd_int {i : Int} {t} : KD K (.int i) (.int i t) := ⟨.int i, ⟨t, rfl⟩, fun _ _ => rel_int_iff.mpr rfl, fun _ e => by cases e⟩
theorem kd_bl {b : Bool} : KD K (.bl b) (.bool b) := ⟨.bl b, rfl, fun _ _ => rel_bl_iff.mpr rfl, fun _ e => by cases e⟩
theorem kd_non : KD K .non .none := ⟨.non, rfl, fun _ _ => rel_non_iff.mpr rfl, fun _ e => by cases e⟩
theorem kd_str {s : String} {x : Str} {t} (e : x = Str.ofString s := by rfl) : KD K (.str s) (.str x t) := ⟨.str x, ⟨t, rfl⟩, fun _ _ => rel_str_iff.mpr (by rw [e]), fun _ e => by cases e⟩
theorem kds_nil : KDs K [] [] := ⟨[], .nil, fun _ _ => rels_nil⟩
theorem kds_cons {d : D} {u : Value} {ds : List D} {us : List Value} (h : KD K d u) (r : KDs K ds us) : KDs K (d :: ds) (u :: us) := by
  obtain ⟨v, a, b, _⟩ := h
  obtain ⟨vs, a', b'⟩ := r
  exact ⟨v :: vs, .cons a a', fun T H => rels_cons (b T H) (b' T H)⟩
theorem kd_tup {a : Addr} {us : List Value} {n : Nat} {sl : Array (Option Value)} {ds : List D} (l : K.lookup a = some ⟨.type "tuple", none, .seq us.toArray n, sl⟩) (z : KDs K ds us) (hz : us.length ≤ sizeLine := by decide) : KD K (.tup ds) (.ref a) := by
  obtain ⟨vs, a', b'⟩ := z
  refine ⟨.ref a, rfl, fun T H => ?_, fun _ _ => ⟨a, _, rfl, l, rfl, rfl⟩⟩
  unfold rel
  exact ⟨a, vs, rfl, .inr ⟨_, us.toArray, n, l, rfl, rfl, by simpa using hz, by simpa using a'⟩, b' T H⟩
theorem cn_mk {h : Heap} {mg : Str → Option Value} {x : Str} {u : Value} {d : D} (X : K.In h) (G : h.Ns mainGlobals mg) (e : PySem.W.nsIn K mainGlobals x = some (some u)) (k : KD K d u) : Cn mg K x d := by
  obtain ⟨v, r, q, z⟩ := k
  exact ⟨⟨v, u, PySem.W.mg_of X G e, r, q, z⟩⟩
end
/-- a def as its callers see it, from what the top has written -/
theorem fd_mk {K : PySem.W.Frag} {h : Heap} {mg : Str → Option Value} {x : Str} {ps : List Str} {st : Stmt} {f : Addr} {oc : Value} {od an : Option Addr} {osl : Array (Option Value)} {kV doc pm cdv ct : Value} (X : K.In h) (G : h.Ns mainGlobals mg) (e : PySem.W.nsIn K mainGlobals x = some (some (.ref f)))
    (l : K.lookup f = some ⟨oc, od, .func (PySem.W.fnOf x x (defArgs st) (defBody st) (defScope st) .none kV doc pm an cdv ct), osl⟩) (c : PySem.W.codeIn K cdv x = true) (k : PySem.W.keepIn K (.ref f) = true)
    (hb : ∀ (kV doc pm : Value) (an : Option Addr) (cdv ct : Value) (us : List Value), us.length = ps.length → bindArgs (PySem.W.fnOf x x (defArgs st) (defBody st) (defScope st) .none kV doc pm an cdv ct) ⟨us, []⟩ = pure (ps.zip us)) :
    Fd K mg x ps st f (PySem.W.fnOf x x (defArgs st) (defBody st) (defScope st) .none kV doc pm an cdv ct) :=
  have F := fun_mk (st := st) l c k
  ⟨F, PySem.W.mg_of X G e, F.binds hb⟩
end Pu

namespace Pu
open PySem PySem.Spec PyProof.Rows L2

/-! ### an item, «in», of whatever stands there -/
def isDicD (h : HH) (d : D) : Bool := (dicD h d).isSome
def opIxA (a b : D) (h : HH) : R D := if isDicD h a then opDGet a b h else opIx a b h
def opInA (a b : D) (h : HH) : R D := if isDicD h b then opDIn false a b h else opIn a b h
def opNotInA (a b : D) (h : HH) : R D := if isDicD h b then opDIn true a b h else opNotIn a b h
theorem eOp_or {o1 o2 o : D → D → HH → R D} {p : D → D → HH → Bool} (ho : ∀ a b h, o a b h = if p a b h then o1 a b h else o2 a b h) (f g : Ex) (env : En) (h : HH) : eOp o f g env h = eOp o1 f g env h ∨ eOp o f g env h = eOp o2 f g env h := by
  unfold eOp
  cases f env h with
  | ok a h1 =>
    show ((g env h1).bind fun b h2 => noX (o a b h2)) = ((g env h1).bind fun b h2 => noX (o1 a b h2)) ∨ ((g env h1).bind fun b h2 => noX (o a b h2)) = ((g env h1).bind fun b h2 => noX (o2 a b h2))
    cases g env h1 with
    | ok b h2 =>
      show noX (o a b h2) = noX (o1 a b h2) ∨ noX (o a b h2) = noX (o2 a b h2)
      rw [ho a b h2]
      split
      · exact .inl rfl
      · exact .inr rfl
    | exc c h2 => exact .inl rfl
    | stuck => exact .inl rfl
  | exc c h2 => exact .inl rfl
  | stuck => exact .inl rfl
section
variable {X : Cx} {W : WX} {k : Nat} {a b : Expr} {f g : Ex} {pos : Pos}
theorem PE.or2 {e : Expr} {t t1 t2 : TE} (h1 : PE X e t1) (h2 : PE X e t2) (i : ∀ σ H Q, t σ H Q → t1 σ H Q ∨ t2 σ H Q) : PE X e t :=
  ⟨fun pins s σ H Q I hq => (i σ H Q hq).elim (h1.run pins s σ H Q I) (h2.run pins s σ H Q I)⟩
theorem PT.or2 {e : Expr} {t t1 t2 : TT} (h1 : PT X e t1) (h2 : PT X e t2) (i : ∀ σ H Q, t σ H Q → t1 σ H Q ∨ t2 σ H Q) : PT X e t :=
  ⟨fun pins s σ H Q I hq => (i σ H Q hq).elim (h1.run pins s σ H Q I) (h2.run pins s σ H Q I)⟩
theorem rd_or {o1 o2 o : D → D → HH → R D} {p : D → D → HH → Bool} (ho : ∀ a b h, o a b h = if p a b h then o1 a b h else o2 a b h) {σ : L2.St} {H : Hp} {Q : VK} (hh : rd X W (eOp o f g) σ H Q) : rd X W (eOp o1 f g) σ H Q ∨ rd X W (eOp o2 f g) σ H Q := by
  obtain ⟨T, env, h, r1, r2, a⟩ := hh
  rcases eOp_or ho f g env h with e | e
  · exact .inl ⟨T, env, h, r1, r2, by rw [← e]; exact a⟩
  · exact .inr ⟨T, env, h, r1, r2, by rw [← e]; exact a⟩
theorem rdt_or {o1 o2 o : D → D → HH → R D} {p : D → D → HH → Bool} (ho : ∀ a b h, o a b h = if p a b h then o1 a b h else o2 a b h) {σ : L2.St} {H : Hp} {Q : Bool → Hp → Prop} (hh : rdt X W (tB (eOp o f g)) σ H Q) : rdt X W (tB (eOp o1 f g)) σ H Q ∨ rdt X W (tB (eOp o2 f g)) σ H Q := by
  obtain ⟨T, env, h, r1, r2, a⟩ := hh
  unfold tB at a
  rcases eOp_or ho f g env h with e | e
  · exact .inl ⟨T, env, h, r1, r2, by unfold tB; rw [← e]; exact a⟩
  · exact .inr ⟨T, env, h, r1, r2, by unfold tB; rw [← e]; exact a⟩
theorem se_ixA (C : Cok X W k) (ha : SE X W a f) (hb : SE X W b g) (hs : PlainIx b := by exact fun _ _ => rfl) (hs2 : NoSl b := by exact fun _ _ => rfl) : SE X W (.Subscript a b pos) (eOp opIxA f g) :=
  PE.or2 (se_dget C ha hb hs2) (se_ix ha hb hs) fun σ H Q hh => rd_or (p := fun a b h => isDicD h a) (fun _ _ _ => rfl) hh
theorem se_inA (C : Cok X W k) (ha : SE X W a f) (hb : SE X W b g) (hm : behindInMarks .In b = false := by first | exact nobehind _ (by decide) (by decide) | rfl) (hm2 : behindInMarks .In b = false := by first | exact nomark _ | rfl) : SE X W (.Compare a [.In] [b] pos) (eOp opInA f g) :=
  PE.or2 (se_din C ha hb hm) (se_cmp (o_in C.hu65) ha hb hm2) fun σ H Q hh => rd_or (p := fun a b h => isDicD h b) (fun _ _ _ => rfl) hh
theorem se_notinA (C : Cok X W k) (ha : SE X W a f) (hb : SE X W b g) (hm : behindInMarks .NotIn b = false := by first | exact nobehind _ (by decide) (by decide) | rfl) (hm2 : behindInMarks .NotIn b = false := by first | exact nomark _ | rfl) : SE X W (.Compare a [.NotIn] [b] pos) (eOp opNotInA f g) :=
  PE.or2 (se_dnotin C ha hb hm) (se_cmp (o_notIn C.hu65) ha hb hm2) fun σ H Q hh => rd_or (p := fun a b h => isDicD h b) (fun _ _ _ => rfl) hh
theorem st_inA (C : Cok X W k) (ha : SE X W a f) (hb : SE X W b g) (hm : behindInMarks .In b = false := by first | exact nobehind _ (by decide) (by decide) | rfl) (hm2 : behindInMarks .In b = false := by first | exact nomark _ | rfl) : ST X W (.Compare a [.In] [b] pos) (tB (eOp opInA f g)) :=
  PT.or2 (st_din C ha hb hm) (st_cmp (o_in C.hu65) ha hb hm2) fun σ H Q hh => rdt_or (p := fun a b h => isDicD h b) (fun _ _ _ => rfl) hh
theorem st_notinA (C : Cok X W k) (ha : SE X W a f) (hb : SE X W b g) (hm : behindInMarks .NotIn b = false := by first | exact nobehind _ (by decide) (by decide) | rfl) (hm2 : behindInMarks .NotIn b = false := by first | exact nomark _ | rfl) : ST X W (.Compare a [.NotIn] [b] pos) (tB (eOp opNotInA f g)) :=
  PT.or2 (st_dnotin C ha hb hm) (st_cmp (o_notIn C.hu65) ha hb hm2) fun σ H Q hh => rdt_or (p := fun a b h => isDicD h b) (fun _ _ _ => rfl) hh
end
end Pu

namespace Pu
open PySem PySem.Spec PyProof.Rows L2

/-! ### what a mirror comes to, by what is asked of its end; what is asked stays as it is till the end is known -/
abbrev Rq {α : Type} (_ : α → HH → Prop) (_ : String → HH → Prop) : Type := R α
def Wp {α : Type} (q : α → HH → Prop) (e : String → HH → Prop) (r : Rq q e) : Prop := match (r : R α) with
  | .ok a h => q a h
  | .exc c h => e c h
  | .stuck => False
structure Ks where
  nx : En → HH → Prop
  rt : D → HH → Prop
  bk : En → HH → Prop
  ct : En → HH → Prop
  ex : String → HH → Prop
abbrev Sq (_ : Ks) : Type := S
def Wb (K : Ks) (s : Sq K) : Prop := match (s : S) with
  | .next env h => K.nx env h
  | .ret d h => K.rt d h
  | .brk env h => K.bk env h
  | .cont env h => K.ct env h
  | .exc c _ h => K.ex c h
  | .stuck => False
abbrev Oq {α : Type} (_ : α → Prop) : Type := Option α
/-- there is one, and of it is asked -/
def Wo {α : Type} (p : α → Prop) (o : Oq p) : Prop := match (o : Option α) with
  | some x => p x
  | none => False
abbrev Bq (_ _ : Prop) : Type := Bool
def Wi (a b : Prop) (c : Bq a b) : Prop := match (c : Bool) with
  | true => a
  | false => b
abbrev noE : String → HH → Prop := fun _ _ => False
@[simp] theorem wo_some {α : Type} {p : α → Prop} {x : α} : Wo p (some x) ↔ p x := Iff.rfl
@[simp] theorem wo_none {α : Type} {p : α → Prop} : Wo p none ↔ False := Iff.rfl
@[simp] theorem wi_true {a b : Prop} : Wi a b true ↔ a := Iff.rfl
@[simp] theorem wi_false {a b : Prop} : Wi a b false ↔ b := Iff.rfl
theorem wo_of {α : Type} {p : α → Prop} {o : Option α} {x : α} (e : o = some x) (h : p x) : Wo p o := by rw [e]; exact h
theorem wi_of {a b : Prop} {c : Bool} (h1 : c = true → a) (h2 : c = false → b) : Wi a b c := by
  cases c
  · exact h2 rfl
  · exact h1 rfl
theorem wi_dec {a b c : Prop} [Decidable c] (h1 : c → a) (h2 : ¬ c → b) : Wi a b (decide c) := wi_of (fun h => h1 (of_decide_eq_true h)) (fun h => h2 (of_decide_eq_false h))
section
variable {α β γ : Type} {q : α → HH → Prop} {p : β → HH → Prop} {e : String → HH → Prop} {K : Ks} {h : HH} {env : En}
@[simp] theorem wp_ok {a : α} : Wp q e (.ok a h) ↔ q a h := Iff.rfl
@[simp] theorem wp_exc {c : String} : Wp q e (.exc c h : R α) ↔ e c h := Iff.rfl
@[simp] theorem wp_stuck : Wp q e (.stuck : R α) ↔ False := Iff.rfl
@[simp ↓] theorem wp_bind {r : R α} {k : α → HH → R β} : Wp p e (r.bind k) ↔ Wp (fun a h => Wp p e (k a h)) e r := by cases r <;> rfl
@[simp ↓] theorem wp_bindX {r : R α} {k : α → HH → R β} : Wp p e (bindX r k) ↔ Wp (fun a h => Wp p e (k a h)) noE r := by cases r <;> rfl
@[simp ↓] theorem wp_noX {r : R D} {q : D → HH → Prop} : Wp q e (noX r) ↔ Wp q noE r := by cases r <;> rfl
@[simp ↓] theorem wp_ofO {o : Option γ} {k : γ → R α} : Wp q e (ofO o k) ↔ Wo (fun x => Wp q e (k x)) o := by cases o <;> rfl
@[simp ↓] theorem wp_ofB {o : Option Bool} {k : Bool → R α} : Wp q e (ofB o h k) ↔ Wo (fun x => Wp q e (k x)) o := by cases o <;> rfl
@[simp ↓] theorem wp_br {c : Bool} {a b : R α} : Wp q e (if c = true then a else b) ↔ Wi (Wp q e a) (Wp q e b) c := by cases c <;> rfl
theorem wp_ite {c : Prop} [Decidable c] {a b : R α} : Wp q e (if c then a else b) ↔ (c → Wp q e a) ∧ (¬ c → Wp q e b) := by
  by_cases hc : c
  · rw [if_pos hc]; exact ⟨fun h => ⟨fun _ => h, fun n => absurd hc n⟩, fun h => h.1 hc⟩
  · rw [if_neg hc]; exact ⟨fun h => ⟨fun n => absurd n hc, fun _ => h⟩, fun h => h.2 hc⟩
theorem wp_if {c : Prop} [Decidable c] {r : R α} : Wp q e (if c then r else .stuck) ↔ c ∧ Wp q e r := by
  by_cases hc : c
  · rw [if_pos hc]; exact ⟨fun w => ⟨hc, w⟩, fun w => w.2⟩
  · rw [if_neg hc]; exact ⟨fun w => w.elim, fun w => hc w.1⟩
theorem wp_mono {r : R α} {q' : α → HH → Prop} {e' : String → HH → Prop} (w : Wp q e r) (i : ∀ a h, q a h → q' a h) (j : ∀ c h, e c h → e' c h) : Wp q' e' r := by
  cases r with
  | ok a h => exact i a h w
  | exc c h => exact j c h w
  | stuck => exact w
theorem wp_congr {r : R α} {q' : α → HH → Prop} (i : ∀ a h, q a h ↔ q' a h) : Wp q e r ↔ Wp q' e r := by
  cases r with
  | ok a h => exact i a h
  | exc c h => exact Iff.rfl
  | stuck => exact Iff.rfl
theorem wp_imp {r : R α} {q' : α → HH → Prop} (w : Wp q noE r) (i : ∀ a h, q a h → q' a h) : Wp q' e r := wp_mono w i fun _ _ h => h.elim
theorem wp_eq {r : R α} {a : α} : Wp (fun x h' => x = a ∧ h' = h) noE r ↔ r = .ok a h := by
  cases r with
  | ok x h' => exact ⟨fun ⟨e1, e2⟩ => by rw [e1, e2], fun e => by cases e; exact ⟨rfl, rfl⟩⟩
  | exc c h' => exact ⟨fun h => h.elim, fun e => by cases e⟩
  | stuck => exact ⟨fun h => h.elim, fun e => by cases e⟩
theorem wp_ex {r : R α} : Wp q noE r ↔ ∃ a h, r = .ok a h ∧ q a h := by
  cases r with
  | ok x h' => exact ⟨fun w => ⟨x, h', rfl, w⟩, fun ⟨a, h, e1, w⟩ => by cases e1; exact w⟩
  | exc c h' => exact ⟨fun h => h.elim, fun ⟨a, h, e1, w⟩ => by cases e1⟩
  | stuck => exact ⟨fun h => h.elim, fun ⟨a, h, e1, w⟩ => by cases e1⟩
theorem wp_of {r : R α} {a : α} (h1 : r = .ok a h) (hq : q a h) : Wp q e r := by rw [h1]; exact hq
/-! statements -/
@[simp] theorem wb_next : Wb K (.next env h) ↔ K.nx env h := Iff.rfl
@[simp] theorem wb_ret {d : D} : Wb K (.ret d h) ↔ K.rt d h := Iff.rfl
@[simp] theorem wb_brk : Wb K (.brk env h) ↔ K.bk env h := Iff.rfl
@[simp] theorem wb_cont : Wb K (.cont env h) ↔ K.ct env h := Iff.rfl
@[simp] theorem wb_exc {c : String} : Wb K (.exc c env h) ↔ K.ex c h := Iff.rfl
@[simp] theorem wb_stuck : Wb K .stuck ↔ False := Iff.rfl
@[simp ↓] theorem wb_bindS {r : R α} {k : α → HH → S} : Wb K (r.bindS env k) ↔ Wp (fun a h => Wb K (k a h)) K.ex r := by cases r <;> rfl
@[simp ↓] theorem wb_ofOS {o : Option γ} {k : γ → S} : Wb K (ofOS o k) ↔ Wo (fun x => Wb K (k x)) o := by cases o <;> rfl
theorem wb_ite {c : Prop} [Decidable c] {a b : S} : Wb K (if c then a else b) ↔ (c → Wb K a) ∧ (¬ c → Wb K b) := by
  by_cases hc : c
  · rw [if_pos hc]; exact ⟨fun h => ⟨fun _ => h, fun n => absurd hc n⟩, fun h => h.1 hc⟩
  · rw [if_neg hc]; exact ⟨fun h => ⟨fun n => absurd n hc, fun _ => h⟩, fun h => h.2 hc⟩
theorem wb_mono {s : S} {K' : Ks} (w : Wb K s) (i1 : ∀ a h, K.nx a h → K'.nx a h) (i2 : ∀ a h, K.rt a h → K'.rt a h) (i3 : ∀ a h, K.bk a h → K'.bk a h) (i4 : ∀ a h, K.ct a h → K'.ct a h) (i5 : ∀ a h, K.ex a h → K'.ex a h) : Wb K' s := by
  cases s with
  | next => exact i1 _ _ w
  | ret => exact i2 _ _ w
  | brk => exact i3 _ _ w
  | cont => exact i4 _ _ w
  | exc => exact i5 _ _ w
  | stuck => exact w
def Ks.wnx (K : Ks) (nx : En → HH → Prop) : Ks := ⟨nx, K.rt, K.bk, K.ct, K.ex⟩
@[simp] theorem wnx_nx {n : En → HH → Prop} : (K.wnx n).nx = n := rfl
@[simp] theorem wnx_rt {n : En → HH → Prop} : (K.wnx n).rt = K.rt := rfl
@[simp] theorem wnx_bk {n : En → HH → Prop} : (K.wnx n).bk = K.bk := rfl
@[simp] theorem wnx_ct {n : En → HH → Prop} : (K.wnx n).ct = K.ct := rfl
@[simp] theorem wnx_ex {n : En → HH → Prop} : (K.wnx n).ex = K.ex := rfl
@[simp] theorem wnx_wnx {n m : En → HH → Prop} : (K.wnx n).wnx m = K.wnx m := rfl
@[simp ↓] theorem wb_sNil : Wb K (sNil env h) ↔ K.nx env h := Iff.rfl
@[simp ↓] theorem wb_sSeq {f g : Sx} : Wb K (sSeq f g env h) ↔ Wb (K.wnx fun env' h' => Wb K (g env' h')) (f env h) := by
  unfold sSeq
  cases f env h <;> rfl
@[simp ↓] theorem wb_sRet {f : Ex} : Wb K (sRet f env h) ↔ Wp K.rt K.ex (f env h) := by
  unfold sRet; rw [wb_bindS]; rfl
@[simp ↓] theorem wb_sRetN : Wb K (sRetN env h) ↔ K.rt .non h := Iff.rfl
@[simp ↓] theorem wb_sEx {f : Ex} : Wb K (sEx f env h) ↔ Wp (fun _ h1 => K.nx env h1) K.ex (f env h) := by
  unfold sEx; rw [wb_bindS]; rfl
@[simp ↓] theorem wb_sBrk : Wb K (sBrk env h) ↔ K.bk env h := Iff.rfl
@[simp ↓] theorem wb_sIf {c : Et} {f g : Sx} : Wb K (sIf c f g env h) ↔ Wp (fun b h1 => Wi (Wb K (f env h1)) (Wb K (g env h1)) b) K.ex (c env h) := by
  unfold sIf
  rw [wb_bindS]
  exact wp_congr fun b h1 => by cases b <;> rfl
@[simp ↓] theorem wb_sSet {i : Nat} {f : Ex} : Wb K (sSet i f env h) ↔ Wp (fun d h1 => K.nx (env.set i (some d)) h1) K.ex (f env h) := by
  unfold sSet; rw [wb_bindS]; rfl
@[simp ↓] theorem wb_sAsg {g : Tg} {f : Ex} : Wb K (sAsg g f env h) ↔ Wp (fun d h1 => Wo (fun env' => K.nx env' h1) (g d env)) K.ex (f env h) := by
  unfold sAsg
  rw [wb_bindS]
  exact wp_congr fun d h1 => wb_ofOS
@[simp ↓] theorem wb_sPut {fo fi fe : Ex} : Wb K (sPut fo fi fe env h) ↔ Wp (fun d h1 => Wp (fun a h2 => Wp (fun b h3 => Wo (fun h4 => K.nx env h4) (putAt a b d h3)) K.ex (fi env h2)) K.ex (fo env h1)) K.ex (fe env h) := by
  unfold sPut
  rw [wb_bindS]
  refine wp_congr fun d h1 => ?_
  rw [wb_bindS]
  refine wp_congr fun a h2 => ?_
  rw [wb_bindS]
  exact wp_congr fun b h3 => wb_ofOS
/-! loops -/
@[simp ↓] theorem wb_for {it : Ei} {g : Tg} {body : Sx} : Wb K (sFor it g body env h) ↔ Wp (fun i h1 => Wb K (forGo i.chk g body i.ds env h1)) K.ex (it env h) := by
  unfold sFor; rw [wb_bindS]
theorem wb_forGo {c : List (Nat × List D)} {g : Tg} {body : Sx} (I : Nat → En → HH → Prop) : ∀ (ds : List D) (n : Nat) {env : En} {h : HH}, I n env h →
    (∀ i env h, I i env h → chkOk h c = true) →
    (∀ i d env h, ds[i]? = some d → I (n + i) env h → Wo (fun env1 => Wb ⟨I (n + i + 1), K.rt, K.nx, I (n + i + 1), K.ex⟩ (body env1 h)) (g d env)) →
    (∀ env h, I (n + ds.length) env h → K.nx env h) → Wb K (forGo c g body ds env h)
  | [], n, env, h, i0, hc, _, hd => by
    unfold forGo
    rw [if_pos (hc _ _ _ i0)]
    exact hd _ _ (by simpa using i0)
  | d :: ds, n, env, h, i0, hc, st, hd => by
    unfold forGo
    rw [if_pos (hc _ _ _ i0), wb_ofOS]
    have w := st 0 d env h rfl (by simpa using i0)
    revert w
    cases g d env with
    | none => exact fun w => w
    | some env1 =>
      have go : ∀ env h, I (n + 1) env h → Wb K (forGo c g body ds env h) := fun env h i1 => wb_forGo I ds (n + 1) i1 hc (fun i d env h e q => by
        have := st (i + 1) d env h (by simpa using e) (by rw [show n + (i + 1) = n + 1 + i by omega]; exact q)
        rw [show n + (i + 1) + 1 = n + 1 + i + 1 by omega] at this
        exact this) (fun env h q => hd env h (by rw [List.length_cons, show n + (ds.length + 1) = n + 1 + ds.length by omega]; exact q))
      rw [wo_some, wo_some]
      cases body env1 h with
      | next env' h' => exact fun w => go _ _ w
      | cont env' h' => exact fun w => go _ _ w
      | brk env' h' => exact fun w => w
      | ret d h' => exact fun w => w
      | exc c env' h' => exact fun w => w
      | stuck => exact fun w => w
theorem wb_forI {c : List (Nat × List D)} {g : Tg} {body : Sx} (I : Nat → En → HH → Prop) {ds : List D} (i0 : I 0 env h)
    (hc : ∀ i env h, I i env h → chkOk h c = true)
    (st : ∀ i d env h, ds[i]? = some d → I i env h → Wo (fun env1 => Wb ⟨I (i + 1), K.rt, K.nx, I (i + 1), K.ex⟩ (body env1 h)) (g d env))
    (hd : ∀ env h, I ds.length env h → K.nx env h) : Wb K (forGo c g body ds env h) :=
  wb_forGo I ds 0 i0 hc (fun i d env h e q => by
    rw [Nat.zero_add] at q ⊢
    exact st i d env h e q) (fun env h q => hd env h (by rwa [Nat.zero_add] at q))
/-- unrolled -/
theorem wb_for0 {c : List (Nat × List D)} {g : Tg} {body : Sx} : Wb K (forGo c g body [] env h) ↔ chkOk h c = true ∧ K.nx env h := by
  unfold forGo
  by_cases hc : chkOk h c = true
  · rw [if_pos hc]; exact ⟨fun w => ⟨hc, w⟩, fun w => w.2⟩
  · rw [if_neg hc]; exact ⟨fun w => w.elim, fun w => hc w.1⟩
theorem wb_for1 {c : List (Nat × List D)} {g : Tg} {body : Sx} {d : D} {ds : List D} : Wb K (forGo c g body (d :: ds) env h) ↔
    chkOk h c = true ∧ Wo (fun env1 => Wb ⟨fun env h => Wb K (forGo c g body ds env h), K.rt, K.nx, fun env h => Wb K (forGo c g body ds env h), K.ex⟩ (body env1 h)) (g d env) := by
  rw [forGo]
  by_cases hc : chkOk h c = true
  · rw [if_pos hc, wb_ofOS]
    refine Iff.trans ?_ ⟨fun w => ⟨hc, w⟩, fun w => w.2⟩
    cases g d env with
    | none => exact Iff.rfl
    | some env1 => rw [wo_some, wo_some]; cases body env1 h <;> rfl
  · rw [if_neg hc]; exact ⟨fun w => w.elim, fun w => hc w.1⟩
theorem wp_lc0 {c : List (Nat × List D)} {g : Tg} {t : Et} {f : Ex} {acc : List D} {q : List D → HH → Prop} : Wp q e (lcGo c g t f env [] acc h) ↔ chkOk h c = true ∧ q acc h := by
  unfold lcGo
  exact wp_if
theorem wp_lc1 {c : List (Nat × List D)} {g : Tg} {t : Et} {f : Ex} {d : D} {ds acc : List D} {q : List D → HH → Prop} : Wp q e (lcGo c g t f env (d :: ds) acc h) ↔
    chkOk h c = true ∧ Wo (fun env1 => Wp (fun b h1 => Wi (Wp (fun y h2 => acc.length < sz ∧ Wp q e (lcGo c g t f env ds (acc ++ [y]) h2)) noE (f env1 h1)) (Wp q e (lcGo c g t f env ds acc h1)) b) noE (t env1 h)) (g d env) := by
  rw [lcGo, wp_if]
  refine and_congr Iff.rfl ?_
  rw [wp_ofO]
  cases g d env with
  | none => exact Iff.rfl
  | some env1 =>
    rw [wo_some, wo_some, wp_bindX]
    refine wp_congr fun b h1 => ?_
    cases b
    · exact Iff.rfl
    · rw [if_pos rfl, wp_bindX]
      exact wp_congr fun y h2 => wp_if
/-- a comprehension, place by place -/
theorem lc_map {c : List (Nat × List D)} {g : Tg} {f : Ex} {φ : D → D} {env : En} {h : HH} (hc : chkOk h c = true) : ∀ (ds acc : List D), acc.length + ds.length ≤ sz →
    (∀ d, d ∈ ds → ∃ env1, g d env = some env1 ∧ f env1 h = .ok (φ d) h) → lcGo c g tYesD f env ds acc h = .ok (acc ++ ds.map φ) h
  | [], acc, _, _ => by unfold lcGo; rw [if_pos hc]; simp
  | d :: ds, acc, hl, hs => by
    unfold lcGo
    rw [if_pos hc]
    obtain ⟨env1, e1, e2⟩ := hs d (by simp)
    rw [e1]
    simp only [ofO, tYesD, bindX, if_true, e2]
    rw [List.length_cons] at hl
    rw [if_pos (by omega), lc_map hc ds (acc ++ [φ d]) (by rw [List.length_append, List.length_singleton]; omega) fun d hd => hs d (by simp [hd])]
    simp
/-- with a test -/
theorem lc_filter {c : List (Nat × List D)} {g : Tg} {t : Et} {f : Ex} {φ : D → D} {ψ : D → Bool} {env : En} {h : HH} (hc : chkOk h c = true) : ∀ (ds acc : List D), acc.length + ds.length ≤ sz →
    (∀ d, d ∈ ds → ∃ env1, g d env = some env1 ∧ t env1 h = .ok (ψ d) h ∧ (ψ d = true → f env1 h = .ok (φ d) h)) → lcGo c g t f env ds acc h = .ok (acc ++ (ds.filter ψ).map φ) h
  | [], acc, _, _ => by unfold lcGo; rw [if_pos hc]; simp
  | d :: ds, acc, hl, hs => by
    unfold lcGo
    rw [if_pos hc]
    obtain ⟨env1, e1, e2, e3⟩ := hs d (by simp)
    rw [e1]
    simp only [ofO, bindX, e2]
    rw [List.length_cons] at hl
    by_cases hb : ψ d = true
    · rw [if_pos hb, e3 hb]
      dsimp only
      rw [if_pos (by omega), lc_filter hc ds (acc ++ [φ d]) (by rw [List.length_append, List.length_singleton]; omega) fun d hd => hs d (by simp [hd])]
      simp [hb]
    · rw [if_neg hb, lc_filter hc ds acc (by omega) fun d hd => hs d (by simp [hd])]
      simp [hb]
end
@[simp ↓] theorem wp_runF {n : Nat} {b : Sx} {ds : List D} {h : HH} {q : D → HH → Prop} {e : String → HH → Prop} : Wp q e (runF n b ds h) ↔ Wb ⟨fun _ h => q .non h, q, fun _ _ => False, fun _ _ => False, e⟩ (b (ds.map some ++ List.replicate (n - ds.length) none) h) := by
  unfold runF
  cases b (ds.map some ++ List.replicate (n - ds.length) none) h <;> rfl
end Pu

namespace Pu
open PySem PySem.Spec PyProof.Rows L2

/-! ### expressions, by what is asked of their ends -/
section
variable {q : D → HH → Prop} {qs : List D → HH → Prop} {qb : Bool → HH → Prop} {qi : IT → HH → Prop} {qo : Option Int → HH → Prop} {e : String → HH → Prop} {h : HH} {env : En} {f g k : Ex} {s t : Et} {as : Exs} {o o' : D → D → HH → R D}
/-- of a truth is asked -/
def Wd (p : Bool → Prop) : D → Prop
  | .bl b => p b
  | _ => False
/-- of a whole number is asked -/
def Wn (p : Int → Prop) : D → Prop
  | .int i => p i
  | _ => False
@[simp] theorem wd_bl {p : Bool → Prop} {b : Bool} : Wd p (.bl b) ↔ p b := Iff.rfl
@[simp] theorem wn_int {p : Int → Prop} {i : Int} : Wn p (.int i) ↔ p i := Iff.rfl
theorem wp_wo {γ α : Type} {o : Option γ} {k : γ → R α} {q : α → HH → Prop} {p : γ → Prop} (hp : ∀ x, Wp q e (k x) ↔ p x) : Wp q e (ofO o k) ↔ Wo p o := by
  cases o with
  | none => exact Iff.rfl
  | some x => exact hp x
@[simp] theorem wp_eC {d : D} : Wp q e (eC d env h) ↔ q d h := Iff.rfl
theorem eV_of {i : Nat} {d : D} (he : env[i]? = some (some d)) : eV i env h = .ok d h := by unfold eV; rw [he]
@[simp] theorem wp_eV {i : Nat} : Wp q e (eV i env h) ↔ Wo (fun x => Wo (fun d => q d h) x) env[i]? := by
  unfold eV
  cases env[i]? with
  | none => exact Iff.rfl
  | some x => cases x <;> exact Iff.rfl
@[simp] theorem wp_aNil : Wp qs e (aNil env h) ↔ qs [] h := Iff.rfl
@[simp ↓] theorem wp_aCons : Wp qs e (aCons f as env h) ↔ Wp (fun a h1 => Wp (fun r h2 => qs (a :: r) h2) e (as env h1)) e (f env h) := by
  unfold aCons; rw [wp_bind]; exact wp_congr fun a h1 => by rw [wp_bind]; rfl
@[simp ↓] theorem wp_eTup : Wp q e (eTup as env h) ↔ Wp (fun ds h1 => q (.tup ds) h1) e (as env h) := by unfold eTup; rw [wp_bind]; rfl
@[simp ↓] theorem wp_eVal : Wp q e (eVal as env h) ↔ Wp (fun ds h1 => q (.lst ds) h1) e (as env h) := by unfold eVal; rw [wp_bind]; rfl
@[simp ↓] theorem wp_eNew : Wp q e (eNew as env h) ↔ Wp (fun ds h1 => q (.ref h1.length) (h1 ++ [.lst ds])) e (as env h) := by unfold eNew; rw [wp_bind]; rfl
@[simp ↓] theorem wp_eOp : Wp q e (eOp o f g env h) ↔ Wp (fun a h1 => Wp (fun b h2 => Wp q noE (o a b h2)) e (g env h1)) e (f env h) := by
  unfold eOp; rw [wp_bind]; exact wp_congr fun a h1 => by rw [wp_bind]; exact wp_congr fun b h2 => wp_noX
@[simp ↓] theorem wp_eCall {o : List D → HH → R D} : Wp q e (eCall o as env h) ↔ Wp (fun ds h1 => Wp q noE (o ds h1)) e (as env h) := by unfold eCall; rw [wp_bind]; exact wp_congr fun b h2 => wp_noX
@[simp ↓] theorem wp_eFn {F : Fn} : Wp q e (eFn F as env h) ↔ Wp (fun ds h1 => Wp q e (F ds h1)) e (as env h) := by unfold eFn; rw [wp_bind]
@[simp ↓] theorem wp_eUn {o : D → HH → R D} : Wp q e (eUn o f env h) ↔ Wp (fun d h1 => Wp q noE (o d h1)) e (f env h) := by unfold eUn; rw [wp_bind]; exact wp_congr fun b h2 => wp_noX
@[simp ↓] theorem wp_tV : Wp qb e (tV f env h) ↔ Wp (fun d h1 => Wo (fun b => qb b h1) (truD h1 d)) e (f env h) := by unfold tV; rw [wp_bind]; exact wp_congr fun b h2 => wp_ofB
@[simp ↓] theorem wp_tB : Wp qb e (tB f env h) ↔ Wp (fun d h1 => Wd (fun b => qb b h1) d) e (f env h) := by
  unfold tB
  rw [wp_bind]
  exact wp_congr fun d h1 => by cases d <;> rfl
@[simp ↓] theorem wp_tAndP : Wp qb e (tAndP s t env h) ↔ Wp (fun b h1 => Wi (Wp qb e (t env h1)) (qb false h1) b) e (s env h) := by
  unfold tAndP
  rw [wp_bind]
  exact wp_congr fun b h1 => by cases b <;> rfl
@[simp ↓] theorem wp_tOrP : Wp qb e (tOrP s t env h) ↔ Wp (fun b h1 => Wi (qb true h1) (Wp qb e (t env h1)) b) e (s env h) := by
  unfold tOrP
  rw [wp_bind]
  exact wp_congr fun b h1 => by cases b <;> rfl
@[simp ↓] theorem wp_tNotP : Wp qb e (tNotP s env h) ↔ Wp (fun b h1 => qb (!b) h1) e (s env h) := by unfold tNotP; rw [wp_bind]; rfl
@[simp ↓] theorem wp_eAnd : Wp q e (eAnd f g env h) ↔ Wp (fun d h1 => Wo (fun b => Wi (Wp q e (g env h1)) (q d h1) b) (truD h1 d)) e (f env h) := by
  unfold eAnd
  rw [wp_bind]
  refine wp_congr fun d h1 => ?_
  rw [wp_ofB]
  cases truD h1 d with
  | none => exact Iff.rfl
  | some b => cases b <;> rfl
@[simp ↓] theorem wp_eOr : Wp q e (eOr f g env h) ↔ Wp (fun d h1 => Wo (fun b => Wi (q d h1) (Wp q e (g env h1)) b) (truD h1 d)) e (f env h) := by
  unfold eOr
  rw [wp_bind]
  refine wp_congr fun d h1 => ?_
  rw [wp_ofB]
  cases truD h1 d with
  | none => exact Iff.rfl
  | some b => cases b <;> rfl
@[simp ↓] theorem wp_eNot : Wp q e (eNot f env h) ↔ Wp (fun d h1 => Wo (fun b => q (.bl (!b)) h1) (truD h1 d)) e (f env h) := by unfold eNot; rw [wp_bind]; exact wp_congr fun d h1 => wp_ofB
@[simp ↓] theorem wp_eIf : Wp q e (eIf t f g env h) ↔ Wp (fun b h1 => Wi (Wp q e (f env h1)) (Wp q e (g env h1)) b) e (t env h) := by
  unfold eIf
  rw [wp_bind]
  exact wp_congr fun b h1 => by cases b <;> rfl
@[simp ↓] theorem wp_eChain : Wp q e (eChain o o' f g k env h) ↔ Wp (fun a h1 => Wp (fun b h2 => Wp (fun d h3 => Wd (fun z => Wi (Wp (fun c h4 => Wp q noE (o' b c h4)) e (k env h3)) (q (.bl false) h3) z) d) noE (o a b h2)) e (g env h1)) e (f env h) := by
  unfold eChain
  rw [wp_bind]
  refine wp_congr fun a h1 => ?_
  rw [wp_bind]
  refine wp_congr fun b h2 => ?_
  rw [wp_bind, wp_noX]
  refine wp_congr fun d h3 => ?_
  cases d with
  | bl z =>
    cases z
    · exact Iff.rfl
    · show Wp q e ((k env h3).bind fun c h4 => noX (o' b c h4)) ↔ _
      rw [wp_bind]; exact wp_congr fun b h2 => wp_noX
  | _ => exact Iff.rfl
@[simp] theorem wp_oNo : Wp qo e (oNo env h) ↔ qo none h := Iff.rfl
@[simp ↓] theorem wp_oSo : Wp qo e (oSo f env h) ↔ Wp (fun d h1 => Wn (fun i => qo (some i) h1) d) e (f env h) := by
  unfold oSo
  rw [wp_bind]
  exact wp_congr fun d h1 => by cases d <;> rfl
@[simp ↓] theorem wp_eSl {lo hi : Eo} : Wp q e (eSl f lo hi env h) ↔ Wp (fun a h1 => Wp (fun l h2 => Wp (fun u h3 => Wp q noE (opSl a l u h3)) e (hi env h2)) e (lo env h1)) e (f env h) := by
  unfold eSl; rw [wp_bind]; exact wp_congr fun a h1 => by rw [wp_bind]; exact wp_congr fun a h1 => by rw [wp_bind]; exact wp_congr fun a h1 => wp_noX
@[simp ↓] theorem wp_eM {c : HH → D → Bool} {m : D → List D → HH → R D} : Wp q e (eM c m f as env h) ↔ Wp (fun d h1 => c h1 d = true ∧ Wp (fun ds h2 => Wp q noE (m d ds h2)) e (as env h1)) e (f env h) := by
  unfold eM
  rw [wp_bind]
  refine wp_congr fun d h1 => ?_
  rw [wp_if]
  refine and_congr Iff.rfl ?_
  rw [wp_bind]; exact wp_congr fun a h1 => wp_noX
@[simp ↓] theorem wp_fCall {o : List D → HH → Option (List D)} : Wp qs e (fCall o as env h) ↔ Wp (fun ds h1 => Wo (fun x => qs x h1) (o ds h1)) e (as env h) := by unfold fCall; rw [wp_bind]; exact wp_congr fun ds h1 => wp_ofO
@[simp ↓] theorem wp_eGet1 : Wp q e (eGet1 f g env h) ↔ Wp (fun d h1 => Wo (fun _ => Wp (fun b h2 => Wo (fun kvs => Wo (fun ky => q ((dGet kvs ky).getD .non) h2) (kyD b)) (dicD h2 d)) e (g env h1)) (dicD h1 d)) e (f env h) := by
  unfold eGet1; rw [wp_bind]
  refine wp_congr fun d h1 => wp_wo fun _ => ?_
  rw [wp_bind]
  exact wp_congr fun b h2 => wp_wo fun kvs => wp_wo fun ky => Iff.rfl
@[simp ↓] theorem wp_eGet2 {z : Ex} : Wp q e (eGet2 f g z env h) ↔ Wp (fun d h1 => Wo (fun _ => Wp (fun b h2 => Wp (fun x h3 => Wo (fun kvs => Wo (fun ky => q ((dGet kvs ky).getD x) h3) (kyD b)) (dicD h3 d)) e (z env h2)) e (g env h1)) (dicD h1 d)) e (f env h) := by
  unfold eGet2; rw [wp_bind]
  refine wp_congr fun d h1 => wp_wo fun _ => ?_
  rw [wp_bind]
  refine wp_congr fun b h2 => ?_
  rw [wp_bind]
  exact wp_congr fun b h2 => wp_wo fun kvs => wp_wo fun ky => Iff.rfl
@[simp ↓] theorem wp_eDict : Wp q e (eDict as env h) ↔ Wp (fun ds h1 => Wo (fun kvs => q (.dic (merD kvs)) h1) (dictP h1 ds)) e (as env h) := by unfold eDict; rw [wp_bind]; exact wp_congr fun ds h1 => wp_ofO
@[simp ↓] theorem wp_eDictN : Wp q e (eDictN as env h) ↔ Wp (fun ds h1 => Wo (fun kvs => q (.ref h1.length) (h1 ++ [.dic (merD kvs)])) (dictP h1 ds)) e (as env h) := by unfold eDictN; rw [wp_bind]; exact wp_congr fun ds h1 => wp_ofO
@[simp ↓] theorem wp_iSeq : Wp qi e (iSeq f env h) ↔ Wp (fun d h1 => Wo (fun xs => qi ⟨xs, chkD d xs⟩ h1) (items h1 d)) e (f env h) := by unfold iSeq; rw [wp_bind]; exact wp_congr fun ds h1 => wp_ofO
@[simp ↓] theorem wp_iRev : Wp qi e (iRev f env h) ↔ Wp (fun d h1 => Wo (fun xs => qi ⟨xs.reverse, chkD d xs⟩ h1) (items h1 d)) e (f env h) := by unfold iRev; rw [wp_bind]; exact wp_congr fun ds h1 => wp_ofO
def rgD (ds : List D) : Option (List D) := match ds with
  | [.int j] => if inB j = true then some (intsL 0 j.toNat) else none
  | [.int i, .int j] => if (inB i && inB j) = true then some (intsL i (j - i).toNat) else none
  | _ => none
@[simp ↓] theorem wp_iRg : Wp qi e (iRg as env h) ↔ Wp (fun ds h1 => Wo (fun xs => qi ⟨xs, []⟩ h1) (rgD ds)) e (as env h) := by
  unfold iRg
  rw [wp_bind]
  refine wp_congr fun ds h1 => ?_
  unfold rgD
  split
  · split
    · rename_i hb; first | rfl | (simp only [hb, if_true]; rfl)
    · rename_i hb; first | rfl | simp [hb]
  · split
    · rename_i hb; first | rfl | (simp only [hb, if_true]; rfl)
    · rename_i hb; first | rfl | simp [hb]
  · first | rfl | (split <;> simp_all)
@[simp] theorem rgD_1 {j : Int} (hj : inB j = true) : rgD [.int j] = some (intsL 0 j.toNat) := by unfold rgD; simp [hj]
@[simp] theorem rgD_2 {i j : Int} (hi : inB i = true) (hj : inB j = true) : rgD [.int i, .int j] = some (intsL i (j - i).toNat) := by unfold rgD; simp [hi, hj]
def zpD (h : HH) (ds : List D) : Option IT := match ds with
  | [.tup xs, .tup ys] => some ⟨zipD xs ys, []⟩
  | [a, b] => (itemsL h a).bind fun xs => (itemsL h b).map fun ys => ⟨zipD xs ys, chkD a xs ++ chkD b ys⟩
  | _ => none
@[simp ↓] theorem wp_iZip8 : Wp qi e (iZip8 as env h) ↔ Wp (fun ds h1 => Wo (fun x => qi x h1) (zpD h1 ds)) e (as env h) := by
  unfold iZip8
  rw [wp_bind]
  refine wp_congr fun ds h1 => ?_
  split
  · rfl
  · rename_i a b hn
    rw [zpD.eq_2 h1 a b hn]
    cases itemsL h1 a with
    | none => rfl
    | some x => cases itemsL h1 b <;> rfl
  · rename_i h2 h3
    rw [zpD.eq_3 h1 ds h2 h3]
    rfl
@[simp] theorem zpD_tt {xs ys : List D} : zpD h [.tup xs, .tup ys] = some ⟨zipD xs ys, []⟩ := rfl
@[simp] theorem zpD_ll {xs ys : List D} : zpD h [.lst xs, .lst ys] = some ⟨zipD xs ys, []⟩ := rfl
@[simp ↓] theorem wp_iEnumL : Wp qi e (iEnumL as env h) ↔ Wp (fun ds h1 => Wo (fun a => Wo (fun xs => qi ⟨numb 0 xs, chkD a xs⟩ h1) (itemsL h1 a)) (match ds with | [a] => some a | _ => none)) e (as env h) := by
  unfold iEnumL
  rw [wp_bind]
  refine wp_congr fun ds h1 => ?_
  split
  · exact wp_ofO
  · rename_i hn
    first
      | rfl
      | (split
         · exact (hn _ rfl).elim
         · rfl)
@[simp ↓] theorem wp_fLc {it : Ei} {tg : Tg} {vs : List Nat} : Wp qs e (fLc it tg t f vs env h) ↔ Wp (fun i h1 => Wp qs e (lcGo i.chk tg t f (wipeE env vs) i.ds [] h1)) e (it env h) := by unfold fLc; rw [wp_bind]
@[simp ↓] theorem wp_eDic {ps : List (Ex × Ex)} : Wp q e (eDic ps env h) ↔ Wp (fun kvs h1 => q (.dic (merD kvs)) h1) e (dicGo ps env h) := by unfold eDic; rw [wp_bind]; rfl
@[simp ↓] theorem wp_eDicN {ps : List (Ex × Ex)} : Wp q e (eDicN ps env h) ↔ Wp (fun kvs h1 => q (.ref h1.length) (h1 ++ [.dic (merD kvs)])) e (dicGo ps env h) := by unfold eDicN; rw [wp_bind]; rfl
@[simp] theorem wp_dicGo0 {q : List (Ky × D) → HH → Prop} : Wp q e (dicGo [] env h) ↔ q [] h := Iff.rfl
@[simp ↓] theorem wp_dicGo1 {q : List (Ky × D) → HH → Prop} {ps : List (Ex × Ex)} : Wp q e (dicGo ((f, g) :: ps) env h) ↔ Wp (fun k h1 => Wp (fun d h2 => Wp (fun kvs h3 => Wo (fun ky => q ((ky, d) :: kvs) h3) (kyD k)) e (dicGo ps env h2)) e (g env h1)) e (f env h) := by
  rw [dicGo, wp_bind]; refine wp_congr fun a h1 => ?_; rw [wp_bind]; refine wp_congr fun a h1 => ?_; rw [wp_bind]; exact wp_congr fun a h1 => wp_ofO
@[simp] theorem wp_tYes : Wp qb e (tYesD env h) ↔ qb true h := Iff.rfl
/-! operators at known kinds -/
@[simp] theorem wp_addI {i j : Int} : Wp q e (opAdd (.int i) (.int j) h) ↔ q (.int (i + j)) h := Iff.rfl
@[simp] theorem wp_subI {i j : Int} : Wp q e (opSub (.int i) (.int j) h) ↔ q (.int (i - j)) h := Iff.rfl
@[simp] theorem wp_mulT {xs : List D} {j : Int} : Wp q e (opMul (.tup xs) (.int j) h) ↔ (xs.length ≠ 0 ∧ xs.length ≤ 1000 ∧ 2 ≤ j ∧ j ≤ 1000) ∧ q (.tup (List.replicate j.toNat xs).flatten) h := wp_if
@[simp] theorem wp_mulI {i j : Int} : Wp q e (opMul (.int i) (.int j) h) ↔ ((-p64 < i ∧ i < p64) ∨ (-p64 < j ∧ j < p64)) ∧ q (.int (i * j)) h := wp_if
@[simp] theorem wp_divI {i j : Int} : Wp q e (opDiv (.int i) (.int j) h) ↔ (0 < j ∧ j < pDv) ∧ q (.int (i / j)) h := wp_if
@[simp] theorem wp_modI {i j : Int} : Wp q e (opMod (.int i) (.int j) h) ↔ 0 < j ∧ q (.int (i % j)) h := wp_if
@[simp] theorem wp_powI {i j : Int} : Wp q e (opPow (.int i) (.int j) h) ↔ ((0 ≤ j ∧ j ≤ 1000000) ∧ (-p64 < i ∧ i < p64)) ∧ q (.int (i ^ j.toNat)) h := wp_if
@[simp] theorem wp_shlI {i j : Int} : Wp q e (opShl (.int i) (.int j) h) ↔ ((0 ≤ j ∧ j ≤ 1000000) ∧ (-p64 < i ∧ i < p64)) ∧ q (.int (i * 2 ^ j.toNat)) h := wp_if
@[simp] theorem wp_shrI {i j : Int} : Wp q e (opShr (.int i) (.int j) h) ↔ 0 ≤ j ∧ q (.int (i / 2 ^ j.toNat)) h := wp_if
@[simp] theorem wp_addT {xs ys : List D} : Wp q e (opAdd (.tup xs) (.tup ys) h) ↔ xs.length + ys.length ≤ sz ∧ q (.tup (xs ++ ys)) h := wp_if
@[simp] theorem wp_addL {xs ys : List D} : Wp q e (opAdd (.lst xs) (.lst ys) h) ↔ xs.length + ys.length ≤ sz ∧ q (.lst (xs ++ ys)) h := wp_if
@[simp] theorem wp_addS {x y : String} : Wp q e (opAdd (.str x) (.str y) h) ↔ x.length + y.length ≤ sz ∧ q (.str (x ++ y)) h := wp_if
@[simp] theorem wp_ltI {i j : Int} : Wp q e (opLt (.int i) (.int j) h) ↔ q (.bl (decide (i < j))) h := Iff.rfl
@[simp] theorem wp_leI {i j : Int} : Wp q e (opLe (.int i) (.int j) h) ↔ q (.bl (decide (i ≤ j))) h := Iff.rfl
@[simp] theorem wp_gtI {i j : Int} : Wp q e (opGt (.int i) (.int j) h) ↔ q (.bl (decide (j < i))) h := Iff.rfl
@[simp] theorem wp_geI {i j : Int} : Wp q e (opGe (.int i) (.int j) h) ↔ q (.bl (decide (j ≤ i))) h := Iff.rfl
@[simp] theorem wp_negI {i : Int} : Wp q e (opNeg (.int i) h) ↔ q (.int (-i)) h := Iff.rfl
@[simp] theorem wp_eq_ {a b : D} : Wp q e (opEq a b h) ↔ Wo (fun k => q (.bl k) h) (same? h a b) := by unfold opEq; cases same? h a b <;> rfl
@[simp] theorem wp_ne_ {a b : D} : Wp q e (opNe a b h) ↔ Wo (fun k => q (.bl (!k)) h) (same? h a b) := by unfold opNe; cases same? h a b <;> rfl
@[simp] theorem wp_isB {a b : Bool} : Wp q e (opIs (.bl a) (.bl b) h) ↔ q (.bl (a == b)) h := Iff.rfl
@[simp] theorem wp_isNotB {a b : Bool} : Wp q e (opIsNot (.bl a) (.bl b) h) ↔ q (.bl (!(a == b))) h := Iff.rfl
@[simp] theorem wp_isN {a : D} : Wp q e (opIs a .non h) ↔ q (.bl (match a with | .non => true | _ => false)) h := by cases a <;> rfl
@[simp] theorem wp_isNotN {a : D} : Wp q e (opIsNot a .non h) ↔ q (.bl (match a with | .non => false | _ => true)) h := by cases a <;> rfl
@[simp] theorem wp_ixT {xs : List D} {i : Int} : Wp q e (opIxA (.tup xs) (.int i) h) ↔ Wo (fun d => q d h) (atI xs i) := wp_ofO
@[simp] theorem wp_ixL {xs : List D} {i : Int} : Wp q e (opIxA (.lst xs) (.int i) h) ↔ Wo (fun d => q d h) (atI xs i) := wp_ofO
@[simp] theorem wp_ixF {xs : List D} {i : Int} : Wp q e (opIxA (.frz xs) (.int i) h) ↔ Wo (fun d => q d h) (atI xs i) := wp_ofO
@[simp] theorem wp_ixS {s : String} {i : Int} : Wp q e (opIxA (.str s) (.int i) h) ↔ s.length ≤ sz ∧ Wo (fun c => q (chD c) h) (atI s.toList i) := by
  have : opIxA (.str s) (.int i) h = if s.length ≤ sz then ofO (atI s.toList i) fun c => .ok (chD c) h else .stuck := rfl
  rw [this, wp_if]
  exact and_congr Iff.rfl wp_ofO
/-- what stands at a place of an object -/
def ixO (o : O) (b : D) (p : D → Prop) : Prop := match o, b with
  | .lst xs, .int i => Wo p (atI xs i)
  | .dic kvs, b => Wo (fun k => Wo p (dGet kvs k)) (kyD b)
  | .lkd kvs, b => Wo (fun k => Wo p (dGet kvs k)) (kyD b)
  | _, _ => False
theorem ixR_eq {j : Nat} {b : D} : opIxA (.ref j) b h = ofO h[j]? fun o => match o, b with
    | .lst xs, .int i => ofO (atI xs i) fun d => .ok d h
    | .dic kvs, b => ofO (kyD b) fun k => ofO (dGet kvs k) fun d => .ok d h
    | .lkd kvs, b => ofO (kyD b) fun k => ofO (dGet kvs k) fun d => .ok d h
    | _, _ => .stuck := by
  cases hj : h[j]? with
  | none =>
    have hd : dicD h (.ref j) = none := by unfold dicD; dsimp only; rw [hj]
    have hi : itemsL h (.ref j) = none := by unfold itemsL; dsimp only; rw [hj]
    have hb : isDicD h (.ref j) = false := by unfold isDicD; rw [hd]; rfl
    unfold opIxA
    rw [hb]
    show opIx (.ref j) b h = .stuck
    cases b with
    | int i => show ofO (itemsL h (.ref j)) _ = _; rw [hi]; rfl
    | _ => rfl
  | some o =>
    cases o with
    | lst xs =>
      have hd : dicD h (.ref j) = none := by unfold dicD; dsimp only; rw [hj]
      have hi : itemsL h (.ref j) = some xs := by unfold itemsL; dsimp only; rw [hj]
      have hb : isDicD h (.ref j) = false := by unfold isDicD; rw [hd]; rfl
      unfold opIxA
      rw [hb]
      show opIx (.ref j) b h = _
      cases b with
      | int i => show ofO (itemsL h (.ref j)) _ = _; rw [hi]; rfl
      | _ => rfl
    | dic kvs =>
      have hd : dicD h (.ref j) = some kvs := by unfold dicD; dsimp only; rw [hj]
      have hb : isDicD h (.ref j) = true := by unfold isDicD; rw [hd]; rfl
      unfold opIxA
      rw [hb]
      show opDGet (.ref j) b h = _
      unfold opDGet
      rw [hd]
      cases b <;> rfl
    | lkd kvs =>
      have hd : dicD h (.ref j) = some kvs := by unfold dicD; dsimp only; rw [hj]
      have hb : isDicD h (.ref j) = true := by unfold isDicD; rw [hd]; rfl
      unfold opIxA
      rw [hb]
      show opDGet (.ref j) b h = _
      unfold opDGet
      rw [hd]
      cases b <;> rfl
theorem wp_ixR {j : Nat} {b : D} : Wp q e (opIxA (.ref j) b h) ↔ Wo (fun o => ixO o b fun d => q d h) h[j]? := by
  rw [ixR_eq]
  refine wp_wo fun o => ?_
  unfold ixO
  cases o with
  | lst xs => cases b <;> first | exact wp_ofO | exact Iff.rfl
  | dic kvs => cases b <;> exact wp_wo fun k => wp_wo fun d => Iff.rfl
  | lkd kvs => cases b <;> exact wp_wo fun k => wp_wo fun d => Iff.rfl
@[simp] theorem wp_ixR_ {j : Nat} {b : D} : Wp q e (opIxA (.ref j) b h) ↔ Wo (fun o => ixO o b fun d => q d h) h[j]? := wp_ixR
@[simp] theorem ixO_l {xs : List D} {i : Int} {p : D → Prop} : ixO (.lst xs) (.int i) p ↔ Wo p (atI xs i) := Iff.rfl
@[simp] theorem ixO_d {kvs : List (Ky × D)} {b : D} {p : D → Prop} : ixO (.dic kvs) b p ↔ Wo (fun k => Wo p (dGet kvs k)) (kyD b) := by cases b <;> rfl
@[simp] theorem ixO_k {kvs : List (Ky × D)} {b : D} {p : D → Prop} : ixO (.lkd kvs) b p ↔ Wo (fun k => Wo p (dGet kvs k)) (kyD b) := by cases b <;> rfl
@[simp] theorem wp_ixD {kvs : List (Ky × D)} {b : D} : Wp q e (opIxA (.dic kvs) b h) ↔ Wo (fun k => Wo (fun d => q d h) (dGet kvs k)) (kyD b) := wp_wo fun k => wp_wo fun d => Iff.rfl
@[simp] theorem wp_inT {a : D} {xs : List D} : Wp q e (opInA a (.tup xs) h) ↔ Wo (fun k => q (.bl k) h) (in? h a (.tup xs)) := wp_ofB (h := h)
@[simp] theorem wp_inL {a : D} {xs : List D} : Wp q e (opInA a (.lst xs) h) ↔ Wo (fun k => q (.bl k) h) (in? h a (.lst xs)) := wp_ofB (h := h)
@[simp] theorem wp_ninT {a : D} {xs : List D} : Wp q e (opNotInA a (.tup xs) h) ↔ Wo (fun k => q (.bl (!k)) h) (in? h a (.tup xs)) := wp_ofB (h := h)
@[simp] theorem wp_ninL {a : D} {xs : List D} : Wp q e (opNotInA a (.lst xs) h) ↔ Wo (fun k => q (.bl (!k)) h) (in? h a (.lst xs)) := wp_ofB (h := h)
@[simp] theorem wp_inF {a : D} {xs : List D} : Wp q e (opInA a (.frz xs) h) ↔ Wo (fun k => q (.bl k) h) (in? h a (.frz xs)) := wp_ofB (h := h)
@[simp] theorem wp_ninF {a : D} {xs : List D} : Wp q e (opNotInA a (.frz xs) h) ↔ Wo (fun k => q (.bl (!k)) h) (in? h a (.frz xs)) := wp_ofB (h := h)
@[simp] theorem wp_inD {a : D} {kvs : List (Ky × D)} : Wp q e (opInA a (.dic kvs) h) ↔ Wo (fun k => q (.bl (dGet kvs k).isSome) h) (kyD a) := wp_wo fun k => Iff.rfl
@[simp] theorem wp_ninD {a : D} {kvs : List (Ky × D)} : Wp q e (opNotInA a (.dic kvs) h) ↔ Wo (fun k => q (.bl (!(dGet kvs k).isSome)) h) (kyD a) := wp_wo fun k => Iff.rfl
@[simp] theorem wp_cIsi {d : D} {n : String} : Wp q e (cIsi [d, .ty n] h) ↔ Wo (fun t => Wo (fun b => q (.bl b) h) (isTi t n)) (tiD h d) := wp_wo fun t => wp_wo fun b => Iff.rfl
@[simp] theorem wp_cLen {d : D} : Wp q e (cLen [d] h) ↔ Wo (fun n => q (.int (n : Nat)) h) (lenD h d) := wp_ofO
@[simp] theorem wp_cTup {d : D} : Wp q e (cTup [d] h) ↔ Wo (fun xs => q (.tup xs) h) (items h d) := wp_ofO
@[simp] theorem wp_cIntI {i : Int} : Wp q e (cInt [.int i] h) ↔ q (.int i) h := Iff.rfl
@[simp] theorem wp_cIntB {b : Bool} : Wp q e (cInt [.bl b] h) ↔ q (.int (if b then 1 else 0)) h := Iff.rfl
@[simp] theorem wp_cAbs {i : Int} : Wp q e (cAbs [.int i] h) ↔ q (.int (if i < 0 then -i else i)) h := Iff.rfl
@[simp] theorem wp_cMax {i j : Int} : Wp q e (cMax [.int i, .int j] h) ↔ q (.int (if j > i then j else i)) h := Iff.rfl
@[simp] theorem wp_cMin {i j : Int} : Wp q e (cMin [.int i, .int j] h) ↔ q (.int (if j < i then j else i)) h := Iff.rfl
@[simp] theorem wp_cSum {d : D} : Wp q e (cSum [d] h) ↔ Wo (fun xs => Wo (fun ns => q (.int ns.sum) h) (intsD xs)) (itemsL h d) := wp_wo fun xs => wp_ofO
@[simp] theorem wp_cAll {d : D} : Wp q e (cAll [d] h) ↔ Wo (fun xs => Wo (fun bs => q (.bl (bs.all id)) h) (blsD xs)) (itemsL h d) := wp_wo fun xs => wp_ofO
@[simp] theorem wp_cAny {d : D} : Wp q e (cAny [d] h) ↔ Wo (fun xs => Wo (fun bs => q (.bl (bs.any id)) h) (blsD xs)) (itemsL h d) := wp_wo fun xs => wp_ofO
end
/-! ### small readings -/
@[simp] theorem p64_lit : p64 = 18446744073709551616 := by unfold p64; rfl
@[simp] theorem pDv_lit : pDv = 1809251394333065553493296640760748560207343510400633813116524750123642650624 := by unfold pDv; rfl
section
variable {h : HH} {xs : List D}
@[simp] theorem items_tup : items h (.tup xs) = some xs := rfl
@[simp] theorem items_lst : items h (.lst xs) = some xs := rfl
@[simp] theorem items_frz : items h (.frz xs) = some xs := rfl
@[simp] theorem items_ref {i} : items h (.ref i) = itemsL h (.ref i) := rfl
@[simp] theorem itemsL_lst : itemsL h (.lst xs) = some xs := rfl
@[simp] theorem itemsL_frz : itemsL h (.frz xs) = some xs := rfl
theorem itemsL_ref {i} (e : h[i]? = some (.lst xs)) : itemsL h (.ref i) = some xs := by unfold itemsL; dsimp only; rw [e]
@[simp] theorem chkD_tup {ys} : chkD (.tup xs) ys = [] := rfl
@[simp] theorem chkD_lst {ys} : chkD (.lst xs) ys = [] := rfl
@[simp] theorem chkD_frz {ys} : chkD (.frz xs) ys = [] := rfl
@[simp] theorem chkD_ref {i ys} : chkD (.ref i) ys = [(i, ys)] := rfl
@[simp] theorem chkOk_nil : chkOk h [] = true := rfl
@[simp] theorem lenD_tup : lenD h (.tup xs) = some xs.length := rfl
@[simp] theorem lenD_lst : lenD h (.lst xs) = some xs.length := rfl
@[simp] theorem lenD_frz : lenD h (.frz xs) = some xs.length := rfl
theorem lenD_ref {i} (e : h[i]? = some (.lst xs)) : lenD h (.ref i) = some xs.length := by unfold lenD; dsimp only; rw [e]
@[simp] theorem tiD_int {i} : tiD h (.int i) = some .int := rfl
@[simp] theorem tiD_bl {i} : tiD h (.bl i) = some .bl := rfl
@[simp] theorem tiD_str {i} : tiD h (.str i) = some .str := rfl
@[simp] theorem tiD_non : tiD h .non = some .non := rfl
@[simp] theorem tiD_tup : tiD h (.tup xs) = some .tup := rfl
@[simp] theorem tiD_lst : tiD h (.lst xs) = some .lst := rfl
@[simp] theorem tiD_frz : tiD h (.frz xs) = some .lst := rfl
@[simp] theorem tiD_dic {kvs} : tiD h (.dic kvs) = some .dic := rfl
@[simp] theorem truD_bl {b} : truD h (.bl b) = some b := rfl
@[simp] theorem truD_non : truD h .non = some false := rfl
@[simp] theorem truD_int {i} : truD h (.int i) = some (i != 0) := rfl
@[simp] theorem truD_tup : truD h (.tup xs) = some (!xs.isEmpty) := rfl
@[simp] theorem truD_lst : truD h (.lst xs) = some (!xs.isEmpty) := rfl
@[simp] theorem isTi_int {t : Ti} : isTi t "int" = some (t == .int || t == .bl) := rfl
@[simp] theorem isTi_bool {t : Ti} : isTi t "bool" = some (t == .bl) := rfl
@[simp] theorem isTi_str {t : Ti} : isTi t "str" = some (t == .str) := rfl
@[simp] theorem isTi_tup {t : Ti} : isTi t "tuple" = some (t == .tup) := rfl
@[simp] theorem isTi_list {t : Ti} : isTi t "list" = some (t == .lst) := rfl
@[simp] theorem isTi_dict {t : Ti} : isTi t "dict" = some (t == .dic) := rfl
@[simp] theorem ti_eq {t u : Ti} : (t == u) = decide (t = u) := by cases t <;> cases u <;> rfl
@[simp] theorem kyD_int {i} : kyD (.int i) = some (.inl i) := rfl
@[simp] theorem kyD_str {i} : kyD (.str i) = some (.inr i) := rfl
@[simp] theorem wipeE_nil {env : En} : wipeE env [] = env := rfl
@[simp] theorem wipeE_cons {env : En} {v : Nat} {vs : List Nat} : wipeE env (v :: vs) = (wipeE env vs).set v none := rfl
@[simp] theorem zipD_nil {ys : List D} : zipD [] ys = [] := rfl
@[simp] theorem zipD_cons {x y : D} {xs ys : List D} : zipD (x :: xs) (y :: ys) = .tux [x, y] :: zipD xs ys := rfl
@[simp] theorem gN_ {i : Nat} {d : D} {env : En} : gN i d env = some (env.set i (some d)) := rfl
@[simp] theorem gsCons_ {g : Tg} {gs : Tgs} {d : D} {ds : List D} {env : En} : gsCons g gs (d :: ds) env = (g d env).bind fun env' => gs ds env' := rfl
@[simp] theorem gsNil_ {env : En} : gsNil' [] env = some env := rfl
@[simp] theorem gTx_ {n : Nat} {gs : Tgs} {ds : List D} {env : En} (hn : ds.length = n) : gT n gs (.tux ds) env = gs ds env := by unfold gT; dsimp only; rw [if_pos hn]
@[simp] theorem gT_ {n : Nat} {gs : Tgs} {ds : List D} {env : En} (hn : ds.length = n) : gT n gs (.tup ds) env = gs ds env := by unfold gT; dsimp only; rw [if_pos hn]
@[simp] theorem atI_nat {α : Type} {xs : List α} {i : Nat} : atI xs (i : Int) = xs[i]? := by
  unfold atI ixN
  rw [if_pos (by omega)]
  by_cases hl : i < xs.length
  · rw [if_pos (by omega)]; simp
  · rw [if_neg (by omega)]; simp [List.getElem?_eq_none (Nat.le_of_not_lt hl)]
@[simp] theorem atI_0 {α : Type} {xs : List α} : atI xs 0 = xs[0]? := atI_nat (i := 0)
@[simp] theorem atI_1 {α : Type} {xs : List α} : atI xs 1 = xs[1]? := atI_nat (i := 1)
@[simp] theorem atI_2 {α : Type} {xs : List α} : atI xs 2 = xs[2]? := atI_nat (i := 2)
@[simp] theorem atI_3 {α : Type} {xs : List α} : atI xs 3 = xs[3]? := atI_nat (i := 3)
@[simp] theorem atI_4 {α : Type} {xs : List α} : atI xs 4 = xs[4]? := atI_nat (i := 4)
@[simp] theorem atI_lit {α : Type} {xs : List α} {n : Nat} : atI xs (no_index (OfNat.ofNat n : Int)) = xs[(OfNat.ofNat n : Nat)]? := atI_nat (i := n)
theorem atI_toNat {α : Type} {xs : List α} {i : Int} (h0 : 0 ≤ i) : atI xs i = xs[i.toNat]? := by
  have := atI_nat (xs := xs) (i := i.toNat)
  rwa [Int.toNat_of_nonneg h0] at this
theorem atI_some {α : Type} {xs : List α} {i : Int} (h0 : 0 ≤ i) (h1 : i < xs.length) : ∃ x, atI xs i = some x ∧ x ∈ xs := by
  rw [atI_toNat h0]
  have : i.toNat < xs.length := by omega
  exact ⟨xs[i.toNat], by rw [List.getElem?_eq_getElem this], List.getElem_mem this⟩
/-- pure data -/
def plD (d : D) : Prop := isD d = true ∧ deep d ≤ 60
theorem view_isD {d : D} (p : isD d = true) : view h d = d := by
  cases d with
  | ref i => unfold isD at p; cases p
  | _ => rfl
theorem same_pl {a b : D} (p : plD a) (r : plD b) : same? h a b = some (eqv a b) := by
  unfold same?
  rw [view_isD p.1, view_isD r.1, p.1, r.1]
  simp only [Bool.and_self, Bool.true_and, p.2, r.2, decide_true, if_true]
theorem eqv_refl_ {a : D} (p : isD a = true) : eqv a a = true := SeqAt.eqv_refl _ (toP_lay a p)
@[simp] theorem pl_int {i} : plD (.int i) := ⟨rfl, by simp [deep]⟩
@[simp] theorem pl_str {i} : plD (.str i) := ⟨rfl, by simp [deep]⟩
@[simp] theorem pl_bl {i} : plD (.bl i) := ⟨rfl, by simp [deep]⟩
@[simp] theorem pl_non : plD .non := ⟨rfl, by simp [deep]⟩
@[simp] theorem same_ii {i j} : same? h (.int i) (.int j) = some (i == j) := by rw [same_pl pl_int pl_int]; unfold eqv toP PyData.eqv; rfl
theorem ofString_inj {s t : String} (e : Str.ofString s = Str.ofString t) : s = t := by
  rw [Str.ofString_eq_toList, Str.ofString_eq_toList] at e
  have e2 : (s.toList.map Char.toNat) = (t.toList.map Char.toNat) := by
    have := congrArg (fun x : Str => x.cps.toList) e
    simpa using this
  have e3 : s.toList = t.toList := (List.map_inj_right fun a b hab => Char.toNat_inj.mp hab).mp e2
  exact String.toList_inj.mp e3
@[simp] theorem same_ss {s t : String} : same? h (.str s) (.str t) = some (decide (s = t)) := by
  rw [same_pl pl_str pl_str]
  unfold eqv toP PyData.eqv
  by_cases hst : s = t
  · subst hst; simp
  · have : ¬ Str.ofString s = Str.ofString t := fun z => hst (ofString_inj z)
    simp [hst, this]
@[simp] theorem eqv_ss {s t : String} : eqv (.str s) (.str t) = decide (s = t) := by
  unfold eqv toP PyData.eqv
  by_cases hst : s = t
  · subst hst; simp
  · have : ¬ Str.ofString s = Str.ofString t := fun z => hst (ofString_inj z)
    simp [hst, this]
@[simp] theorem eqv_ii {i j} : eqv (.int i) (.int j) = decide (i = j) := by unfold eqv toP PyData.eqv; rfl
@[simp] theorem eqv_bb {i j} : eqv (.bl i) (.bl j) = (i == j) := by unfold eqv toP PyData.eqv; rfl
@[simp] theorem eqv_bi {i j} : eqv (.bl i) (.int j) = ((if i then 1 else 0) == j) := by unfold eqv toP PyData.eqv; rfl
@[simp] theorem eqv_ib {i j} : eqv (.int i) (.bl j) = (i == (if j then 1 else 0)) := by unfold eqv toP PyData.eqv; rfl
@[simp] theorem eqv_is {i} {s : String} : eqv (.int i) (.str s) = false := by unfold eqv toP PyData.eqv; rfl
@[simp] theorem eqv_si {i} {s : String} : eqv (.str s) (.int i) = false := by unfold eqv toP PyData.eqv; rfl
@[simp] theorem eqv_bs {i} {s : String} : eqv (.bl i) (.str s) = false := by unfold eqv toP PyData.eqv; rfl
@[simp] theorem eqv_sb {i} {s : String} : eqv (.str s) (.bl i) = false := by unfold eqv toP PyData.eqv; rfl
@[simp] theorem eqv_nn : eqv .non .non = true := by unfold eqv toP PyData.eqv; rfl
@[simp] theorem eqv_ns {s : String} : eqv .non (.str s) = false := by unfold eqv toP PyData.eqv; rfl
@[simp] theorem eqv_sn {s : String} : eqv (.str s) .non = false := by unfold eqv toP PyData.eqv; rfl
@[simp] theorem eqv_ni {i} : eqv .non (.int i) = false := by unfold eqv toP PyData.eqv; rfl
@[simp] theorem eqv_in {i} : eqv (.int i) .non = false := by unfold eqv toP PyData.eqv; rfl
@[simp] theorem eqv_ts {s : String} : eqv (.tup xs) (.str s) = false := by unfold eqv toP PyData.eqv; rfl
@[simp] theorem eqv_st {s : String} : eqv (.str s) (.tup xs) = false := by unfold eqv toP PyData.eqv; rfl
@[simp] theorem eqv_ti {i} : eqv (.tup xs) (.int i) = false := by unfold eqv toP PyData.eqv; rfl
@[simp] theorem eqv_it {i} : eqv (.int i) (.tup xs) = false := by unfold eqv toP PyData.eqv; rfl
@[simp] theorem eqv_tn : eqv (.tup xs) .non = false := by unfold eqv toP PyData.eqv; rfl
@[simp] theorem eqv_nt : eqv .non (.tup xs) = false := by unfold eqv toP PyData.eqv; rfl
@[simp] theorem eqv_tb {b} : eqv (.tup xs) (.bl b) = false := by unfold eqv toP PyData.eqv; rfl
@[simp] theorem eqv_bt {b} : eqv (.bl b) (.tup xs) = false := by unfold eqv toP PyData.eqv; rfl
@[simp] theorem eqv_ls {s : String} : eqv (.lst xs) (.str s) = false := by unfold eqv toP PyData.eqv; rfl
@[simp] theorem eqv_sl {s : String} : eqv (.str s) (.lst xs) = false := by unfold eqv toP PyData.eqv; rfl
@[simp] theorem eqv_li {i} : eqv (.lst xs) (.int i) = false := by unfold eqv toP PyData.eqv; rfl
@[simp] theorem eqv_il {i} : eqv (.int i) (.lst xs) = false := by unfold eqv toP PyData.eqv; rfl
@[simp] theorem eqv_lt {ys} : eqv (.lst xs) (.tup ys) = false := by unfold eqv toP PyData.eqv; rfl
@[simp] theorem eqv_tl {ys} : eqv (.tup xs) (.lst ys) = false := by unfold eqv toP PyData.eqv; rfl
@[simp] theorem same_bb {i j} : same? h (.bl i) (.bl j) = some (i == j) := by rw [same_pl pl_bl pl_bl]; unfold eqv toP PyData.eqv; rfl
@[simp] theorem same_is {i} {s : String} : same? h (.int i) (.str s) = some false := by rw [same_pl pl_int pl_str]; unfold eqv toP PyData.eqv; rfl
@[simp] theorem same_si {i} {s : String} : same? h (.str s) (.int i) = some false := by rw [same_pl pl_str pl_int]; unfold eqv toP PyData.eqv; rfl
/-! ### objects that change -/
def lsO (p : List D → Prop) (o : O) : Prop := match o with
  | .lst xs => p xs
  | .dic _ => False
  | .lkd _ => False
@[simp] theorem lsO_l {p : List D → Prop} {xs : List D} : lsO p (.lst xs) ↔ p xs := Iff.rfl
@[simp] theorem itemsL_ref_ {i : Nat} : itemsL h (.ref i) = match h[i]? with | some (.lst xs) => some xs | _ => none := rfl
@[simp] theorem lview_ref_ {i : Nat} : lview h (.ref i) = match h[i]? with | some (.lst xs) => some xs | _ => none := rfl
@[simp] theorem lview_lst_ : lview h (.lst xs) = some xs := rfl
@[simp] theorem lenD_ref_ {i : Nat} : lenD h (.ref i) = match h[i]? with | some (.lst xs) => some xs.length | some (.dic kvs) => some kvs.length | _ => none := rfl
@[simp] theorem dicD_ref_ {i : Nat} : dicD h (.ref i) = match h[i]? with | some (.dic xs) => some xs | some (.lkd xs) => some xs | _ => none := rfl
@[simp] theorem dicD_dic_ {kvs : List (Ky × D)} : dicD h (.dic kvs) = some kvs := rfl
@[simp] theorem cL_ref {i : Nat} : cL h (.ref i) = (match h[i]? with | some (.lst xs) => some xs | _ => none : Option (List D)).isSome := rfl
@[simp] theorem cL_lst : cL h (.lst xs) = true := rfl
@[simp] theorem cL_frz : cL h (.frz xs) = true := rfl
@[simp] theorem ixN_nat {n k : Nat} : ixN n (k : Int) = if k < n then some k else none := by
  unfold ixN
  rw [if_pos (by omega)]
  by_cases hl : k < n
  · rw [if_pos (by omega), if_pos hl]; simp
  · rw [if_neg (by omega), if_neg hl]
@[simp] theorem ixN_lit {n k : Nat} : ixN n (no_index (OfNat.ofNat k : Int)) = if (OfNat.ofNat k : Nat) < n then some (OfNat.ofNat k : Nat) else none := ixN_nat (k := k)
@[simp] theorem ixN_0 {n : Nat} : ixN n 0 = if 0 < n then some 0 else none := ixN_nat (k := 0)
@[simp] theorem ixN_1 {n : Nat} : ixN n 1 = if 1 < n then some 1 else none := ixN_nat (k := 1)
@[simp] theorem ixN_2 {n : Nat} : ixN n 2 = if 2 < n then some 2 else none := ixN_nat (k := 2)
@[simp] theorem ixN_3 {n : Nat} : ixN n 3 = if 3 < n then some 3 else none := ixN_nat (k := 3)
def putO (j : Nat) (b d : D) (h : HH) : O → Option HH
  | .lst xs => match b with
    | .int i => (ixN xs.length i).map fun n => h.set j (.lst (xs.set n d))
    | _ => none
  | .dic kvs => (kyD b).bind fun k => if kvs.length < sz then some (h.set j (.dic (dPut kvs k d))) else none
  | .lkd _ => none
@[simp] theorem putAt_ref {j : Nat} {b d : D} : putAt (.ref j) b d h = h[j]?.bind (putO j b d h) := by
  unfold putAt
  dsimp only
  cases h[j]? with
  | none => rfl
  | some o => cases o <;> rfl
@[simp] theorem putO_l {j : Nat} {i : Int} {d : D} : putO j (.int i) d h (.lst xs) = (ixN xs.length i).map fun n => h.set j (.lst (xs.set n d)) := rfl
@[simp] theorem putO_d {j : Nat} {b d : D} {kvs : List (Ky × D)} : putO j b d h (.dic kvs) = (kyD b).bind fun k => if kvs.length < sz then some (h.set j (.dic (dPut kvs k d))) else none := rfl
section
variable {q : D → HH → Prop} {e : String → HH → Prop}
theorem refL_eq {j : Nat} : refL h (.ref j) = h[j]?.bind fun o => match o with | .lst xs => some (j, xs) | _ => none := by
  unfold refL
  dsimp only
  cases h[j]? with
  | none => rfl
  | some o => cases o <;> rfl
@[simp] theorem wp_app {j : Nat} {d : D} : Wp q e (mApp (.ref j) [d] h) ↔ Wo (lsO fun xs => xs.length < sz ∧ q .non (h.set j (.lst (xs ++ [d])))) h[j]? := by
  unfold mApp
  rw [refL_eq]
  cases h[j]? with
  | none => exact Iff.rfl
  | some o =>
    cases o with
    | lst xs => exact wp_if
    | dic kvs => exact Iff.rfl
    | lkd kvs => exact Iff.rfl
@[simp] theorem wp_ext {j : Nat} {d : D} : Wp q e (mExt (.ref j) [d] h) ↔ Wo (lsO fun xs => Wo (fun ys => xs.length + ys.length ≤ sz ∧ q .non (h.set j (.lst (xs ++ ys)))) (lview h d)) h[j]? := by
  unfold mExt
  rw [refL_eq]
  cases h[j]? with
  | none => exact Iff.rfl
  | some o =>
    cases o with
    | lst xs => exact wp_wo fun ys => wp_if
    | dic kvs => exact Iff.rfl
    | lkd kvs => exact Iff.rfl
@[simp] theorem wp_pop {j : Nat} : Wp q e (mPop (.ref j) [] h) ↔ Wo (lsO fun xs => Wo (fun z => q z (h.set j (.lst xs.dropLast))) xs[xs.length - 1]?) h[j]? := by
  unfold mPop
  rw [refL_eq]
  cases h[j]? with
  | none => exact Iff.rfl
  | some o =>
    cases o with
    | lst xs => exact wp_ofO
    | dic kvs => exact Iff.rfl
    | lkd kvs => exact Iff.rfl
@[simp] theorem wp_clear {j : Nat} : Wp q e (mClear (.ref j) [] h) ↔ Wo (lsO fun xs => q .non (h.set j (.lst []))) h[j]? := by
  unfold mClear
  rw [refL_eq]
  cases h[j]? with
  | none => exact Iff.rfl
  | some o => cases o <;> exact Iff.rfl
@[simp] theorem wp_rev {j : Nat} : Wp q e (mRev (.ref j) [] h) ↔ Wo (lsO fun xs => q .non (h.set j (.lst xs.reverse))) h[j]? := by
  unfold mRev
  rw [refL_eq]
  cases h[j]? with
  | none => exact Iff.rfl
  | some o => cases o <;> exact Iff.rfl
end
@[simp] theorem inB_eq {i : Int} : inB i = (decide (-4611686018427387904 ≤ i) && decide (i < 4611686018427387904)) := by unfold inB; rfl
@[simp] theorem intsL_0 {lo : Int} : intsL lo 0 = [] := rfl
theorem intsL_succ {lo : Int} {n : Nat} : intsL lo (n + 1) = .int lo :: intsL (lo + 1) n := by
  unfold intsL
  rw [List.range_succ_eq_map, List.map_cons, List.map_map]
  refine congr (congrArg List.cons ?_) ?_
  · simp
  · refine List.map_congr_left fun a _ => ?_
    simp only [Function.comp]
    congr 1
    push_cast
    omega
@[simp] theorem intsL_length {lo : Int} {n : Nat} : (intsL lo n).length = n := by unfold intsL; simp
theorem intsL_get {lo : Int} {n i : Nat} {d : D} (e : (intsL lo n)[i]? = some d) : d = .int (lo + i) ∧ i < n := by
  unfold intsL at e
  rw [List.getElem?_map] at e
  by_cases hi : i < n
  · rw [List.getElem?_range hi] at e
    cases e
    exact ⟨rfl, hi⟩
  · rw [List.getElem?_eq_none (by simp; omega)] at e; cases e
@[simp] theorem dictP_lst : dictP h [.lst xs] = pairsD xs := rfl
@[simp] theorem pairsD_nil : pairsD [] = some [] := rfl
@[simp] theorem pairsD_s {s : String} {v : D} : pairsD (.tup [.str s, v] :: xs) = (pairsD xs).map fun q => (.inr s, v) :: q := by
  rw [pairsD]
  cases pairsD xs <;> rfl
@[simp] theorem pairsD_i {i : Int} {v : D} : pairsD (.tup [.int i, v] :: xs) = (pairsD xs).map fun q => (.inl i, v) :: q := by
  rw [pairsD]
  cases pairsD xs <;> rfl
@[simp] theorem isD_tup : isD (.tup xs) = isDs xs := by unfold isD; rfl
@[simp] theorem isD_lst : isD (.lst xs) = isDs xs := by unfold isD; rfl
@[simp] theorem isD_frz : isD (.frz xs) = isDs xs := by unfold isD; rfl
@[simp] theorem isDs_nil : isDs [] = true := by unfold isDs; rfl
@[simp] theorem isDs_cons {d : D} : isDs (d :: xs) = (isD d && isDs xs) := by rw [isDs]
@[simp] theorem isD_int {i} : isD (.int i) = true := by unfold isD; rfl
@[simp] theorem isD_str {i} : isD (.str i) = true := by unfold isD; rfl
@[simp] theorem isD_bl {i} : isD (.bl i) = true := by unfold isD; rfl
@[simp] theorem isD_non : isD .non = true := by unfold isD; rfl
@[simp] theorem deep_tup : deep (.tup xs) = deeps xs + 1 := by unfold deep; rfl
@[simp] theorem deep_lst : deep (.lst xs) = deeps xs + 1 := by unfold deep; rfl
@[simp] theorem deep_frz : deep (.frz xs) = deeps xs + 1 := by unfold deep; rfl
@[simp] theorem deeps_nil : deeps [] = 0 := by unfold deeps; rfl
@[simp] theorem deeps_cons {d : D} : deeps (d :: xs) = max (deep d) (deeps xs) := by rw [deeps]
@[simp] theorem deep_int {i} : deep (.int i) = 0 := by unfold deep; rfl
@[simp] theorem deep_str {i} : deep (.str i) = 0 := by unfold deep; rfl
@[simp] theorem deep_bl {i} : deep (.bl i) = 0 := by unfold deep; rfl
@[simp] theorem deep_non : deep .non = 0 := by unfold deep; rfl
theorem same_refl {d : D} (p : plD d) : same? h d d = some true := by rw [same_pl p p, eqv_refl_ p.1]
theorem eqv_tup {xs ys : List D} : eqv (.tup xs) (.tup ys) = PyData.eqvAll (toPs xs) (toPs ys) := by unfold eqv toP PyData.eqv; rfl
theorem eqv_lst {xs ys : List D} : eqv (.lst xs) (.lst ys) = PyData.eqvAll (toPs xs) (toPs ys) := by unfold eqv toP PyData.eqv; rfl
theorem eqvAll_ints : ∀ is js : List Int, PyData.eqvAll (toPs (is.map D.int)) (toPs (js.map D.int)) = decide (is = js)
  | [], [] => rfl
  | [], j :: js => by simp [toPs, PyData.eqvAll]
  | i :: is, [] => by simp [toPs, PyData.eqvAll]
  | i :: is, j :: js => by
    have ih := eqvAll_ints is js
    simp only [List.map_cons, toPs, toP, PyData.eqvAll, PyData.eqv, ih, List.cons.injEq]
    by_cases h1 : i = j <;> by_cases h2 : is = js <;> simp [h1, h2]
theorem isDs_ints : ∀ is : List Int, isDs (is.map D.int) = true
  | [] => by simp
  | i :: is => by simp [isDs_ints is]
theorem deeps_ints : ∀ is : List Int, deeps (is.map D.int) = 0
  | [] => by simp
  | i :: is => by simp [deeps_ints is]
theorem pl_ints {is : List Int} : plD (.tup (is.map D.int)) := ⟨by simp [isDs_ints], by simp [deeps_ints]⟩
theorem pl_intsL {is : List Int} : plD (.lst (is.map D.int)) := ⟨by simp [isDs_ints], by simp [deeps_ints]⟩
theorem same_ints {is js : List Int} : same? h (.tup (is.map D.int)) (.tup (js.map D.int)) = some (decide (is = js)) := by
  rw [same_pl pl_ints pl_ints, eqv_tup, eqvAll_ints]
theorem cls_ints {n : Nat} : ∀ is : List Int, cls n (is.map D.int) = true
  | [] => by unfold cls; rfl
  | i :: is => by rw [List.map_cons, cls, cls_ints is]; unfold cl; rfl
@[simp] theorem blsD_nil : blsD [] = some [] := rfl
@[simp] theorem blsD_cons {b : Bool} : blsD (.bl b :: xs) = (blsD xs).map (b :: ·) := by rw [blsD]
@[simp] theorem intsD_nil : intsD [] = some [] := rfl
@[simp] theorem intsD_cons {b : Int} : intsD (.int b :: xs) = (intsD xs).map (b :: ·) := by rw [intsD]
theorem blsD_map : ∀ bs : List Bool, blsD (bs.map D.bl) = some bs
  | [] => rfl
  | b :: bs => by simp [blsD_map bs]
theorem intsD_map : ∀ bs : List Int, intsD (bs.map D.int) = some bs
  | [] => rfl
  | b :: bs => by simp [intsD_map bs]
theorem inOk_pl {a : D} (pa : plD a) (h1 : isDs xs = true) (h2 : deeps xs ≤ 60) : inOk h a xs = true := by
  unfold inOk
  rw [view_isD pa.1, pa.1, h1, Bool.true_and, Bool.true_and, Bool.and_eq_true]
  exact ⟨decide_eq_true pa.2, decide_eq_true h2⟩
@[simp] theorem in_tup {a : D} (pa : plD a) (h1 : isDs xs = true) (h2 : deeps xs ≤ 60) : in? h a (.tup xs) = some (xs.any fun y => eqv y a) := by
  have e := inOk_pl (h := h) pa h1 h2
  have : in? h a (.tup xs) = if inOk h a xs then some (xs.any fun y => eqv y (view h a)) else if isDc h a && xs.all isS then some false else none := by cases a <;> rfl
  rw [this, if_pos e, view_isD pa.1]
@[simp] theorem in_lst {a : D} (pa : plD a) (h1 : isDs xs = true) (h2 : deeps xs ≤ 60) : in? h a (.lst xs) = some (xs.any fun y => eqv y a) := by
  have e := inOk_pl (h := h) pa h1 h2
  have : in? h a (.lst xs) = if inOk h a xs then some (xs.any fun y => eqv y (view h a)) else if isDc h a && xs.all isS then some false else none := by cases a <;> rfl
  rw [this, if_pos e, view_isD pa.1]
theorem any_texts {a : D} (ha : ∀ t, eqv (.str t) a = false) : ∀ {xs : List D}, xs.all isS = true → (xs.any fun y => eqv y a) = false
  | [], _ => rfl
  | x :: xs, e => by
    rw [List.all_cons, Bool.and_eq_true] at e
    rw [List.any_cons, any_texts ha e.2, Bool.or_false]
    obtain ⟨e1, _⟩ := e
    cases x <;> first | exact ha _ | cases e1
theorem in_texts {a : D} (ha : ∀ t, eqv (.str t) (view h a) = false) (hc : isDc h a = true) (e : xs.all isS = true) : in? h a (.tup xs) = some false := by
  have : in? h a (.tup xs) = if inOk h a xs then some (xs.any fun y => eqv y (view h a)) else if isDc h a && xs.all isS then some false else none := by cases a <;> first | rfl | cases hc
  rw [this]
  split
  · rw [any_texts ha e]
  · rw [hc, e]; rfl
@[simp] theorem in_dic {kvs : List (Ky × D)} (e : xs.all isS = true) : in? h (.dic kvs) (.tup xs) = some false := in_texts (fun t => rfl) rfl e
theorem in_tupS {ys : List D} (e : xs.all isS = true) : in? h (.tup ys) (.tup xs) = some false := in_texts (fun t => rfl) rfl e
theorem in_lstS {ys : List D} (e : xs.all isS = true) : in? h (.lst ys) (.tup xs) = some false := in_texts (fun t => rfl) rfl e
end
end Pu

namespace Pu
open PySem PySem.Spec PyProof.Rows L2

/-! ### a pen: the script, where it stands, what is left of a great cell -/
def penO (ns : List Int) (a r : Int) : O := .lst [.frz (ns.map D.int), .int a, .int r]
def Pen (b : Int) (t h : HH) : Prop := ∃ ns a r, h = penO ns a r :: t ∧ 0 ≤ a ∧ a ≤ b ∧ 0 ≤ r
theorem Pen.le {b c : Int} {t h : HH} (p : Pen b t h) (l : b ≤ c) : Pen c t h := by
  obtain ⟨ns, a, r, e, h1, h2, h3⟩ := p
  exact ⟨ns, a, r, e, h1, by omega, h3⟩
theorem Pen.pure {b : Int} {t h : HH} (p : Pen b t h) (ht : t.all (clO 0) = true) : h.all (clO 0) = true := by
  obtain ⟨ns, a, r, e, h1, h2, h3⟩ := p
  subst e
  rw [List.all_cons, ht, Bool.and_true]
  simp only [penO, clO, cls, cl, cls_ints, Bool.and_self]
/-- what draws a number -/
def Draws (F : Fn) : Prop := ∀ {b m : Int} {t h : HH} {q : D → HH → Prop}, Pen b t h → b < 1000000000000 → 0 < m → m < 2 ^ 250 →
  (∀ k h', 0 ≤ k → k < m → Pen (b + 1) t h' → q (.int k) h') → Wp q noE (F [.ref 0, .int m] h)
theorem Draws.of {F : Fn} (w : ∀ {ns : List Int} {a r m : Int} {t : HH} {Q : D → HH → Prop}, 0 ≤ a → a < 2 ^ 40 → 0 ≤ r → 0 < m → m < 2 ^ 250 →
    (∀ k a' r', 0 ≤ k → k < m → a ≤ a' → a' ≤ a + 1 → 0 ≤ r' → Q (.int k) (.lst [.frz (ns.map D.int), .int a', .int r'] :: t)) →
    Wp Q noE (F [.ref 0, .int m] (.lst [.frz (ns.map D.int), .int a, .int r] :: t))) : Draws F := by
  intro b m t h q p hb hm hm2 k
  obtain ⟨ns, a, r, e, h1, h2, h3⟩ := p
  subst e
  exact w h1 (by omega) h3 hm hm2 fun x a' r' x0 x1 l1 l2 l3 => k x _ x0 x1 ⟨ns, a', r', rfl, by omega, by omega, l3⟩
theorem Wp.app {α : Type} {q q' : α → HH → Prop} {e : String → HH → Prop} {r : R α} (w : Wp q noE r) (i : ∀ a h, q a h → q' a h) : Wp q' e r := wp_imp w i
/-- an evaluation of which the end is known -/
theorem wp_of_eq {α : Type} {q : α → HH → Prop} {e : String → HH → Prop} {r : R α} {a : α} {h : HH} (h1 : r = .ok a h) : Wp q e r ↔ q a h := by rw [h1]; exact Iff.rfl
end Pu

namespace Pu
open PySem PySem.Spec PyProof.Rows L2

/-! ### enumerate of a tuple -/
theorem enumNewB {v : Value} {o : Obj} {Hq : Heap → Prop} (B : Begins v o Hq) :
    Meets (Builtin.«enumerate.__new__» ⟨[.type "enumerate", v], []⟩) (fun _ R s => Hq s.heap ∧
      R (.ok (.ret (.ref (s.heap.push o).objs.size))) { s with heap := (s.heap.push o).push { cls := .type "enumerate", data := .fields #[.none, .bool false, .ref s.heap.objs.size, rawInt 0, .none, .none] } }) :=
  .of_wp fun pg wd Ar Rr sh hh => by
    obtain ⟨hp, ge, dr, tk, osx⟩ := sh
    obtain ⟨q1, hh⟩ := hh
    have hsub := sub_enumerate
    have ii : ∀ {A' : Around} {E : Value → Shared → Prop} {Q : Value → Shared → Prop}, Q (.ref hp.objs.size) ⟨hp.push o, ge, dr, tk, osx⟩ → wpAny (model pg wd) A' (pyIter v) Q E ⟨hp, ge, dr, tk, osx⟩ :=
      fun z => B.iter pg wd _ _ ⟨hp, ge, dr, tk, osx⟩ _ q1 z
    wp_walk using ii
    refine wpAny_stack_any fun stk => (wpAny_pure ?_)
    split
    · rename_i cc _ _ _ _ _
      cases (cc == Value.type "enumerate") <;> (wp_walk using ii; exact ⟨_, rfl, hh⟩)
    · wp_walk using ii
      exact ⟨_, rfl, hh⟩
theorem call_enumB {pg : Program} {wd : World} {Ar : Around} {E : Value → Shared → Prop} {s : Shared} {v : Value} {o : Obj} {Hq : Heap → Prop} {Q : Value → Shared → Prop} (B : Begins v o Hq) (h1 : Hq s.heap)
    (h : ∀ h', IsEnum h' (s.heap.objs.size + 1) s.heap.objs.size 0 .none → h'.get? s.heap.objs.size = some o → h'.objs.size = s.heap.objs.size + 2 →
      (∀ b ob, s.heap.get? b = some ob → h'.get? b = some ob) → Q (.ref (s.heap.objs.size + 1)) { s with heap := h' }) :
    wpAny (model pg wd) Ar (call (.type "enumerate") [v]) Q E s := by
  refine callType_new F.called_enumerate (by decide) (F.typeCall_enumerate_1 _) (F.newCall_enumerate_1 _) (fun obj => (F.args_object_init_2 obj _)) F.entry_enumerate_new (enumNewB B) ⟨h1, ?_⟩
  have sz1 : (s.heap.push o).objs.size = s.heap.objs.size + 1 := Heap.size_push ..
  show _ ∧ _
  rw [sz1]
  have he : IsEnum ((s.heap.push o).push { cls := .type "enumerate", data := .fields #[.none, .bool false, .ref s.heap.objs.size, rawInt 0, .none, .none] }) (s.heap.objs.size + 1) s.heap.objs.size 0 .none := by
    have z := Heap.get?_push_size (s.heap.push o) (o := { cls := .type "enumerate", data := .fields #[.none, .bool false, .ref s.heap.objs.size, rawInt 0, .none, .none] }) rfl
    rwa [sz1] at z
  refine ⟨⟨_, he, rfl⟩, h _ he (Heap.get?_push_of_some _ (Heap.get?_push_size _ B.free)) (by rw [Heap.size_push, sz1]) fun b ob z => ?_⟩
  exact Heap.get?_push_of_some _ (Heap.get?_push_of_some _ z)
/-- the tuple at a, n long, each item in a new pair -/
def IteT (K : PySem.W.Frag) (a : Addr) (n : Nat) : It :=
  ⟨fun i H => ∃ (xs : List V) (x : V), SqT K H a xs ∧ xs.length = n ∧ xs[i]? = some x,
    fun i H v H' => ∃ T x, v = .ref T ∧ H T = none ∧ H' = upd H T (.tup [.int (i : Nat), x]) ∧ ∀ xs, SqT K H a xs → xs[i]? = some x,
    fun i H => ∃ xs : List V, SqT K H a xs ∧ xs.length = n ∧ n ≤ i⟩
theorem turn_enumT {P : Program} {w : World} {K : PySem.W.Frag} {elts : List Expr} {kk : Nat} {tpos : Pos} (a e it : Addr) (n : Nat) (hai : a ≠ it) (hae : a ≠ e) :
    Turn P w K (.Tuple elts kk tpos) (IteT K a n) [e, it] e (fun i h => (∃ old, IsEnum h e it ((i : Nat) : Int) old) ∧ h.IsTupleIter it a i ∧ e ≠ it ∧ i ≤ n) where
  mem := by simp
  obj := fun i h st b hb => by
    obtain ⟨⟨old, he⟩, ⟨o, ho, hc, hd⟩, _⟩ := st
    rcases (show b = e ∨ b = it by simpa using hb) with rfl | rfl
    · exact ⟨_, he, fun v q => nomatch q⟩
    · exact ⟨o, ho, fun v q => by rw [hd] at q; cases q⟩
  keep := fun i h h' st k => by
    obtain ⟨⟨old, he⟩, hi, hne, hl⟩ := st
    exact ⟨⟨old, k e (by simp) _ he⟩, hi.at fun o q => k it (by simp) o q, hne, hl⟩
  item := by
    intro X hP hw hK hc i pins s σ H E I hf st hg
    subst hP hw hK
    obtain ⟨⟨old, he⟩, hit, hne, hl⟩ := st
    obtain ⟨xs, x, hq, hn, hx⟩ := hg
    obtain ⟨its, rv, p, hz⟩ := I.tuple hq
    have hlen := rv.length
    have hin : i < its.toArray.size := by
      have := (List.getElem?_eq_some_iff.mp hx).1
      simp; omega
    have hel : e < s.heap.objs.size := Heap.lt_size he
    have hil : it < s.heap.objs.size := by obtain ⟨_, q, _⟩ := hit; exact Heap.lt_size q
    have hh : X.A.in1.handled = none := I.ok.hd hc
    have Dr := Draws.tuple (prog := X.prog) (w := X.w) hh it a hai its.toArray
    refine wpAny_pyNext_enum_itemC Dr he ⟨hit, p⟩ hin hne (by simp; exact ⟨hne, fun z => hae z.symm⟩) fun u h' tk hu ho hst hT hsz hk => ?_
    have ru : RelV x u := by
      obtain ⟨u', hu', ru⟩ := rv.get hx
      have : u' = u := by
        have h2 : its[i]? = some u := by simpa using hu
        rw [hu'] at h2; exact Option.some.inj h2
      rw [← this]; exact ru
    refine ⟨_, rfl, wpAny_letOwnedTupleGo_enum (s := { s with heap := h', toks := tk + 1 }) ho fun h'' he' sb => ?_⟩
    have hT2 : h''.get? s.heap.objs.size = some { cls := .type "tuple", data := .seq #[.int i tk, u] } := (sb.2 _ (Nat.ne_of_gt hel)).trans hT
    have new : ObjOk X.prog X.w (upd H s.heap.objs.size (.tup [.int (i : Nat), x])) h'' s.heap.objs.size (.tup [.int (i : Nat), x]) :=
      ⟨by show 2 ≤ sizeLine; decide, [.int i tk, u], .cons ⟨_, rfl⟩ (.cons ru .nil), ⟨_, hT2, rfl, _, rfl⟩⟩
    have I1 : Inv X pins σ (upd H s.heap.objs.size (.tup [.int (i : Nat), x])) { s with heap := h'', toks := tk + 1 } :=
      I.turnedNew (ch := [e, it]) (fun b ob hb q => (sb.2 b fun z => hb (by simp [z])).trans (hk b ob (fun z => hb (by simp [z])) (fun z => hb (by simp [z])) q)) hf (Nat.le_refl _) new
    refine ⟨.ref s.heap.objs.size, _, I1, rfl, ⟨_, x, rfl, I.hok.fresh (Nat.le_refl _), rfl, fun ys hy => by rw [I.tuple_inj hy hq]; exact hx⟩, ⟨⟨u, ?_⟩, hst.1.at fun o q => (sb.2 it hne.symm).trans q, hne, ?_⟩, fun b hb => ?_⟩
    · have e1 : ((i + 1 : Nat) : Int) = (i : Int) + 1 := by omega
      rw [e1]; exact he'
    · simp at hin; omega
    · have hb' : b < s.heap.objs.size := by
        rcases (show b = e ∨ b = it by simpa using hb) with rfl | rfl
        · exact hel
        · exact hil
      rw [upd_ne (Nat.ne_of_lt hb')]
      exact (hf b hb).1
  done := by
    intro X hP hw hK hc i pins s σ H E I hf st hg
    subst hP hw hK
    obtain ⟨⟨old, he⟩, hit, hne, hl⟩ := st
    obtain ⟨xs, hq, hn, hx⟩ := hg
    obtain ⟨its, rv, p, hz⟩ := I.tuple hq
    have hlen := rv.length
    obtain ⟨f0, f1, f2, f3, f4, f5⟩ := hf it (by simp)
    have hh : X.A.in1.handled = none := I.ok.hd hc
    have Dr := Draws.tuple (prog := X.prog) (w := X.w) hh it a hai its.toArray
    have hi : i = its.toArray.size := by simp; omega
    exact wpAny_pyNext_enum_endD Dr he (by rw [← hi]; exact ⟨hit, p⟩) fun h' eb => ⟨rfl, I.turned (t' := s.toks) (fun b o hb q => eb b o hb q) f0 f1 f3 f4 f5⟩
  self := fun A i s Q E st h => let ⟨⟨_, he⟩, _⟩ := st; wpAny_pyIter_enum he h
def iEnumB (K : PySem.W.Frag) (ta : TA) : TI := fun σ H R => ta σ H fun vs H1 => ∃ a xs, vs = [.ref a] ∧ ((SqL K H1 a xs ∧ R (Ite K a) H1) ∨ (SqT K H1 a xs ∧ R (IteT K a xs.length) H1))
theorem pi_enumB {X : Cx} {e : Expr} {ta : TA} {p pos tpos : Pos} {elts : List Expr} {kk : Nat} (hg : Gl X "enumerate") (hm : X.mg "enumerate" = none) (ha : PA X [e] ta) (hs : starEach [e] X.env = [(false, eval e X.env)] := by rfl) :
    PI X (.Tuple elts kk tpos) (.Call (.Name "enumerate" p) [e] [] pos) (iEnumB X.K ta) := by
  refine ⟨fun pins s σ H R I h => ?_⟩
  refine Call_ (ld_blt I hg hm boot_enumerate (callWith_type1 (thn (ha.run pos pins s σ H _ I h) fun us s1 ⟨vs, H1, I1, r1, q1⟩ => ?_) hs rfl))
  obtain ⟨a, xs, ex, q⟩ := q1
  subst ex
  cases r1 with
  | cons r rr =>
    cases rr
    cases r
    have fresh : ∀ b ∈ [s1.heap.objs.size + 1, s1.heap.objs.size], FpOk X pins H1 b := fun b hb => by
      have hle : s1.heap.objs.size ≤ b := by
        rcases (show b = s1.heap.objs.size + 1 ∨ b = s1.heap.objs.size by simpa using hb) with z | z <;> omega
      exact I1.fpOk hle (I1.hok.fresh hle)
    rcases q with ⟨hq, q⟩ | ⟨hq, q⟩
    · obtain ⟨its, rv, p', hz⟩ := I1.list hq
      refine call_enumerate_list p'.isList fun h' he hit hsz hk => wpAny_pyIter_enum he ?_
      have I2 : Inv X pins σ H1 { s1 with heap := h' } := I1.kept (t' := s1.toks) hk
      exact ⟨_, [s1.heap.objs.size + 1, s1.heap.objs.size], _, _, H1, rfl, I2, turn_enum a (s1.heap.objs.size + 1) s1.heap.objs.size, ⟨⟨.none, he⟩, hit, Nat.succ_ne_self _⟩, fresh, q⟩
    · obtain ⟨its, rv, p', hz⟩ := I1.tuple hq
      have hal : a < s1.heap.objs.size := by obtain ⟨_, q, _⟩ := id p'; exact Heap.lt_size q
      refine call_enumB (begins_tuple a its.toArray) p' fun h' he ho hsz hk => wpAny_pyIter_enum he ?_
      have I2 : Inv X pins σ H1 { s1 with heap := h' } := I1.kept (t' := s1.toks) hk
      exact ⟨_, [s1.heap.objs.size + 1, s1.heap.objs.size], _, _, H1, rfl, I2, turn_enumT a (s1.heap.objs.size + 1) s1.heap.objs.size xs.length (Nat.ne_of_lt hal) (Nat.ne_of_lt (Nat.lt_succ_of_lt hal)), ⟨⟨.none, he⟩, ⟨_, ho, rfl, rfl⟩, Nat.succ_ne_self _, Nat.zero_le _⟩, fresh, q⟩
def iEnum8 (f : Exs) : Ei := fun env h => (f env h).bind fun ds h1 => match ds with
  | [.tup xs] => .ok ⟨numb 0 xs, []⟩ h1
  | [a] => ofO (itemsL h1 a) fun xs => .ok ⟨numb 0 xs, chkD a xs⟩ h1
  | _ => .stuck
theorem wk_enumT {K : PySem.W.Frag} {a : Addr} {n : Nat} : Walk (IteT K a n) n (fun H => ∃ vs, vs.length = n ∧ SqT K H a vs) (fun i H x H' => ∃ T y, x = .ref T ∧ H T = none ∧ H' = upd H T (.tup [.int (i : Nat), y]) ∧ ∀ vs, SqT K H a vs → vs[i]? = some y) :=
  ⟨fun i _ hi ⟨vs, e, q⟩ => ⟨vs, vs[i]'(by omega), q, e, List.getElem?_eq_getElem _⟩, fun _ ⟨vs, e, q⟩ => ⟨vs, q, e, Nat.le_refl _⟩, fun _ _ _ _ _ _ y => y⟩
section
variable {X : Cx} {W : WX} {k : Nat}
theorem si_enum {e : Expr} {f : Exs} {p pos tpos : Pos} {elts : List Expr} {kk : Nat} (hg : Gl X "enumerate") (hm : X.mg "enumerate" = none) (ha : SA X W [e] f) (hs : starEach [e] X.env = [(false, eval e X.env)] := by rfl) :
    SI X W (.Tuple elts kk tpos) (.Call (.Name "enumerate" p) [e] [] pos) (iEnum8 f) := PI.mono (pi_enumB hg hm ha.pa hs) fun σ H R hh => by
  obtain ⟨T, env, h, r1, r2, a⟩ := hh
  refine ⟨T, env, h, r1, r2, a.bind r1.mut fun ds h1 T1 H1 vs e l1 q1 rvs a1 => ?_⟩
  split at a1
  · rename_i xs
    obtain ⟨v, rfl, rv⟩ := rels_one rvs
    obtain ⟨p1, rfl, s1⟩ := tup_stay q1 rv
    obtain ⟨vs1, t1, w1⟩ := s1 T1 H1 Le.refl
    have hl : vs1.length = xs.length := rels_length w1
    refine ⟨p1, vs1, rfl, .inr ⟨t1, After.done a1 q1 ?_⟩⟩
    refine ⟨_, _, by rw [numb_len, hl]; exact wk_enumT, fun T3 H3 h3 l3 r3 hc => ?_, fun i H3 x H' hi y T3 h3 l3 r3 hc => ?_⟩
    · obtain ⟨ws1, t1, r1⟩ := s1 T3 H3 l3
      exact ⟨ws1, rels_length r1, t1⟩
    · obtain ⟨ws1, t1, w1⟩ := s1 T3 H3 l3
      obtain ⟨T', x', rfl, hp, rfl, y1⟩ := y
      obtain ⟨d1, g1, k1⟩ := rels_back w1 (y1 _ t1)
      obtain ⟨z1, z2, z3⟩ := Le.tup r3 hp (rels_cons (d := .int ((i : Nat) : Int)) (rel_int_iff.mpr rfl) (rels_cons k1 rels_nil)) rfl
      refine ⟨_, ?_, z1, z2, z3⟩
      have := numb_get (k := 0) g1
      rw [Nat.zero_add] at this
      exact this
  · obtain ⟨xs, e1, a1⟩ := After.ofO a1
    obtain ⟨v, rfl, rv⟩ := rels_one rvs
    obtain ⟨p1, rfl, s1⟩ := itemsL_stay q1 rv e1
    obtain ⟨vs1, t1, _⟩ := s1 T1 H1 h1 Le.refl q1 (chkOk_self e1)
    refine ⟨p1, vs1, rfl, .inl ⟨t1, After.done a1 q1 ?_⟩⟩
    refine ⟨_, _, by rw [numb_len]; exact wk_enum, fun T3 H3 h3 l3 r3 hc => ?_, fun i H3 x H' hi y T3 h3 l3 r3 hc => ?_⟩
    · obtain ⟨ws1, t1, r1⟩ := s1 T3 H3 h3 l3 r3 hc
      exact ⟨ws1, rels_length r1, t1⟩
    · obtain ⟨ws1, t1, w1⟩ := s1 T3 H3 h3 l3 r3 hc
      obtain ⟨T', x', rfl, hp, rfl, y1⟩ := y
      obtain ⟨d1, g1, k1⟩ := rels_back w1 (y1 _ t1)
      obtain ⟨z1, z2, z3⟩ := Le.tup r3 hp (rels_cons (d := .int ((i : Nat) : Int)) (rel_int_iff.mpr rfl) (rels_cons k1 rels_nil)) rfl
      refine ⟨_, ?_, z1, z2, z3⟩
      have := numb_get (k := 0) g1
      rw [Nat.zero_add] at this
      exact this
  · exact False.elim a1
end
end Pu

namespace Pu
open PySem PySem.Spec PyProof.Rows L2

/-! ### sorted(set(xs)), xs a list of whole numbers -/
section
variable {Pg : Program} {wd : World} {Ar : Around} {Ee : Value → Shared → Prop} {st : Shared}
theorem setLi {la : Addr} {itms : Array Value} (nums : List Int) {Qp : Value → Shared → Prop} (nox : Ar.handled = none) (isl : st.heap.IsList la itms) (intl : IntsAre itms.toList nums) (small : nums.length + 1 < scanBound)
    (fin : ∀ (hp' : Heap) (tok c : Nat), SetR wd hp' st.heap.objs.size (fun j => decide (j ∈ nums)) c → c ≤ nums.length → (∀ b o, st.heap.get? b = some o → hp'.get? b = some o) → Qp (.ref st.heap.objs.size) { st with heap := hp', toks := tok }) :
    wpAny (model Pg wd) Ar (call (.type "set") [.ref la]) Qp Ee st := by
  have lens : itms.size = nums.length := by
    have q := IntsAre.length intl
    rw [Array.length_toList] at q
    exact q
  obtain ⟨c, tl, mro1⟩ := F.called_set.mro
  have made1 := F.called_set.made
  have sub1 := F.called_set.sub
  refine wpAny_call (codeAny_of_tree (show wpAny _ _ (callAny (.type "set") _) _ _ _ from ?_))
  refine wpAny_pure ⟨Code.quiet_builtin _ (by decide +kernel), (codeAny_builtin F.entry_type_call ?_)⟩
  rw [Around.under_plain (weight_type_call_type "set" [.ref la] []) rfl]
  have h1 := F.called_set.notType
  have h2 := F.called_set.canCreate
  have hct := F.typeCall_set_1 (.ref la)
  repeat (any_goals first | assumption | wp_step)

  refine codeAny_mono (code_set_led1 (.ref la) (E := Ee) (Q₁ := fun ob0 s₁ => ob0 = .ref st.heap.objs.size ∧ s₁ = { st with heap := st.heap.push { cls := .type "set", dict := none, data := .set #[] 0 (.fresh 0 0 (!wd.params.followText "set-order")) } }) ⟨rfl, rfl⟩) fun rs s₁ rr0 => ?_
  cases rs with
  | error er => exact rr0
  | ok fl0 =>
    cases fl0 with
    | ret ob0 =>
      obtain ⟨rfl, rfl⟩ := rr0
      have gotS : (st.heap.push { cls := .type "set", dict := none, data := .set #[] 0 (.fresh 0 0 (!wd.params.followText "set-order")) }).get? st.heap.objs.size = some { cls := .type "set", dict := none, data := .set #[] 0 (.fresh 0 0 (!wd.params.followText "set-order")) } := Heap.get?_push_size _ rfl
      have tyS : Shared.TypeIs { st with heap := st.heap.push { cls := .type "set", dict := none, data := .set #[] 0 (.fresh 0 0 (!wd.params.followText "set-order")) } } (.ref st.heap.objs.size) "set" := ⟨_, gotS, rfl⟩
      have hli := F.called_set.init.lookup
      have hbi := F.called_set.init.bind (.ref st.heap.objs.size)
      repeat (any_goals first | assumption | wp_step)

      refine codeAny_mono (codeAny_call_builtin (R := wants (fun rs s₂ => rs = .none ∧ ∃ hp' tok c, s₂ = { st with heap := hp', toks := tok } ∧ SetR wd hp' st.heap.objs.size (fun j => decide (j ∈ nums)) c ∧ c ≤ nums.length ∧
          (∀ b o, st.heap.get? b = some o → hp'.get? b = some o)) Ee) F.called_set.init.plain F.entry_set_init (check_set_init_1 tyS ?_)) fun r₂ s₂ hr₂ => ?_
      · obtain ⟨olist, golist, clist, nlist, dlist⟩ := isl
        obtain ⟨ocls, odict, odata, oslots⟩ := olist
        simp only at clist dlist
        subst clist; subst dlist
        have hol' : (st.heap.push { cls := .type "set", dict := none, data := .set #[] 0 (.fresh 0 0 (!wd.params.followText "set-order")) }).get? la = some { cls := .type "list", dict := odict, data := .seq itms nlist, slots := oslots } := Heap.get?_push_of_some _ golist
        have subS := F.sub_list_set
        have subF := F.sub_list_frozenset
        have neD : (Value.type "list" == Value.type "dict") = false := by decide
        have isl1 : (st.heap.push { cls := .type "set", dict := none, data := .set #[] 0 (.fresh 0 0 (!wd.params.followText "set-order")) }).IsList la itms := ⟨_, hol', rfl, nlist, rfl⟩
        unfold Builtin.«set.__init__» noKeywords Builtin.Frozenset.updateFrom
        generalize gPI : pyIter = pIt
        wp_walk
        subst gPI

        refine wpAny_pyIter_list isl1 ?_
        refine wpAny_bind (wpAny_runValue ?_)
        have ltS : la < st.heap.objs.size := Heap.lt_size golist
        have nox3 : Ar.in1.in1.in1.handled = none := by simp [nox]
        have size1 : (st.heap.push { cls := .type "set", dict := none, data := .set #[] 0 (.fresh 0 0 (!wd.params.followText "set-order")) }).objs.size = st.heap.objs.size + 1 := Heap.size_push ..
        have neqI : la ≠ (st.heap.push { cls := .type "set", dict := none, data := .set #[] 0 (.fresh 0 0 (!wd.params.followText "set-order")) }).objs.size := by
          rw [Heap.size_push]; exact Nat.ne_of_lt (Nat.lt_succ_of_lt ltS)
        have notin : st.heap.objs.size ∉ [(st.heap.push { cls := .type "set", dict := none, data := .set #[] 0 (.fresh 0 0 (!wd.params.followText "set-order")) }).objs.size, la] := by
          rw [Heap.size_push]; simp only [List.mem_cons, List.mem_singleton, List.not_mem_nil, or_false, not_or]
          exact ⟨Nat.ne_of_lt (Nat.lt_succ_self _), Nat.ne_of_gt ltS⟩
        have vals0 : ∀ (i : Nat) (v : Value), itms[i]? = some v → ∃ k t, nums[i]? = some k ∧ v = .int k t := fun i v hv => by
          have hi : i < nums.length := by rw [← lens]; exact (Array.getElem?_eq_some_iff.mp hv).1
          obtain ⟨t, er⟩ := PyProof.Rows.IntsAre.int_at intl i v (by rw [Array.getElem?_toList]; exact hv)
          refine ⟨nums[i], t, List.getElem?_eq_getElem hi, ?_⟩
          rw [er, List.getD_eq_getElem?_getD, List.getElem?_eq_getElem hi] <;> rfl
        refine set_update_ints ((Walks.list nox3 _ la neqI itms).toS) st.heap.objs.size
          notin nums lens small vals0 (itms.size - 0) 0 _ (by omega) (Nat.zero_le _)
          ⟨⟨_, Heap.get?_push_size _ rfl, rfl, rfl⟩, (isl1.push _)⟩ ?hS0 ?hR
        case hS0 =>
          have getS : ((st.heap.push { cls := .type "set", dict := none, data := .set #[] 0 (.fresh 0 0 (!wd.params.followText "set-order")) }).push { cls := .type "list_iterator", data := .fields #[.ref la, .int 0 0] }).get? st.heap.objs.size
              = some { cls := .type "set", dict := none, data := .set #[] 0 (.fresh 0 0 (!wd.params.followText "set-order")) } := Heap.get?_push_of_some _ gotS
          exact ⟨0, Nat.le_refl 0, setR_new_at getS⟩
        case hR =>
          intro st' cnt' mvd cle' setR'
          obtain ⟨hp', g2, d', tk', os'⟩ := st'
          have eqg : g2 = st.gens := mvd.gens
          have eqd : d' = st.drawn := mvd.drawn
          have eqo : os' = st.os := mvd.os
          subst eqg; subst eqd; subst eqo
          show wpAny _ _ _ _ _ _
          refine wpAny_pure ?_
          show wpAny _ _ (ret Value.none) _ _ _
          rw [lens] at cle'
          refine wpAny_pure ⟨rfl, hp', tk', cnt', rfl, setR', cle', fun b o er => ?_⟩
          have lt0 : b < st.heap.objs.size := Heap.lt_size er
          have ne1 : b ≠ st.heap.objs.size := Nat.ne_of_lt lt0
          have ne2 : b ≠ (st.heap.push { cls := .type "set", dict := none, data := .set #[] 0 (.fresh 0 0 (!wd.params.followText "set-order")) }).objs.size := by
            rw [Heap.size_push]; exact Nat.ne_of_lt (Nat.lt_succ_of_lt lt0)
          exact mvd.heap b o (by simp only [List.mem_cons, List.mem_singleton, List.not_mem_nil, or_false, not_or]; exact ⟨ne1, ne2⟩) (Heap.get?_push_of_some _ (Heap.get?_push_of_some _ er))

      · cases r₂ with
        | error er => exact hr₂
        | ok fl₂ =>
          cases fl₂ with
          | ret rs =>
            obtain ⟨rfl, hp', tok, cnt', rfl, setR', cle', hk'⟩ := hr₂
            repeat (any_goals first | assumption | wp_step)
            exact fin _ _ _ setR' cle' hk'
          | _ => exact hr₂.elim
    | _ => exact rr0.elim


end
end Pu

namespace Pu
open PySem PySem.Spec PyProof.Rows L2

/-! ### sorted lists of whole numbers -/
def insU (k : Int) : List Int → List Int
  | [] => [k]
  | a :: l => if k < a then k :: a :: l else if k = a then a :: l else a :: insU k l
def sortU (ns : List Int) : List Int := ns.foldr insU []
theorem insU_mem {k j : Int} : ∀ {l : List Int}, j ∈ insU k l ↔ j = k ∨ j ∈ l
  | [] => by simp [insU]
  | a :: l => by
    unfold insU
    split
    · simp
    · split
      · rename_i h; subst h; simp
      · simp only [List.mem_cons, insU_mem (l := l)]
        constructor
        · rintro (h | h | h)
          · exact .inr (.inl h)
          · exact .inl h
          · exact .inr (.inr h)
        · rintro (h | h | h)
          · exact .inr (.inl h)
          · exact .inl h
          · exact .inr (.inr h)
theorem insU_sorted {k : Int} : ∀ {l : List Int}, l.Pairwise (· < ·) → (insU k l).Pairwise (· < ·)
  | [], _ => by simp [insU]
  | a :: l, h => by
    have h' := List.pairwise_cons.mp h
    unfold insU
    split
    · rename_i hk
      refine List.pairwise_cons.mpr ⟨fun b hb => ?_, h⟩
      rcases List.mem_cons.mp hb with e | e
      · rw [e]; exact hk
      · exact Int.lt_trans hk (h'.1 b e)
    · split
      · exact h
      · rename_i h1 h2
        refine List.pairwise_cons.mpr ⟨fun b hb => ?_, insU_sorted h'.2⟩
        rcases insU_mem.mp hb with e | e
        · rw [e]; omega
        · exact h'.1 b e
theorem sortU_mem {j : Int} : ∀ {ns : List Int}, j ∈ sortU ns ↔ j ∈ ns
  | [] => by simp [sortU]
  | a :: l => by
    have ih := sortU_mem (j := j) (ns := l)
    unfold sortU at ih ⊢
    rw [List.foldr_cons, insU_mem, ih, List.mem_cons]
theorem sortU_sorted : ∀ ns : List Int, (sortU ns).Pairwise (· < ·)
  | [] => by simp [sortU]
  | a :: l => by
    have ih := sortU_sorted l
    unfold sortU at ih ⊢
    rw [List.foldr_cons]
    exact insU_sorted ih
theorem sorted_ext : ∀ {l m : List Int}, l.Pairwise (· < ·) → m.Pairwise (· < ·) → (∀ k, k ∈ l ↔ k ∈ m) → l = m
  | [], [], _, _, _ => rfl
  | [], b :: m, _, _, h => by have := (h b).mpr (by simp); simp at this
  | a :: l, [], _, _, h => by have := (h a).mp (by simp); simp at this
  | a :: l, b :: m, h1, h2, h => by
    have h1' := List.pairwise_cons.mp h1
    have h2' := List.pairwise_cons.mp h2
    have e : a = b := by
      rcases List.mem_cons.mp ((h a).mp (by simp)) with e | e
      · exact e
      · rcases List.mem_cons.mp ((h b).mpr (by simp)) with e2 | e2
        · exact e2.symm
        · have := h2'.1 a e
          have := h1'.1 b e2
          omega
    subst e
    refine congrArg (a :: ·) (sorted_ext h1'.2 h2'.2 fun k => ⟨fun hk => ?_, fun hk => ?_⟩)
    · rcases List.mem_cons.mp ((h k).mp (by simp [hk])) with e | e
      · have := h1'.1 k hk; omega
      · exact e
    · rcases List.mem_cons.mp ((h k).mpr (by simp [hk])) with e | e
      · have := h2'.1 k hk; omega
      · exact e
def fSortSet (f : Ex) : Exs := fun env h => (f env h).bind fun d h1 => ofO (itemsL h1 d) fun xs => ofO (intsD xs) fun ns => if ns.length < 63 then .ok ((sortU ns).map D.int) h1 else .stuck
theorem rels_ints' {K : PySem.W.Frag} {T : Tk} {H : Hp} (ns : List Int) : rels K T H (ns.map D.int) (ns.map V.int) := rels_ofInts ns
section
variable {X : Cx} {W : WX} {k : Nat}
theorem sf_sortset (C : Cok X W k) {e : Expr} {f : Ex} {p p2 q pos : Pos} (hg : Gl X "sorted") (hm : X.mg "sorted" = none) (hg2 : Gl X "set") (hm2 : X.mg "set" = none) (he : SE X W e f)
    (na : starEach [e] X.env = (false, eval e X.env) :: starEach [] X.env := by rfl) : SF X W (.Call (.Name "sorted" p) [.Call (.Name "set" p2) [e] [] q] [] pos) (fSortSet f) := by
  refine ⟨fun pins s σ H Q I hh => ?_⟩
  obtain ⟨T, env, h, r1, r2, a⟩ := hh
  refine Call_ (ld_blt I hg hm boot_sorted ?_)
  refine callWith_builtin1 (args_cons ?_ rfl) rfl rfl
  refine Call_ (ld_blt I hg2 hm2 boot_set ?_)
  refine callWith_type1 (args_cons (thn (he.run pins s σ H (fun v H1 => ∃ T1 h1 d, Le T H T1 H1 ∧ RelH X.K T1 H1 h1 ∧ rel X.K T1 H1 d v ∧ After X.K X.mg W T H σ (qF X.K H) Q (ofO (itemsL h1 d) fun xs => ofO (intsD xs) fun ns => if ns.length < 63 then .ok ((sortU ns).map D.int) h1 else .stuck)) I
    ⟨T, env, h, r1, r2, After.bind0 a fun d h1 T1 H1 v _ l1 q1 rv a1 => ⟨T1, h1, d, l1, q1, rv, a1⟩⟩) fun v s1 ⟨x, H1, I1, rx, T1, h1, d, l1, q1, rv, a1⟩ => args_nil ?_) na) na rfl
  obtain ⟨xs, e1, a1⟩ := a1.ofO
  obtain ⟨ns, e2, a1⟩ := a1.ofO
  by_cases hl : ns.length < 63
  · rw [if_pos hl] at a1
    obtain ⟨b, ws, rfl, sq, rr⟩ := rel_itemsL q1 rv e1
    rw [rels_ints rr e2] at sq
    cases rx
    obtain ⟨its, r, pl, hz⟩ := I1.list sq
    refine setLi ns (I1.ok.hd C.calm) pl.isList (by simpa using RZ.intsAre_vals r) (by unfold scanBound; omega) fun h' tk c hS hc hk => ?_
    refine args_nil ?_
    have I2 : Inv X pins σ H1 { s1 with heap := h', toks := tk } := I1.kept hk
    refine sorted_set hS (I2.ok.hd C.calm) (by omega) fun s' p' out c' ns' k' g o hp hgt hi hs hm' hl' => ?_
    have es : ns' = sortU ns := sorted_ext hs (sortU_sorted ns) fun j => by rw [hm' j, sortU_mem, decide_eq_true_eq]
    subst es
    have hlen : ((sortU ns).map V.int).length ≤ sizeLine := by rw [List.length_map, hl', sizeLine_eq]; omega
    have hn : H1 p' = none := I2.hok.fresh hp
    have new : ObjOk X.prog X.w (upd H1 p' (.lst ((sortU ns).map V.int))) s'.heap p' (.lst ((sortU ns).map V.int)) := ⟨hlen, out.toList, c', vals_of_ints hi, hgt⟩
    have J : Inv X pins σ (upd H1 p' (.lst ((sortU ns).map V.int))) s' := I2.call' (ch := []) o (Un.laid k' hp hn) (I2.hok.laid k' hp new) (by rw [g]; exact I2.bare) fun _ z => nomatch z
    refine ⟨.ref p', _, J, rfl, ?_⟩
    exact a1 (T1.blk p') (upd H1 p' (.lst ((sortU ns).map V.int))) _ (l1.trans r1.mut (Le.blk hn)) (q1.blk hn) ⟨p', _, rfl, upd_same, fun z => q1.mut.free hn (q1.sub p' z), .inr rfl, l1.was q1.mut hn, rels_ofInts _⟩
  · rw [if_neg hl] at a1; exact a1.elim
end
@[simp ↓] theorem wp_fSortSet {f : Ex} {env : En} {h : HH} {qs : List D → HH → Prop} {e : String → HH → Prop} : Wp qs e (fSortSet f env h) ↔ Wp (fun d h1 => Wo (fun xs => Wo (fun ns => ns.length < 63 ∧ qs ((sortU ns).map D.int) h1) (intsD xs)) (itemsL h1 d)) e (f env h) := by
  unfold fSortSet
  rw [wp_bind]
  exact wp_congr fun d h1 => wp_wo fun xs => wp_wo fun ns => wp_if
def enD (h : HH) (ds : List D) : Option IT := match ds with
  | [.tup xs] => some ⟨numb 0 xs, []⟩
  | [a] => (itemsL h a).map fun xs => ⟨numb 0 xs, chkD a xs⟩
  | _ => none
@[simp] theorem enD_t {h : HH} {xs : List D} : enD h [.tup xs] = some ⟨numb 0 xs, []⟩ := rfl
@[simp] theorem enD_l {h : HH} {xs : List D} : enD h [.lst xs] = some ⟨numb 0 xs, []⟩ := rfl
@[simp ↓] theorem wp_iEnum8 {as : Exs} {env : En} {h : HH} {qi : IT → HH → Prop} {e : String → HH → Prop} : Wp qi e (iEnum8 as env h) ↔ Wp (fun ds h1 => Wo (fun x => qi x h1) (enD h1 ds)) e (as env h) := by
  unfold iEnum8
  rw [wp_bind]
  refine wp_congr fun ds h1 => ?_
  split
  · rfl
  · rename_i a hn
    rw [enD.eq_2 h1 a hn]
    cases itemsL h1 a <;> rfl
  · rename_i h2 h3
    rw [enD.eq_3 h1 ds h2 h3]
    rfl
end Pu

namespace Pu
open PySem PySem.Spec PyProof.Rows L2
section
variable {X : Cx} {W : WX} {k : Nat}
/-! ### xs[::-1] of a list -/
def fRevL (f : Ex) : Exs := fun env h => (f env h).bind fun d h1 => ofO (itemsL h1 d) fun xs => .ok xs.reverse h1
theorem sf_rev {e : Expr} {f : Ex} {j : Nat} {p1 p2 p3 pos : Pos} (he : SE X W e f) : SF X W (.Subscript e (.Slice none none (some (.UnaryOp .USub (.Constant (.int 1) j p1) p2)) p3) pos) (fRevL f) :=
  PE.mono (pe_revL he) fun σ H Q hh => by
    obtain ⟨T, env, h, r1, r2, a⟩ := hh
    refine ⟨T, env, h, r1, r2, a.bind0 fun d h1 T1 H1 v _ l1 q1 rv a1 => ?_⟩
    obtain ⟨xs, e1, a1⟩ := a1.ofO
    obtain ⟨b, ws, rfl, sq, rr⟩ := rel_itemsL q1 rv e1
    refine ⟨b, ws, rfl, sq, fun p hp => ?_⟩
    exact a1 (T1.blk p) (upd H1 p (.lst ws.reverse)) _ (l1.trans r1.mut (Le.blk hp)) (q1.blk hp) ⟨p, _, rfl, upd_same, fun z => q1.mut.free hp (q1.sub p z), .inr rfl, l1.was q1.mut hp, rels_mono (Le.blk hp) q1.mut _ _ (rels_reverse rr)⟩
/-! ### sorted(xs), a list of whole numbers -/
def insM (k : Int) : List Int → List Int
  | [] => [k]
  | a :: l => if k ≤ a then k :: a :: l else a :: insM k l
def sortM (ns : List Int) : List Int := ns.foldr insM []
theorem insM_perm {k : Int} : ∀ l : List Int, (insM k l).Perm (k :: l)
  | [] => .refl _
  | a :: l => by
    unfold insM
    split
    · exact .refl _
    · exact ((insM_perm l).cons a).trans (.swap k a l)
theorem sortM_perm : ∀ ns : List Int, (sortM ns).Perm ns
  | [] => .refl _
  | a :: l => by
    have ih := sortM_perm l
    unfold sortM at ih ⊢
    rw [List.foldr_cons]
    exact (insM_perm _).trans (ih.cons a)
theorem insM_sorted {k : Int} : ∀ {l : List Int}, l.Pairwise (· ≤ ·) → (insM k l).Pairwise (· ≤ ·)
  | [], _ => by simp [insM]
  | a :: l, h => by
    have h' := List.pairwise_cons.mp h
    unfold insM
    split
    · rename_i hk
      refine List.pairwise_cons.mpr ⟨fun b hb => ?_, h⟩
      rcases List.mem_cons.mp hb with e | e
      · rw [e]; exact hk
      · exact Int.le_trans hk (h'.1 b e)
    · rename_i hk
      refine List.pairwise_cons.mpr ⟨fun b hb => ?_, insM_sorted h'.2⟩
      rcases List.mem_cons.mp ((insM_perm l).mem_iff.mp hb) with e | e
      · rw [e]; omega
      · exact h'.1 b e
theorem sortM_sorted : ∀ ns : List Int, (sortM ns).Pairwise (· ≤ ·)
  | [] => by simp [sortM]
  | a :: l => by
    have ih := sortM_sorted l
    unfold sortM at ih ⊢
    rw [List.foldr_cons]
    exact insM_sorted ih
theorem sortedM_ext : ∀ {l m : List Int}, l.Pairwise (· ≤ ·) → m.Pairwise (· ≤ ·) → l.Perm m → l = m
  | [], m, _, _, h => h.nil_eq
  | a :: l, [], _, _, h => by have := h.length_eq; simp at this
  | a :: l, b :: m, h1, h2, h => by
    have h1' := List.pairwise_cons.mp h1
    have h2' := List.pairwise_cons.mp h2
    have e : a = b := by
      have m1 : a ∈ b :: m := h.mem_iff.mp (by simp)
      have m2 : b ∈ a :: l := h.mem_iff.mpr (by simp)
      rcases List.mem_cons.mp m1 with e | e
      · exact e
      · rcases List.mem_cons.mp m2 with e2 | e2
        · exact e2.symm
        · have := h2'.1 a e
          have := h1'.1 b e2
          omega
    subst e
    exact congrArg (a :: ·) (sortedM_ext h1'.2 h2'.2 h.cons_inv)
def fSortI (f : Exs) : Exs := fun env h => (f env h).bind fun ds h1 => ofO (match ds with | [d] => (itemsL h1 d).bind intsD | _ => none) fun ns => .ok ((sortM ns).map D.int) h1
theorem sf_sortI {e : Expr} {f : Exs} {p pos : Pos} (C : Cok X W k) (hg : Gl X "sorted") (hm : X.mg "sorted" = none) (ha : SA X W [e] f)
    (he : starEach [e] X.env = (false, eval e X.env) :: starEach [] X.env := by rfl) (hpl : (backTo pos (starEach [] X.env)).any (·.1) = false := by rfl) : SF X W (.Call (.Name "sorted" p) [e] [] pos) (fSortI f) :=
  PE.mono (pe_callB cr_sortedI hg hm boot_sorted ha.pa (by decide) (by decide) he hpl) fun σ H Q hh => by
    obtain ⟨T, env, h, r1, r2, a⟩ := hh
    refine ⟨T, env, h, r1, r2, a.bind0 fun ds h1 T1 H1 vs e l1 q1 rvs a1 => ?_⟩
    obtain ⟨ns, e1, a2⟩ := After.ofO a1
    split at e1
    · rename_i d
      obtain ⟨v, rfl, rv⟩ := rels_one rvs
      cases e2 : itemsL h1 d with
      | none => rw [e2] at e1; cases e1
      | some xs =>
        rw [e2] at e1
        obtain ⟨b, ws, rfl, sq, rr⟩ := rel_itemsL q1 rv e2
        rw [rels_ints rr e1] at sq
        refine ⟨b, ns, rfl, sq, fun ns' p hp1 hp2 hp => ?_⟩
        have es : ns' = sortM ns := sortedM_ext hp2 (sortM_sorted ns) (hp1.trans (sortM_perm ns).symm)
        subst es
        exact a2 (T1.blk p) (upd H1 p (.lst ((sortM ns).map V.int))) _ (l1.trans r1.mut (Le.blk hp)) (q1.blk hp) ⟨p, _, rfl, upd_same, fun z => q1.mut.free hp (q1.sub p z), .inr rfl, l1.was q1.mut hp, rels_ofInts _⟩
    · cases e1
/-! ### list(range(..)) -/
def fListRg (f : Exs) : Exs := fun env h => (f env h).bind fun ds h1 => ofO (match ds with
  | [.int j] => if 0 ≤ j ∧ j ≤ 16777216 then some (intsL 0 j.toNat) else none
  | [.int i, .int j] => if (0 ≤ i ∧ i ≤ 16777216) ∧ (0 ≤ j ∧ j ≤ 16777216) then some (intsL i (j - i).toNat) else none
  | _ => none) fun xs => .ok xs h1
theorem rels_rg {K : PySem.W.Frag} {T : Tk} {H : Hp} (a b : Int) : rels K T H (intsL a (b - a).toNat) (rgV a b) := by
  have : ∀ l : List Nat, rels K T H (l.map fun i => D.int (a + (i : Nat))) (l.map fun i => V.int (a + (i : Nat))) := fun l => by
    induction l with
    | nil => exact rels_nil
    | cons x l ih => exact rels_cons (rel_int_iff.mpr rfl) ih
  exact this _
theorem sf_listRg1 {a : Expr} {f : Ex} {p p2 pos pos2 : Pos} (C : Cok X W k) (hg : Gl X "list") (hm : X.mg "list" = none) (hg2 : Gl X "range") (hm2 : X.mg "range" = none) (ha : SE X W a f)
    (na : starEach [a] X.env = (false, eval a X.env) :: starEach [] X.env := by rfl)
    (na2 : starEach [.Call (.Name "range" p2) [a] [] pos2] X.env = (false, eval (.Call (.Name "range" p2) [a] [] pos2) X.env) :: starEach [] X.env := by rfl) :
    SF X W (.Call (.Name "list" p) [.Call (.Name "range" p2) [a] [] pos2] [] pos) (fListRg (aCons f aNil)) :=
  PE.mono (pe_listRg C.calm hg hm (prg_1 hg2 hm2 ha na) na2) fun σ H Q hh => by
    obtain ⟨T, env, h, r1, r2, a⟩ := hh
    unfold fListRg aCons aNil at a
    have a : After X.K X.mg W T H σ (qF X.K H) Q ((f env h).bind fun d h1 => ofO (match [d] with
  | [.int j] => if 0 ≤ j ∧ j ≤ 16777216 then some (intsL 0 j.toNat) else none
  | [.int i, .int j] => if (0 ≤ i ∧ i ≤ 16777216) ∧ (0 ≤ j ∧ j ≤ 16777216) then some (intsL i (j - i).toNat) else none
  | _ => none) fun xs => .ok xs h1) := by
      revert a
      cases f env h with
      | ok d h1 => exact fun z => z
      | exc c h1 => exact fun z => z
      | stuck => exact fun z => z
    refine ⟨T, env, h, r1, r2, a.bind0 fun d h1 T1 H1 v _ l1 q1 rv a1 => ?_⟩
    obtain ⟨xs, e1, a2⟩ := After.ofO a1
    cases d with
    | int j =>
      have e1 : (if 0 ≤ j ∧ j ≤ 16777216 then some (intsL 0 j.toNat) else none) = some xs := e1
      by_cases hj : 0 ≤ j ∧ j ≤ 16777216
      · rw [if_pos hj] at e1
        cases e1
        refine ⟨j, rel_int_iff.mp rv, RgOk.of_le (by omega) (by omega) (by omega) (by omega), fun p hp => ?_⟩
        refine a2 (T1.blk p) (upd H1 p (.lst (rgV 0 j))) _ (l1.trans r1.mut (Le.blk hp)) (q1.blk hp) ⟨p, _, rfl, upd_same, fun z => q1.mut.free hp (q1.sub p z), .inr rfl, l1.was q1.mut hp, ?_⟩
        have := rels_rg (K := X.K) (T := T1.blk p) (H := upd H1 p (.lst (rgV 0 j))) 0 j
        rwa [Int.sub_zero] at this
      · rw [if_neg hj] at e1; cases e1
    | _ => cases e1
def lrD (ds : List D) : Option (List D) := match ds with
  | [.int j] => if 0 ≤ j ∧ j ≤ 16777216 then some (intsL 0 j.toNat) else none
  | [.int i, .int j] => if (0 ≤ i ∧ i ≤ 16777216) ∧ (0 ≤ j ∧ j ≤ 16777216) then some (intsL i (j - i).toNat) else none
  | _ => none
@[simp ↓] theorem wp_fListRg {f : Exs} {env : En} {h : HH} {qs : List D → HH → Prop} {e : String → HH → Prop} : Wp qs e (fListRg f env h) ↔ Wp (fun ds h1 => Wo (fun xs => qs xs h1) (lrD ds)) e (f env h) := by
  unfold fListRg
  rw [wp_bind]
  exact wp_congr fun d h1 => wp_ofO
theorem lrD_1 {j : Int} (h : 0 ≤ j ∧ j ≤ 16777216) : lrD [.int j] = some (intsL 0 j.toNat) := if_pos h
@[simp ↓] theorem wp_fSortI {f : Exs} {env : En} {h : HH} {qs : List D → HH → Prop} {e : String → HH → Prop} : Wp qs e (fSortI f env h) ↔ Wp (fun ds h1 => Wo (fun ns => qs ((sortM ns).map D.int) h1) (match ds with | [d] => (itemsL h1 d).bind intsD | _ => none)) e (f env h) := by
  unfold fSortI
  rw [wp_bind]
  exact wp_congr fun d h1 => wp_ofO
end
@[simp ↓] theorem wp_fRevL {f : Ex} {env : En} {h : HH} {qs : List D → HH → Prop} {e : String → HH → Prop} : Wp qs e (fRevL f env h) ↔ Wp (fun d h1 => Wo (fun xs => qs xs.reverse h1) (itemsL h1 d)) e (f env h) := by
  unfold fRevL
  rw [wp_bind]
  exact wp_congr fun d h1 => wp_ofO
end Pu

namespace Pu
open PySem PySem.Spec PyProof.Rows L2

/-! ### repr of tuples, lists, dicts of whole numbers and known words -/
def fineWords : List String := ["rises", "falls", "stays", "numbers", "words", "pairs", "put", "copy", "sum", "more", "less", "turn", "left", "right", "part", "if", "A", "B", "C", "D", "k", "l", "m", "n", "plus", "minus", "stands", "falls", "b", "on", "back", "all", "sums", "steps",
  "Put", "puts", "", "sun", "put ", "0", "a", "If", "put 0 0", "K", "o", "kl", "1", "Plus", "times"]
theorem str_app (s t : String) : Str.ofString (s ++ t) = Str.ofString s ++ Str.ofString t := by
  rw [Str.ofString_eq_toList, Str.ofString_eq_toList, Str.ofString_eq_toList]
  show _ = (⟨_ ++ _⟩ : Str)
  congr 1
  simp
theorem fine_repr : ∀ s ∈ fineWords, reprText (Str.ofString s) = Str.ofString ("'" ++ s ++ "'") := by decide +kernel
def joinS : List String → String
  | [] => ""
  | [x] => x
  | x :: y :: r => x ++ ", " ++ joinS (y :: r)
def kS : Ky → String
  | .inl i => toString i
  | .inr s => "'" ++ s ++ "'"
def kP : Ky → PyData
  | .inl i => .int i
  | .inr s => .str (Str.ofString s)
def fineK : Ky → Bool
  | .inl i => decide (i.natAbs < 2 ^ 1900)
  | .inr s => decide (s ∈ fineWords)
mutual
def rS : D → String
  | .int i => toString i
  | .str s => "'" ++ s ++ "'"
  | .bl b => if b then "True" else "False"
  | .non => "None"
  | .tup xs => "(" ++ joinS (rSs xs) ++ (if xs.length == 1 then ",)" else ")")
  | .lst xs => "[" ++ joinS (rSs xs) ++ "]"
  | .frz xs => "[" ++ joinS (rSs xs) ++ "]"
  | .dic kvs => "{" ++ joinS (rSk kvs) ++ "}"
  | _ => ""
def rSs : List D → List String
  | [] => []
  | d :: r => rS d :: rSs r
def rSk : List (Ky × D) → List String
  | [] => []
  | (k, d) :: r => (kS k ++ ": " ++ rS d) :: rSk r
end
mutual
def fineD : D → Bool
  | .int i => decide (i.natAbs < 2 ^ 1900)
  | .str s => decide (s ∈ fineWords)
  | .bl _ => true
  | .non => true
  | .tup xs => fineDs xs
  | .lst xs => fineDs xs
  | .dic kvs => fineDk kvs
  | _ => false
def fineDs : List D → Bool
  | [] => true
  | d :: r => fineD d && fineDs r
def fineDk : List (Ky × D) → Bool
  | [] => true
  | (k, d) :: r => fineK k && (fineD d && fineDk r)
end
mutual
/-- as data, dicts too -/
def toR : D → PyData
  | .non => .none
  | .bl b => .bool b
  | .int i => .int i
  | .str s => .str (Str.ofString s)
  | .tup xs => .tuple (toRs xs)
  | .lst xs => .list (toRs xs)
  | .frz xs => .list (toRs xs)
  | .dic kvs => .dict (toRk kvs)
  | .ref _ => .none
  | .ty _ => .none
  | .xc _ => .none
  | .tux _ => .none
def toRs : List D → List PyData
  | [] => []
  | d :: ds => toR d :: toRs ds
def toRk : List (Ky × D) → List (PyData × PyData)
  | [] => []
  | (k, d) :: ds => (kP k, toR d) :: toRk ds
end
mutual
/-- no list in it -/
def noL : D → Bool
  | .tup xs => noLs xs
  | .lst _ => false
  | .dic kvs => noLk kvs
  | _ => true
def noLs : List D → Bool
  | [] => true
  | d :: r => noL d && noLs r
def noLk : List (Ky × D) → Bool
  | [] => true
  | (_, d) :: r => noL d && noLk r
end
mutual
/-- no dict in it -/
def noK : D → Bool
  | .tup xs => noKs xs
  | .lst xs => noKs xs
  | .frz xs => noKs xs
  | .dic _ => false
  | _ => true
def noKs : List D → Bool
  | [] => true
  | d :: r => noK d && noKs r
end
theorem joinS_of : ∀ xs : List String, Str.ofString (joinS xs) = Str.join ", " (xs.map Str.ofString)
  | [] => by unfold joinS; rfl
  | [x] => by unfold joinS; rfl
  | x :: y :: r => by
    unfold joinS
    rw [str_app, str_app, joinS_of (y :: r)]
    rfl
theorem log_lt {n : Nat} (h : n < 2 ^ 1900) : n.log2 < 1920 := by
  by_cases h0 : n = 0
  · subst h0; decide
  · exact Nat.lt_of_lt_of_le ((Nat.log2_lt h0).mpr h) (by decide)
theorem rSs_len : ∀ xs : List D, (rSs xs).length = xs.length
  | [] => by unfold rSs; rfl
  | d :: r => by unfold rSs; rw [List.length_cons, List.length_cons, rSs_len r]
theorem shown_kS (k : Ky) (h : fineK k = true) : (kP k).shown = Str.ofString (kS k) := by
  cases k with
  | inl i => unfold kP kS; simp only [PyData.shown]
  | inr s =>
    unfold fineK at h
    rw [decide_eq_true_eq] at h
    unfold kP kS
    simp only [PyData.shown]
    exact fine_repr s h
mutual
theorem shown_rS : ∀ d : D, fineD d = true → (toR d).shown = Str.ofString (rS d)
  | .int i, _ => by unfold toR rS; simp only [PyData.shown]
  | .str s, h => by
    unfold fineD at h
    rw [decide_eq_true_eq] at h
    unfold toR rS
    simp only [PyData.shown]
    exact fine_repr s h
  | .bl b, _ => by unfold toR rS; simp only [PyData.shown]; cases b <;> rfl
  | .non, _ => by unfold toR rS; simp only [PyData.shown]
  | .tup xs, h => by
    unfold fineD at h
    unfold toR rS
    simp only [PyData.shown]
    rw [shown_rSs xs h, str_app, str_app, joinS_of]
    unfold tupleText
    rw [List.length_map, rSs_len]
  | .lst xs, h => by
    unfold fineD at h
    unfold toR rS
    simp only [PyData.shown]
    rw [shown_rSs xs h, str_app, str_app, joinS_of, listText_eq_join]
  | .dic xs, h => by
    unfold fineD at h
    unfold toR rS
    simp only [PyData.shown]
    rw [shown_rSk xs h, str_app, str_app, joinS_of]
    rfl
  | .frz _, h => by unfold fineD at h; cases h
  | .ref _, h => by unfold fineD at h; cases h
  | .ty _, h => by unfold fineD at h; cases h
  | .xc _, h => by unfold fineD at h; cases h
  | .tux _, h => by unfold fineD at h; cases h
theorem shown_rSs : ∀ ds : List D, fineDs ds = true → PyData.shownAll (toRs ds) = (rSs ds).map Str.ofString
  | [], _ => by unfold toRs rSs; simp only [PyData.shownAll]; rfl
  | d :: r, h => by
    unfold fineDs at h
    rw [Bool.and_eq_true] at h
    unfold toRs rSs
    simp only [PyData.shownAll, List.map_cons]
    rw [shown_rS d h.1, shown_rSs r h.2]
theorem shown_rSk : ∀ ds : List (Ky × D), fineDk ds = true → PyData.shownKv (toRk ds) = (rSk ds).map Str.ofString
  | [], _ => by unfold toRk rSk; simp only [PyData.shownKv]; rfl
  | (k, d) :: r, h => by
    unfold fineDk at h
    rw [Bool.and_eq_true, Bool.and_eq_true] at h
    unfold toRk rSk
    simp only [PyData.shownKv, List.map_cons]
    rw [shown_rS d h.2.1, shown_rSk r h.2.2, shown_kS k h.1, str_app, str_app]
end
theorem showable_k (k : Ky) (h : fineK k = true) : (kP k).showable = true := by
  cases k with
  | inl i =>
    unfold fineK at h
    unfold kP
    simp only [PyData.showable, decide_eq_true_eq] at h ⊢
    exact log_lt h
  | inr s => unfold kP; simp only [PyData.showable]
mutual
theorem showable_fine : ∀ d : D, fineD d = true → (toR d).showable = true
  | .int i, h => by
    unfold fineD at h
    unfold toR
    simp only [PyData.showable, decide_eq_true_eq] at h ⊢
    exact log_lt h
  | .str s, _ => by unfold toR; simp only [PyData.showable]
  | .bl b, _ => by unfold toR; simp only [PyData.showable]
  | .non, _ => by unfold toR; simp only [PyData.showable]
  | .tup xs, h => by
    unfold fineD at h
    unfold toR
    simp only [PyData.showable]
    exact showable_fines xs h
  | .lst xs, h => by
    unfold fineD at h
    unfold toR
    simp only [PyData.showable]
    exact showable_fines xs h
  | .dic xs, h => by
    unfold fineD at h
    unfold toR
    simp only [PyData.showable]
    exact showable_finek xs h
  | .frz _, h => by unfold fineD at h; cases h
  | .ref _, h => by unfold fineD at h; cases h
  | .ty _, h => by unfold fineD at h; cases h
  | .xc _, h => by unfold fineD at h; cases h
  | .tux _, h => by unfold fineD at h; cases h
theorem showable_fines : ∀ ds : List D, fineDs ds = true → PyData.showableAll (toRs ds) = true
  | [], _ => by unfold toRs; simp only [PyData.showableAll]
  | d :: r, h => by
    unfold fineDs at h
    rw [Bool.and_eq_true] at h
    unfold toRs
    simp only [PyData.showableAll, Bool.and_eq_true]
    exact ⟨showable_fine d h.1, showable_fines r h.2⟩
theorem showable_finek : ∀ ds : List (Ky × D), fineDk ds = true → PyData.showableKv (toRk ds) = true
  | [], _ => by unfold toRk; simp only [PyData.showableKv]
  | (k, d) :: r, h => by
    unfold fineDk at h
    rw [Bool.and_eq_true, Bool.and_eq_true] at h
    unfold toRk
    simp only [PyData.showableKv, Bool.and_eq_true]
    exact ⟨⟨showable_k k h.1, showable_fine d h.2.1⟩, showable_finek r h.2.2⟩
end
mutual
theorem toR_deep : ∀ d : D, (toR d).depth ≤ deep d
  | .non | .bl b | .int i | .str s | .ref _ | .ty _ | .xc _ | .tux _ => by unfold toR; simp [PyData.depth]
  | .tup xs => by unfold toR; have := toRs_deep xs; simp only [PyData.depth, deep]; omega
  | .lst xs => by unfold toR; have := toRs_deep xs; simp only [PyData.depth, deep]; omega
  | .frz xs => by unfold toR; have := toRs_deep xs; simp only [PyData.depth, deep]; omega
  | .dic xs => by unfold toR; have := toRk_deep xs; simp only [PyData.depth, deep]; omega
theorem toRs_deep : ∀ ds : List D, PyData.depthAll (toRs ds) ≤ deeps ds
  | [] => by unfold toRs; simp [PyData.depthAll]
  | d :: ds => by unfold toRs; have := toRs_deep ds; have := toR_deep d; simp only [PyData.depthAll, deeps]; omega
theorem toRk_deep : ∀ ds : List (Ky × D), PyData.depthKv (toRk ds) ≤ deepk ds
  | [] => by unfold toRk; simp [PyData.depthKv]
  | (k, d) :: ds => by
    unfold toRk; have := toRk_deep ds; have := toR_deep d
    have : (kP k).depth = 0 := by cases k <;> (unfold kP; simp [PyData.depth])
    simp only [PyData.depthKv, deepk]; omega
end
mutual
theorem hasK : ∀ d : D, noK d = true → (toR d).hasDict = false
  | .non, _ | .bl b, _ | .int i, _ | .str s, _ | .ref _, _ | .ty _, _ | .xc _, _ | .tux _, _ => by unfold toR; simp only [PyData.hasDict]
  | .tup xs, h => by unfold noK at h; unfold toR; simp only [PyData.hasDict]; exact hasKs xs h
  | .lst xs, h => by unfold noK at h; unfold toR; simp only [PyData.hasDict]; exact hasKs xs h
  | .frz xs, h => by unfold noK at h; unfold toR; simp only [PyData.hasDict]; exact hasKs xs h
  | .dic _, h => by unfold noK at h; cases h
theorem hasKs : ∀ ds : List D, noKs ds = true → PyData.hasDictAll (toRs ds) = false
  | [], _ => by unfold toRs; simp only [PyData.hasDictAll]
  | d :: r, h => by
    unfold noKs at h
    rw [Bool.and_eq_true] at h
    unfold toRs
    simp only [PyData.hasDictAll, Bool.or_eq_false_iff]
    exact ⟨hasK d h.1, hasKs r h.2⟩
end
section
variable {X : Cx} {pins : List (Addr × Obj)} {σ : L2.St} {H : Hp} {s : Shared} {T : Tk}
theorem pairs_reads {h : Heap} {prog : Program} {w : World} : ∀ {es : List DictEntry} {kvs : List (Key × Value)}, Pairs (mixKind prog w) es kvs → ∃ as, as = [] ∧ ReadsAll h (es.map (·.key)) (kvs.map fun p => match p.1 with | .inl i => PyData.int i | .inr x => .str x) as
  | _, _, .nil => ⟨[], rfl, .nil⟩
  | _, _, .cons (e := e) (kv := kv) h1 _ t => by
    obtain ⟨as, rfl, r⟩ := pairs_reads (h := h) t
    rcases keyIs_shape (show keyIs kv.1 e.key = true from h1) with ⟨i, t, h2, h3⟩ | ⟨x, t, h2, h3⟩
    · refine ⟨[], rfl, ?_⟩
      rw [List.map_cons, List.map_cons, h2, h3]
      exact .cons (as := []) (.int i t) r
    · refine ⟨[], rfl, ?_⟩
      rw [List.map_cons, List.map_cons, h2, h3]
      exact .cons (as := []) (.str x t) r
theorem pairs_vals {prog : Program} {w : World} : ∀ {es : List DictEntry} {kvs : List (Key × Value)}, Pairs (mixKind prog w) es kvs → es.map (·.val) = kvs.map (·.2)
  | _, _, .nil => rfl
  | _, _, .cons _ h2 t => by rw [List.map_cons, List.map_cons, h2, pairs_vals t]
mutual
theorem rel_reads (I : Inv X pins σ H s) : ∀ (d : D) (v : V) (u : Value), fineD d = true → rel X.K T H d v → RelV v u → ∃ as, Reads s.heap u (toR d) as ∧ (noL d = true → sysModules ∉ as)
  | .non, v, u, _, r, ru => by unfold rel at r; subst r; cases ru; unfold toR; exact ⟨[], .none, fun _ h => nomatch h⟩
  | .bl b, v, u, _, r, ru => by unfold rel at r; subst r; cases ru; unfold toR; exact ⟨[], .bool b, fun _ h => nomatch h⟩
  | .int i, v, u, _, r, ru => by unfold rel at r; subst r; obtain ⟨t, rfl⟩ := ru; unfold toR; exact ⟨[], .int i t, fun _ h => nomatch h⟩
  | .str i, v, u, _, r, ru => by unfold rel at r; subst r; obtain ⟨t, rfl⟩ := ru; unfold toR; exact ⟨[], .str _ t, fun _ h => nomatch h⟩
  | .tup ds, v, u, f, r, ru => by
    unfold fineD at f
    unfold rel at r
    obtain ⟨a, vs, rfl, sq, rr⟩ := r
    obtain rfl : u = Value.ref a := ru
    obtain ⟨its, rv, ⟨o, h1, h2, n, h3⟩, _⟩ := I.tuple sq.sq
    obtain ⟨as, ra, hs⟩ := rels_reads I ds vs its f rr rv
    unfold toR noL
    exact ⟨as, .tuple h1 h2 h3 (by simpa using ra), hs⟩
  | .lst ds, v, u, f, r, ru => by
    unfold fineD at f
    unfold rel at r
    obtain ⟨a, vs, rfl, sq, nb, rr⟩ := r
    obtain rfl : u = Value.ref a := ru
    obtain ⟨its, rv, pl, _⟩ := I.list (SqL.of sq)
    obtain ⟨o, h1, h2, n, h3⟩ := pl.isList
    obtain ⟨as, ra, hs⟩ := rels_reads I ds vs its f rr rv
    unfold toR noL
    exact ⟨a :: as, .list h1 h2 h3 (by simpa using ra), fun h => nomatch h⟩
  | .dic ds, v, u, f, r, ru => by
    unfold fineD at f
    unfold rel at r
    obtain ⟨a, vs, rfl, sq, nb, rr⟩ := r
    obtain rfl : u = Value.ref a := ru
    obtain ⟨_, ya, va, ra, o, es, ep, ho, hx, hd, _, hp, _⟩ := (show ObjOk X.prog X.w H s.heap a (.dK vs) from I.hok a _ sq)
    obtain ⟨_, rfl, rk⟩ := pairs_reads (h := s.heap) hp
    obtain ⟨as, rv, hs, ek⟩ := relk_reads I ds vs va f rr ra
    unfold toR noL
    have e2 := pairs_vals hp
    rw [← e2] at rv
    rw [ek] at rk
    refine ⟨_, .dict (as := []) ho hx.1 hd rk rv, fun h z => ?_⟩
    rcases List.mem_cons.mp z with z | z
    · rw [← z] at ya; simp at ya
    · exact hs h (by simpa using z)
  | .frz _, _, _, h, _, _ => by unfold fineD at h; cases h
  | .ref _, _, _, h, _, _ => by unfold fineD at h; cases h
  | .ty _, _, _, h, _, _ => by unfold fineD at h; cases h
  | .xc _, _, _, h, _, _ => by unfold fineD at h; cases h
  | .tux _, _, _, h, _, _ => by unfold fineD at h; cases h
theorem rels_reads (I : Inv X pins σ H s) : ∀ (ds : List D) (vs : List V) (us : List Value), fineDs ds = true → rels X.K T H ds vs → Vals vs us → ∃ as, ReadsAll s.heap us (toRs ds) as ∧ (noLs ds = true → sysModules ∉ as)
  | [], vs, us, _, r, ru => by
    unfold rels at r; subst r; cases ru
    unfold toRs
    exact ⟨[], .nil, fun _ h => nomatch h⟩
  | d :: ds, vs, us, f, r, ru => by
    unfold fineDs at f
    rw [Bool.and_eq_true] at f
    unfold rels at r
    obtain ⟨v, t, rfl, r1, r2⟩ := r
    cases ru with
    | cons a1 t1 =>
      obtain ⟨as, ra, hs⟩ := rel_reads I d _ _ f.1 r1 a1
      obtain ⟨bs, rb, hb⟩ := rels_reads I ds _ _ f.2 r2 t1
      unfold toRs noLs
      refine ⟨as ++ bs, .cons ra rb, fun h z => ?_⟩
      rw [Bool.and_eq_true] at h
      rcases List.mem_append.mp z with z | z
      · exact hs h.1 z
      · exact hb h.2 z
theorem relk_reads (I : Inv X pins σ H s) : ∀ (ds : List (Ky × D)) (vs : List (Key × V)) (us : List (Key × Value)), fineDk ds = true → relk X.K T H ds vs → KV vs us → ∃ as, ReadsAll s.heap (us.map (·.2)) ((toRk ds).map (·.2)) as ∧ (noLk ds = true → sysModules ∉ as) ∧ (us.map fun p => match p.1 with | .inl i => PyData.int i | .inr x => .str x) = (toRk ds).map (·.1)
  | [], vs, us, _, r, ru => by
    unfold relk at r; subst r; cases ru
    unfold toRk
    exact ⟨[], .nil, (fun _ h => nomatch h), rfl⟩
  | (k, d) :: ds, vs, us, f, r, ru => by
    unfold fineDk at f
    rw [Bool.and_eq_true, Bool.and_eq_true] at f
    unfold relk at r
    obtain ⟨v, t, rfl, r1, r2⟩ := r
    cases ru with
    | cons a1 t1 =>
      obtain ⟨as, ra, hs⟩ := rel_reads I d _ _ f.2.1 r1 a1.2
      obtain ⟨bs, rb, hb, ek⟩ := relk_reads I ds _ _ f.2.2 r2 t1
      unfold toRk noLk
      refine ⟨as ++ bs, .cons ra rb, fun h z => ?_, ?_⟩
      · rw [Bool.and_eq_true] at h
        rcases List.mem_append.mp z with z | z
        · exact hs h.1 z
        · exact hb h.2 z
      · rw [List.map_cons, List.map_cons, ek, ← a1.1]
        cases k <;> rfl
end
end
def cRepr (ds : List D) (h : HH) : R D := match ds with
  | [d] => if fineD d = true ∧ (noL d = true ∨ noK d = true) ∧ deep d ≤ 51 ∧ (rS d).length ≤ 16000000 then .ok (.str (rS d)) h else .stuck
  | _ => .stuck
section
variable {X : Cx}
theorem c_repr (gd : X.A.guards = some []) (hu : X.A.units + 65 < cLine) : CallR X (.builtin "repr") (rdC X cRepr) := by
  intro pins s σ H xs us Q I r q
  obtain ⟨T, h, ds, rh, rs, q⟩ := q
  obtain ⟨d, h', e, q⟩ := rdO_ok q
  unfold cRepr at e
  split at e
  · rename_i z
    split at e
    · rename_i hc
      cases e
      obtain ⟨hf, hn, hd, hl⟩ := hc
      obtain ⟨v, rfl, rv⟩ := rels_one rs
      obtain ⟨u, rfl, ru⟩ := vals1 r
      obtain ⟨as, rr, hm⟩ := rel_reads I z v u hf rv ru
      have hz : (toR z).shown.length ≤ sizeLine := by
        rw [shown_rS _ hf, PySem.ofString_length, sizeLine_eq]; omega
      have hd2 : (toR z).depth ≤ 51 := Nat.le_trans (toR_deep _) hd
      have qq := q T H _ Le.refl rh (rel_str_iff.mpr rfl)
      have hsm : (toR z).hasDict = true → sysModules ∉ as := fun hk => by
        rcases hn with hn | hn
        · exact hm hn
        · rw [hasK z hn] at hk; cases hk
      have isref : ∀ a, u = .ref a → wpAny (model X.prog X.w) X.A (call (.builtin "repr") [u]) (EP X pins σ Q) X.xe s := fun a e => by
        subst e
        refine repr_of_reads' rr (showable_fine _ hf) hsm gd (by omega) (fun _ _ z => z) (fun h1 u1 tk hk => ?_) hz
        refine ⟨.str (Str.ofString (rS z)), H, I.kept hk, ?_, qq⟩
        exact ⟨_, by rw [shown_rS _ hf]⟩
      cases z with
      | non =>
        unfold rel at rv; subst rv; cases ru
        exact PySem.P.repr_of_none ⟨.str _, H, I.tok _, ⟨_, rfl⟩, qq⟩
      | bl b =>
        unfold rel at rv; subst rv; cases ru
        cases b <;> exact PySem.P.repr_of_bool ⟨.str _, H, I.tok _, ⟨_, rfl⟩, qq⟩
      | int i =>
        unfold rel at rv; subst rv; obtain ⟨t, rfl⟩ := ru
        unfold fineD at hf
        rw [decide_eq_true_eq] at hf
        exact PySem.P.repr_of_int (log_lt hf) ⟨.str _, H, I.tok _, ⟨_, rfl⟩, qq⟩
      | str x =>
        have e := shown_rS _ hf
        unfold toR at e hz
        simp only [PyData.shown] at e hz
        unfold rel at rv; subst rv; obtain ⟨t, rfl⟩ := ru
        refine PySem.P.repr_of_str ⟨.str _, H, I.tok _, ⟨_, rfl⟩, ?_⟩ hz
        rw [e]
        exact qq
      | tup xs =>
        unfold rel at rv
        obtain ⟨a, vs, rfl, _⟩ := rv
        exact isref a ru
      | lst xs =>
        unfold rel at rv
        obtain ⟨a, vs, rfl, _⟩ := rv
        exact isref a ru
      | dic xs =>
        unfold rel at rv
        obtain ⟨a, vs, rfl, _⟩ := rv
        exact isref a ru
      | frz xs => unfold fineD at hf; cases hf
      | ref xs => unfold fineD at hf; cases hf
      | ty xs => unfold fineD at hf; cases hf
      | xc xs => unfold fineD at hf; cases hf
      | tux xs => unfold fineD at hf; cases hf
    · cases e
  · cases e
end
@[simp] theorem wp_cRepr {xs : List D} {h : HH} {q : D → HH → Prop} {e : String → HH → Prop} : Wp q e (cRepr [.tup xs] h) ↔ (fineD (.tup xs) = true ∧ (noL (.tup xs) = true ∨ noK (.tup xs) = true) ∧ deep (.tup xs) ≤ 51 ∧ (rS (.tup xs)).length ≤ 16000000) ∧ q (.str (rS (.tup xs))) h := wp_if
end Pu

namespace Pu
open PySem PySem.Spec PyProof.Rows L2

/-! ### how long a repr is -/
mutual
def wtD : D → Nat
  | .int _ => 62
  | .str s => s.length + 2
  | .tup xs => 4 + wtDs xs
  | _ => 5
def wtDs : List D → Nat
  | [] => 0
  | d :: r => wtD d + 2 + wtDs r
end
mutual
def smD : D → Bool
  | .int i => decide (i.natAbs < 2 ^ 61)
  | .str s => decide (s ∈ fineWords)
  | .bl _ => true
  | .non => true
  | .tup xs => smDs xs
  | _ => false
def smDs : List D → Bool
  | [] => true
  | d :: r => smD d && smDs r
end
theorem int_len {i : Int} (h : i.natAbs < 2 ^ 61) : (toString i).length ≤ 62 := by
  refine int_text_length_le (k := 61) (by decide) ?_
  by_cases h0 : i.natAbs = 0
  · rw [h0]; decide
  · exact (Nat.log2_lt h0).mpr h
theorem joinS_len : ∀ xs : List String, (joinS xs).length ≤ (xs.map fun s => s.length + 2).sum
  | [] => by unfold joinS; simp
  | [x] => by unfold joinS; simp
  | x :: y :: r => by
    have ih := joinS_len (y :: r)
    unfold joinS
    rw [String.length_append, String.length_append, List.map_cons, List.sum_cons]
    have : (", " : String).length = 2 := rfl
    omega
mutual
theorem rS_len : ∀ d : D, smD d = true → (rS d).length ≤ wtD d
  | .int i, h => by
    unfold smD at h; unfold rS wtD
    exact int_len (by simpa using h)
  | .str s, _ => by
    unfold rS wtD
    rw [String.length_append, String.length_append]
    have : ("'" : String).length = 1 := rfl
    omega
  | .bl b, _ => by unfold rS wtD; cases b <;> decide
  | .non, _ => by unfold rS wtD; decide
  | .tup xs, h => by
    unfold smD at h; unfold rS wtD
    have := rSs_sum xs h
    have := joinS_len (rSs xs)
    rw [String.length_append, String.length_append]
    have h1 : ("(" : String).length = 1 := rfl
    have h2 : (if xs.length == 1 then ",)" else ")" : String).length ≤ 2 := by split <;> decide
    omega
  | .lst _, h => by unfold smD at h; cases h
  | .frz _, h => by unfold smD at h; cases h
  | .dic _, h => by unfold smD at h; cases h
  | .ref _, h => by unfold smD at h; cases h
  | .ty _, h => by unfold smD at h; cases h
  | .xc _, h => by unfold smD at h; cases h
  | .tux _, h => by unfold smD at h; cases h
theorem rSs_sum : ∀ ds : List D, smDs ds = true → ((rSs ds).map fun s => s.length + 2).sum ≤ wtDs ds
  | [], _ => by unfold rSs wtDs; simp
  | d :: r, h => by
    unfold smDs at h
    rw [Bool.and_eq_true] at h
    have := rS_len d h.1
    have := rSs_sum r h.2
    unfold rSs wtDs
    rw [List.map_cons, List.sum_cons]
    omega
end
mutual
theorem fine_sm : ∀ d : D, smD d = true → fineD d = true
  | .int i, h => by
    unfold smD at h; unfold fineD
    simp only [decide_eq_true_eq] at h ⊢
    exact Nat.lt_of_lt_of_le h (Nat.pow_le_pow_right (by decide) (by decide))
  | .str s, h => by unfold smD at h; unfold fineD; exact h
  | .bl b, _ => by unfold fineD; rfl
  | .non, _ => by unfold fineD; rfl
  | .tup xs, h => by unfold smD at h; unfold fineD; exact fines_sm xs h
  | .lst _, h => by unfold smD at h; cases h
  | .frz _, h => by unfold smD at h; cases h
  | .dic _, h => by unfold smD at h; cases h
  | .ref _, h => by unfold smD at h; cases h
  | .ty _, h => by unfold smD at h; cases h
  | .xc _, h => by unfold smD at h; cases h
  | .tux _, h => by unfold smD at h; cases h
theorem fines_sm : ∀ ds : List D, smDs ds = true → fineDs ds = true
  | [], _ => by unfold fineDs; rfl
  | d :: r, h => by
    unfold smDs at h
    rw [Bool.and_eq_true] at h
    unfold fineDs
    rw [fine_sm d h.1, fines_sm r h.2]; rfl
end
mutual
theorem noL_sm : ∀ d : D, smD d = true → noL d = true
  | .int i, h => by unfold noL; rfl
  | .str s, h => by unfold noL; rfl
  | .bl b, _ => by unfold noL; rfl
  | .non, _ => by unfold noL; rfl
  | .tup xs, h => by unfold smD at h; unfold noL; exact noLs_sm xs h
  | .lst _, h => by unfold smD at h; cases h
  | .frz _, h => by unfold smD at h; cases h
  | .dic _, h => by unfold smD at h; cases h
  | .ref _, h => by unfold smD at h; cases h
  | .ty _, h => by unfold smD at h; cases h
  | .xc _, h => by unfold smD at h; cases h
  | .tux _, h => by unfold smD at h; cases h
theorem noLs_sm : ∀ ds : List D, smDs ds = true → noLs ds = true
  | [], _ => by unfold noLs; rfl
  | d :: r, h => by
    unfold smDs at h
    rw [Bool.and_eq_true] at h
    unfold noLs
    rw [noL_sm d h.1, noLs_sm r h.2]; rfl
end
theorem repr_eq {xs : List D} {h : HH} (h1 : smDs xs = true) (h2 : deeps xs ≤ 50) (h3 : wtDs xs ≤ 1000000) : cRepr [.tup xs] h = .ok (.str (rS (.tup xs))) h := by
  have : smD (.tup xs) = true := by unfold smD; exact h1
  have := rS_len _ this
  unfold cRepr
  dsimp only
  unfold wtD at this
  rw [if_pos ⟨by unfold fineD; exact fines_sm xs h1, .inl (by unfold noL; exact noLs_sm xs h1), by unfold deep; omega, by omega⟩]
theorem smDs_of {xs : List D} (h : ∀ d ∈ xs, smD d = true) : smDs xs = true := by
  induction xs with
  | nil => unfold smDs; rfl
  | cons d r ih =>
    unfold smDs
    rw [h d (by simp), ih fun x hx => h x (by simp [hx])]; rfl
theorem wtDs_le {xs : List D} {n : Nat} (h : ∀ d ∈ xs, wtD d ≤ n) : wtDs xs ≤ xs.length * (n + 2) := by
  induction xs with
  | nil => unfold wtDs; simp
  | cons d r ih =>
    unfold wtDs
    have := h d (by simp)
    have := ih fun x hx => h x (by simp [hx])
    rw [List.length_cons, Nat.add_mul]
    omega
theorem deeps_le {xs : List D} {n : Nat} (h : ∀ d ∈ xs, deep d ≤ n) : deeps xs ≤ n := by
  induction xs with
  | nil => simp
  | cons d r ih =>
    have := h d (by simp)
    have := ih fun x hx => h x (by simp [hx])
    simp; omega
theorem isDs_of {xs : List D} (h : ∀ d ∈ xs, isD d = true) : isDs xs = true := by
  induction xs with
  | nil => simp
  | cons d r ih => simp [h d (by simp), ih fun x hx => h x (by simp [hx])]
theorem repr_ints {ns : List Int} {h : HH} (h1 : ∀ n ∈ ns, n.natAbs < 2 ^ 61) (h2 : ns.length ≤ 1000) : cRepr [.tup (ns.map D.int)] h = .ok (.str (rS (.tup (ns.map D.int)))) h := by
  refine repr_eq (smDs_of fun d hd => ?_) (by rw [deeps_ints]; decide) ?_
  · obtain ⟨n, hn, rfl⟩ := List.mem_map.mp hd
    unfold smD
    exact decide_eq_true (h1 n hn)
  · have := wtDs_le (xs := ns.map D.int) (n := 62) fun d hd => by
      obtain ⟨n, hn, rfl⟩ := List.mem_map.mp hd
      unfold wtD; exact Nat.le_refl _
    rw [List.length_map] at this
    omega

/-! ### slices -/
theorem cut_to {α : Type} {xs : List α} {k : Nat} : cut xs none (some (k : Int)) = xs.take k := by
  unfold cut
  rw [HT.sIx_none, HT.sIx_nat, List.drop_zero, Nat.sub_zero]
  by_cases h : k ≤ xs.length
  · rw [Nat.min_eq_left h]
  · rw [Nat.min_eq_right (by omega), List.take_of_length_le (Nat.le_refl _), List.take_of_length_le (by omega)]
theorem cut_from {α : Type} {xs : List α} {k : Nat} : cut xs (some (k : Int)) none = xs.drop k := by
  unfold cut
  rw [HT.sIx_none, HT.sIx_nat]
  by_cases h : k ≤ xs.length
  · rw [Nat.min_eq_left h, List.take_of_length_le (by rw [List.length_drop]; exact Nat.le_refl _)]
  · rw [Nat.min_eq_right (by omega), Nat.sub_self, List.take_zero, List.drop_of_length_le (by omega)]
theorem cut_mid {α : Type} {xs : List α} {i j : Nat} : cut xs (some (i : Int)) (some (j : Int)) = (xs.drop i).take (j - i) := by
  unfold cut
  rw [HT.sIx_nat, HT.sIx_nat]
  by_cases h : i ≤ xs.length
  · rw [Nat.min_eq_left h]
    by_cases h2 : j ≤ xs.length
    · rw [Nat.min_eq_left h2]
    · rw [Nat.min_eq_right (by omega), List.take_of_length_le (by rw [List.length_drop]; omega), List.take_of_length_le (by rw [List.length_drop]; omega)]
  · have e1 : min i xs.length = xs.length := Nat.min_eq_right (by omega)
    rw [e1, List.drop_of_length_le (Nat.le_refl _), List.drop_of_length_le (by omega)]
    simp
@[simp] theorem cut_to_nat {α : Type} {xs : List α} {k : Nat} : cut xs none (some (k : Int)) = xs.take k := cut_to
@[simp] theorem cut_from_nat {α : Type} {xs : List α} {k : Nat} : cut xs (some (k : Int)) none = xs.drop k := cut_from
@[simp] theorem cut_from_succ {α : Type} {xs : List α} {k : Nat} : cut xs (some ((k : Int) + 1)) none = xs.drop (k + 1) := cut_from (k := k + 1)
@[simp] theorem cut_to_lit {α : Type} {xs : List α} {k : Nat} : cut xs none (some (no_index (OfNat.ofNat k : Int))) = xs.take (OfNat.ofNat k) := cut_to (k := k)
@[simp] theorem cut_from_lit {α : Type} {xs : List α} {k : Nat} : cut xs (some (no_index (OfNat.ofNat k : Int))) none = xs.drop (OfNat.ofNat k) := cut_from (k := k)
@[simp] theorem cut_from_one {α : Type} {xs : List α} : cut xs (some 1) none = xs.drop 1 := cut_from (k := 1)
@[simp] theorem cut_to_one {α : Type} {xs : List α} : cut xs none (some 1) = xs.take 1 := cut_to (k := 1)
@[simp] theorem cut_to_zero {α : Type} {xs : List α} : cut xs none (some 0) = [] := cut_to (k := 0)
@[simp] theorem cut_from_zero {α : Type} {xs : List α} : cut xs (some 0) none = xs := by have := cut_from (xs := xs) (k := 0); simpa using this
section
variable {q : D → HH → Prop} {e : String → HH → Prop} {h : HH} {xs : List D} {lo hi : Option Int}
@[simp] theorem wp_slT : Wp q e (opSl (.tup xs) lo hi h) ↔ q (.tup (cut xs lo hi)) h := Iff.rfl
@[simp] theorem wp_slL : Wp q e (opSl (.lst xs) lo hi h) ↔ q (.lst (cut xs lo hi)) h := Iff.rfl
@[simp] theorem wp_slF : Wp q e (opSl (.frz xs) lo hi h) ↔ q (.lst (cut xs lo hi)) h := Iff.rfl
end
/-- what stands at a place -/
def at0 (st : List Int) (a : Nat) : Int := st.getD a 0
theorem at0_mem {st : List Int} {a : Nat} (h : a < st.length) : at0 st a ∈ st := by
  unfold at0
  rw [List.getD_eq_getElem?_getD, List.getElem?_eq_getElem h]
  exact List.getElem_mem h
theorem get_ints {st : List Int} {a : Nat} (h : a < st.length) : (st.map D.int)[a]? = some (.int (at0 st a)) := by
  unfold at0
  rw [List.getElem?_map, List.getElem?_eq_getElem h, List.getD_eq_getElem?_getD, List.getElem?_eq_getElem h]; rfl
theorem set_ints {st : List Int} {a : Nat} {x : Int} (h : a < st.length) : List.take a (st.map D.int) ++ (D.int x :: List.drop (a + 1) (st.map D.int)) = (st.set a x).map D.int := by
  rw [List.map_set, List.set_eq_take_append_cons_drop, if_pos (by simpa using h)]

/-! ### a pen that is a dict -/
def penDO (ns : List Int) (a r : Int) : O := .dic [(.inr "cells", .lst (ns.map D.int)), (.inr "at", .int a), (.inr "left", .int r)]
def PenD (b : Int) (t h : HH) : Prop := ∃ ns a r, h = penDO ns a r :: t ∧ 0 ≤ a ∧ a ≤ b ∧ 0 ≤ r
theorem PenD.le {b c : Int} {t h : HH} (p : PenD b t h) (l : b ≤ c) : PenD c t h := by
  obtain ⟨ns, a, r, e, h1, h2, h3⟩ := p
  exact ⟨ns, a, r, e, h1, by omega, h3⟩
theorem PenD.pure {b : Int} {t h : HH} (p : PenD b t h) (ht : t.all (clO 0) = true) : h.all (clO 0) = true := by
  obtain ⟨ns, a, r, e, h1, h2, h3⟩ := p
  subst e
  rw [List.all_cons, ht, Bool.and_true]
  simp only [penDO, clO, clk, cl, cls_ints, Bool.and_self]
def DrawsD (F : Fn) : Prop := ∀ {b m : Int} {t h : HH} {q : D → HH → Prop}, PenD b t h → b < 1000000 → 0 < m → m < 2 ^ 250 →
  (∀ (k : Nat) h', (k : Int) < m → PenD (b + 1) t h' → q (.int (k : Int)) h') → Wp q noE (F [.ref 0, .int m] h)
theorem DrawsD.of {F : Fn} (w : ∀ {ns : List Int} {a r m : Int} {t : HH} {Q : D → HH → Prop}, 0 ≤ a → a < 1000000 → 0 ≤ r → 0 < m → m < 2 ^ 250 →
    (∀ k a' r', 0 ≤ k → k < m → a ≤ a' → a' ≤ a + 1 → 0 ≤ r' → Q (.int k) (.dic [(.inr "cells", .lst (ns.map D.int)), (.inr "at", .int a'), (.inr "left", .int r')] :: t)) →
    Wp Q noE (F [.ref 0, .int m] (.dic [(.inr "cells", .lst (ns.map D.int)), (.inr "at", .int a), (.inr "left", .int r)] :: t))) : DrawsD F := by
  intro b m t h q p hb hm hm2 k
  obtain ⟨ns, a, r, e, h1, h2, h3⟩ := p
  subst e
  refine w h1 (by omega) h3 hm hm2 fun x a' r' x0 x1 l1 l2 l3 => ?_
  obtain ⟨x', rfl⟩ := Int.eq_ofNat_of_zero_le x0
  exact k x' _ x1 ⟨ns, a', r', rfl, by omega, by omega, l3⟩
/-- a comprehension whose parts draw -/
theorem wp_lcN {c : List (Nat × List D)} {g : Tg} {f : Ex} {env : En} {q : List D → HH → Prop} {e : String → HH → Prop} (I : List D → HH → Prop) (n : Nat) (hn : n ≤ sz) (hc : ∀ acc h, I acc h → chkOk h c = true) (hd : ∀ acc' h, acc'.length = n → I acc' h → q acc' h) :
    ∀ (ds acc : List D) {h : HH}, I acc h → acc.length + ds.length = n →
    (∀ d acc h, d ∈ ds → acc.length < n → I acc h → Wo (fun env1 => Wp (fun y h' => I (acc ++ [y]) h') noE (f env1 h)) (g d env)) → Wp q e (lcGo c g tYesD f env ds acc h)
  | [], acc, h, i0, hl, _ => wp_lc0.mpr ⟨hc _ _ i0, hd acc h (by simpa using hl) i0⟩
  | d :: ds, acc, h, i0, hl, st => by
    rw [List.length_cons] at hl
    refine wp_lc1.mpr ⟨hc _ _ i0, ?_⟩
    have w := st d acc h (by simp) (by omega) i0
    revert w
    cases g d env with
    | none => exact fun w => w
    | some env1 =>
      intro w
      have w : Wp (fun y h' => I (acc ++ [y]) h') noE (f env1 h) := w
      show Wp (fun y h2 => acc.length < sz ∧ Wp q e (lcGo c g tYesD f env ds (acc ++ [y]) h2)) noE (f env1 h)
      refine wp_imp w fun y h' i1 => ⟨by omega, ?_⟩
      exact wp_lcN I n hn hc hd ds (acc ++ [y]) i1 (by rw [List.length_append, List.length_singleton]; omega) fun d acc h hm => st d acc h (by simp [hm])
theorem wp_lcI {c : List (Nat × List D)} {g : Tg} {f : Ex} {env : En} {q : List D → HH → Prop} {e : String → HH → Prop} {ds : List D} {h : HH} (I : List D → HH → Prop) (n : Nat) (i0 : I [] h) (hl : ds.length = n) (hn : n ≤ sz) (hc : ∀ acc h, I acc h → chkOk h c = true)
    (st : ∀ d acc h, d ∈ ds → acc.length < n → I acc h → Wo (fun env1 => Wp (fun y h' => I (acc ++ [y]) h') noE (f env1 h)) (g d env))
    (hd : ∀ acc' h, acc'.length = n → I acc' h → q acc' h) : Wp q e (lcGo c g tYesD f env ds [] h) :=
  wp_lcN I n hn hc hd ds [] i0 (by simpa using hl) st
theorem map_snoc {α β : Type} {f : α → β} {l : List α} {x : α} : l.map f ++ [f x] = (l ++ [x]).map f := by simp
theorem numb_getI : ∀ {xs : List D} {k i : Nat} {d : D}, (numb k xs)[i]? = some d → ∃ x, xs[i]? = some x ∧ d = .tux [.int ((k + i : Nat) : Int), x]
  | [], k, i, d, e => by unfold numb at e; simp at e
  | y :: ys, k, 0, d, e => by unfold numb at e; simp at e; exact ⟨y, rfl, e.symm⟩
  | y :: ys, k, i + 1, d, e => by
    unfold numb at e
    obtain ⟨x, h1, h2⟩ := numb_getI (xs := ys) (k := k + 1) (i := i) (by simpa using e)
    exact ⟨x, by simpa using h1, by rw [h2, show k + 1 + i = k + (i + 1) by omega]⟩
@[simp] theorem numb_length : ∀ {xs : List D} {k : Nat}, (numb k xs).length = xs.length
  | [], k => by unfold numb; rfl
  | y :: ys, k => by unfold numb; rw [List.length_cons, List.length_cons, numb_length]
/-- two ways that join -/
theorem wi_join {K : Ks} {N : En → HH → Prop} (P : En → HH → Prop) {a b : S} {c : Bool} (h1 : c = true → Wb (K.wnx P) a) (h2 : c = false → Wb (K.wnx P) b) (h3 : ∀ env h, P env h → N env h) : Wi (Wb (K.wnx N) a) (Wb (K.wnx N) b) c :=
  wi_of (fun hc => wb_mono (h1 hc) h3 (fun _ _ w => w) (fun _ _ w => w) (fun _ _ w => w) (fun _ _ w => w)) (fun hc => wb_mono (h2 hc) h3 (fun _ _ w => w) (fun _ _ w => w) (fun _ _ w => w) (fun _ _ w => w))
end Pu

namespace Pu
open PySem PySem.Spec PyProof.Rows L2
section
variable {env : En} {h : HH}
/-- a while loop: I holds ahead of each look, by a number that gets less -/
theorem wb_whI {c : Et} {body : Sx} {K : Ks} (I : Nat → En → HH → Prop)
    (st : ∀ m env h, I m env h → Wp (fun b h1 => Wi (Wb ⟨fun e' h' => ∃ m', m' < m ∧ I m' e' h', K.rt, K.nx, fun e' h' => ∃ m', m' < m ∧ I m' e' h', K.ex⟩ (body env h1)) (K.nx env h1) b) K.ex (c env h)) :
    ∀ {n m : Nat} {env : En} {h : HH}, m < n → I m env h → Wb K (sWh n c body env h)
  | 0, m, _, _, hm, _ => absurd hm (by omega)
  | n + 1, m, env, h, hm, i0 => by
    show Wb K (whGo c body (n + 1) env h)
    unfold whGo
    rw [wb_bindS]
    refine wp_mono (st m env h i0) (fun b h1 w => ?_) fun _ _ w => w
    cases b with
    | false => exact w
    | true =>
      rw [if_pos rfl]
      have go : ∀ e' h', (∃ m', m' < m ∧ I m' e' h') → Wb K (whGo c body n e' h') := fun e' h' ⟨m', z, i⟩ => wb_whI I st (n := n) (by omega) i
      revert w
      rw [wi_true]
      cases body env h1 with
      | next env' h' => exact fun w => go _ _ w
      | cont env' h' => exact fun w => go _ _ w
      | brk env' h' => exact fun w => w
      | ret d h' => exact fun w => w
      | exc c env' h' => exact fun w => w
      | stuck => exact fun w => w
/-- a list against the list of none -/
theorem same_nilL {a : D} {xs : List D} (hv : view h a = .lst xs) (hs : seqA h a = some (false, xs)) : same? h a (.lst []) = some xs.isEmpty := by
  unfold same?
  split
  · rename_i hc
    rw [hv]
    have : view h (.lst []) = .lst [] := rfl
    rw [this]
    cases xs with
    | nil => rfl
    | cons x r => unfold eqv toP toPs; rfl
  · unfold sameX
    rw [hs]
    have : seqA h (.lst []) = some (false, []) := rfl
    rw [this]
    dsimp only
    cases xs with
    | nil =>
      rename_i hc
      exfalso
      apply hc
      have : view h (.lst []) = .lst [] := rfl
      rw [hv, this]; decide
    | cons x r => rfl
theorem same_nil {j : Nat} {xs : List D} (e : h[j]? = some (.lst xs)) : same? h (.ref j) (.lst []) = some xs.isEmpty :=
  same_nilL (by unfold view; dsimp only; rw [e]) (by unfold seqA; dsimp only; rw [e])
theorem wo_at {k : Int} {xs : List D} {q : D → Prop} (h0 : 0 ≤ k) (h1 : k < xs.length) (hq : ∀ d ∈ xs, q d) : Wo q (atI xs k) := by
  obtain ⟨x, e, hx⟩ := atI_some h0 h1
  rw [e]; exact hq x hx
theorem wp_at {k : Int} {xs : List D} {q : D → HH → Prop} {e : String → HH → Prop} (h0 : 0 ≤ k) (h1 : k < xs.length) (hq : ∀ d ∈ xs, q d h) : Wp q e (opIxA (.lst xs) (.int k) h) := by
  rw [wp_ixL]
  exact wo_at h0 h1 hq
@[simp] theorem cLst_t {xs : List D} : cLst [.tup xs] h = some xs := rfl
@[simp] theorem cLst_l {xs : List D} : cLst [.lst xs] h = some xs := rfl
@[simp] theorem merD_nil : merD [] = [] := rfl
end
end Pu

namespace Pu
open PySem PySem.Spec PyProof.Rows L2

/-! ### how long the repr of any thing is -/
def wK : Ky → Nat
  | .inl _ => 102
  | .inr s => s.length + 2
def smK : Ky → Bool
  | .inl i => decide (i.natAbs < 2 ^ 100)
  | .inr s => decide (s ∈ fineWords)
mutual
def wR : D → Nat
  | .int _ => 102
  | .str s => s.length + 2
  | .tup xs => 4 + wRs xs
  | .lst xs => 4 + wRs xs
  | .dic xs => 4 + wRk xs
  | _ => 5
def wRs : List D → Nat
  | [] => 0
  | d :: r => wR d + 2 + wRs r
def wRk : List (Ky × D) → Nat
  | [] => 0
  | (k, d) :: r => wK k + 2 + wR d + 2 + wRk r
end
mutual
def smR : D → Bool
  | .int i => decide (i.natAbs < 2 ^ 100)
  | .str s => decide (s ∈ fineWords)
  | .bl _ => true
  | .non => true
  | .tup xs => smRs xs
  | .lst xs => smRs xs
  | .dic xs => smRk xs
  | _ => false
def smRs : List D → Bool
  | [] => true
  | d :: r => smR d && smRs r
def smRk : List (Ky × D) → Bool
  | [] => true
  | (k, d) :: r => smK k && (smR d && smRk r)
end
theorem int_len' {i : Int} (h : i.natAbs < 2 ^ 100) : (toString i).length ≤ 102 := by
  have h2 : i.natAbs.log2 < 100 := by
    by_cases h0 : i.natAbs = 0
    · rw [h0]; decide
    · exact (Nat.log2_lt h0).mpr h
  have := int_text_length_le (k := 100) (by decide) h2
  omega
theorem kS_len {k : Ky} (h : smK k = true) : (kS k).length ≤ wK k := by
  cases k with
  | inl i =>
    unfold smK at h; unfold kS wK
    exact int_len' (by simpa using h)
  | inr s =>
    unfold kS wK
    rw [String.length_append, String.length_append]
    have : ("'" : String).length = 1 := rfl
    show _ ≤ s.length + 2
    omega
mutual
theorem rR_len : ∀ d : D, smR d = true → (rS d).length ≤ wR d
  | .int i, h => by
    unfold smR at h; unfold rS wR
    exact int_len' (by simpa using h)
  | .str s, _ => by
    unfold rS wR
    rw [String.length_append, String.length_append]
    have : ("'" : String).length = 1 := rfl
    omega
  | .bl b, _ => by unfold rS wR; cases b <;> decide
  | .non, _ => by unfold rS wR; decide
  | .tup xs, h => by
    unfold smR at h; unfold rS wR
    have := rRs_sum xs h
    have := joinS_len (rSs xs)
    rw [String.length_append, String.length_append]
    have h1 : ("(" : String).length = 1 := rfl
    have h2 : (if xs.length == 1 then ",)" else ")" : String).length ≤ 2 := by split <;> decide
    omega
  | .lst xs, h => by
    unfold smR at h; unfold rS wR
    have := rRs_sum xs h
    have := joinS_len (rSs xs)
    rw [String.length_append, String.length_append]
    have h1 : ("[" : String).length = 1 := rfl
    have h2 : ("]" : String).length = 1 := rfl
    omega
  | .dic xs, h => by
    unfold smR at h; unfold rS wR
    have := rRk_sum xs h
    have := joinS_len (rSk xs)
    rw [String.length_append, String.length_append]
    have h1 : ("{" : String).length = 1 := rfl
    have h2 : ("}" : String).length = 1 := rfl
    omega
  | .frz _, h => by unfold smR at h; cases h
  | .ref _, h => by unfold smR at h; cases h
  | .ty _, h => by unfold smR at h; cases h
  | .xc _, h => by unfold smR at h; cases h
  | .tux _, h => by unfold smR at h; cases h
theorem rRs_sum : ∀ ds : List D, smRs ds = true → ((rSs ds).map fun s => s.length + 2).sum ≤ wRs ds
  | [], _ => by unfold rSs wRs; simp
  | d :: r, h => by
    unfold smRs at h
    rw [Bool.and_eq_true] at h
    have := rR_len d h.1
    have := rRs_sum r h.2
    unfold rSs wRs
    rw [List.map_cons, List.sum_cons]
    omega
theorem rRk_sum : ∀ ds : List (Ky × D), smRk ds = true → ((rSk ds).map fun s => s.length + 2).sum ≤ wRk ds
  | [], _ => by unfold rSk wRk; simp
  | (k, d) :: r, h => by
    unfold smRk at h
    rw [Bool.and_eq_true, Bool.and_eq_true] at h
    have := rR_len d h.2.1
    have := rRk_sum r h.2.2
    have := kS_len h.1
    unfold rSk wRk
    rw [List.map_cons, List.sum_cons, String.length_append, String.length_append]
    have : (": " : String).length = 2 := rfl
    omega
end
theorem fineK_sm {k : Ky} (h : smK k = true) : fineK k = true := by
  cases k with
  | inl i =>
    unfold smK at h; unfold fineK
    simp only [decide_eq_true_eq] at h ⊢
    exact Nat.lt_of_lt_of_le h (Nat.pow_le_pow_right (by decide) (by decide))
  | inr s => unfold smK at h; unfold fineK; exact h
mutual
theorem fine_smR : ∀ d : D, smR d = true → fineD d = true
  | .int i, h => by
    unfold smR at h; unfold fineD
    simp only [decide_eq_true_eq] at h ⊢
    exact Nat.lt_of_lt_of_le h (Nat.pow_le_pow_right (by decide) (by decide))
  | .str s, h => by unfold smR at h; unfold fineD; exact h
  | .bl b, _ => by unfold fineD; rfl
  | .non, _ => by unfold fineD; rfl
  | .tup xs, h => by unfold smR at h; unfold fineD; exact fines_smR xs h
  | .lst xs, h => by unfold smR at h; unfold fineD; exact fines_smR xs h
  | .dic xs, h => by unfold smR at h; unfold fineD; exact finek_smR xs h
  | .frz _, h => by unfold smR at h; cases h
  | .ref _, h => by unfold smR at h; cases h
  | .ty _, h => by unfold smR at h; cases h
  | .xc _, h => by unfold smR at h; cases h
  | .tux _, h => by unfold smR at h; cases h
theorem fines_smR : ∀ ds : List D, smRs ds = true → fineDs ds = true
  | [], _ => by unfold fineDs; rfl
  | d :: r, h => by
    unfold smRs at h
    rw [Bool.and_eq_true] at h
    unfold fineDs
    rw [fine_smR d h.1, fines_smR r h.2]; rfl
theorem finek_smR : ∀ ds : List (Ky × D), smRk ds = true → fineDk ds = true
  | [], _ => by unfold fineDk; rfl
  | (k, d) :: r, h => by
    unfold smRk at h
    rw [Bool.and_eq_true, Bool.and_eq_true] at h
    unfold fineDk
    rw [fine_smR d h.2.1, finek_smR r h.2.2, fineK_sm h.1]; rfl
end
theorem repr_gen {d : D} {h : HH} (h1 : smR d = true) (h2 : noL d = true ∨ noK d = true) (h3 : deep d ≤ 51) (h4 : wR d ≤ 1000000) : cRepr [d] h = .ok (.str (rS d)) h := by
  have := rR_len d h1
  unfold cRepr
  dsimp only
  rw [if_pos ⟨fine_smR d h1, h2, h3, by omega⟩]
section
variable {xs : List D} {kvs : List (Ky × D)} {d : D} {k : Ky} {i : Int} {s : String} {b : Bool}
@[simp] theorem smR_int : smR (.int i) = decide (i.natAbs < 2 ^ 100) := by unfold smR; rfl
@[simp] theorem smR_str : smR (.str s) = decide (s ∈ fineWords) := by unfold smR; rfl
@[simp] theorem smR_bl : smR (.bl b) = true := by unfold smR; rfl
@[simp] theorem smR_non : smR .non = true := by unfold smR; rfl
@[simp] theorem smR_tup : smR (.tup xs) = smRs xs := by rw [smR]
@[simp] theorem smR_lst : smR (.lst xs) = smRs xs := by rw [smR]
@[simp] theorem smR_dic : smR (.dic kvs) = smRk kvs := by rw [smR]
@[simp] theorem smRs_nil : smRs [] = true := by unfold smRs; rfl
@[simp] theorem smRs_cons : smRs (d :: xs) = (smR d && smRs xs) := by rw [smRs]
@[simp] theorem smRk_nil : smRk [] = true := by unfold smRk; rfl
@[simp] theorem smRk_cons : smRk ((k, d) :: kvs) = (smK k && (smR d && smRk kvs)) := by rw [smRk]
@[simp] theorem noL_int : noL (.int i) = true := by unfold noL; rfl
@[simp] theorem noL_str : noL (.str s) = true := by unfold noL; rfl
@[simp] theorem noL_bl : noL (.bl b) = true := by unfold noL; rfl
@[simp] theorem noL_non : noL .non = true := by unfold noL; rfl
@[simp] theorem noL_tup : noL (.tup xs) = noLs xs := by rw [noL]
@[simp] theorem noL_lst : noL (.lst xs) = false := by rw [noL]
@[simp] theorem noL_dic : noL (.dic kvs) = noLk kvs := by rw [noL]
@[simp] theorem noLs_nil : noLs [] = true := by unfold noLs; rfl
@[simp] theorem noLs_cons : noLs (d :: xs) = (noL d && noLs xs) := by rw [noLs]
@[simp] theorem noLk_nil : noLk [] = true := by unfold noLk; rfl
@[simp] theorem noLk_cons : noLk ((k, d) :: kvs) = (noL d && noLk kvs) := by rw [noLk]
@[simp] theorem noK_int : noK (.int i) = true := by unfold noK; rfl
@[simp] theorem noK_str : noK (.str s) = true := by unfold noK; rfl
@[simp] theorem noK_bl : noK (.bl b) = true := by unfold noK; rfl
@[simp] theorem noK_non : noK .non = true := by unfold noK; rfl
@[simp] theorem noK_tup : noK (.tup xs) = noKs xs := by rw [noK]
@[simp] theorem noK_lst : noK (.lst xs) = noKs xs := by rw [noK]
@[simp] theorem noK_dic : noK (.dic kvs) = false := by rw [noK]
@[simp] theorem noKs_nil : noKs [] = true := by unfold noKs; rfl
@[simp] theorem noKs_cons : noKs (d :: xs) = (noK d && noKs xs) := by rw [noKs]
@[simp] theorem wR_int : wR (.int i) = 102 := by unfold wR; rfl
@[simp] theorem wR_str : wR (.str s) = s.length + 2 := by unfold wR; rfl
@[simp] theorem wR_bl : wR (.bl b) = 5 := by unfold wR; rfl
@[simp] theorem wR_non : wR .non = 5 := by unfold wR; rfl
@[simp] theorem wR_tup : wR (.tup xs) = 4 + wRs xs := by rw [wR]
@[simp] theorem wR_lst : wR (.lst xs) = 4 + wRs xs := by rw [wR]
@[simp] theorem wR_dic : wR (.dic kvs) = 4 + wRk kvs := by rw [wR]
@[simp] theorem wRs_nil : wRs [] = 0 := by unfold wRs; rfl
@[simp] theorem wRs_cons : wRs (d :: xs) = wR d + 2 + wRs xs := by rw [wRs]
@[simp] theorem wK_inl : wK (.inl i) = 102 := rfl
@[simp] theorem wK_inr : wK (.inr s) = s.length + 2 := rfl
@[simp] theorem smK_inl : smK (.inl i) = decide (i.natAbs < 2 ^ 100) := rfl
@[simp] theorem smK_inr : smK (.inr s) = decide (s ∈ fineWords) := rfl
@[simp] theorem deep_dic : deep (.dic kvs) = deepk kvs + 1 := by rw [deep]
@[simp] theorem deepk_nil : deepk [] = 0 := by unfold deepk; rfl
@[simp] theorem deepk_cons : deepk ((k, d) :: kvs) = max (deep d) (deepk kvs) := by rw [deepk]
@[simp] theorem wRk_nil : wRk [] = 0 := by unfold wRk; rfl
@[simp] theorem wRk_cons : wRk ((k, d) :: kvs) = wK k + 2 + wR d + 2 + wRk kvs := by rw [wRk]
end
end Pu

namespace Pu
open PySem PySem.Spec PyProof.Rows L2

/-! ### a dict of the module, texts its keys -/
def kfind : List (String × D) → String → Option D
  | [], _ => none
  | (k, d) :: r, z => if k = z then some d else kfind r z
structure KCn (K : PySem.W.Frag) (w : World) (mg : Str → Option Value) (x : Str) (kvs : List (String × D)) : Prop where
  ex : ∃ (d : Addr) (es : Array DictEntry) (n : Nat), mg x = some (.ref d) ∧ KDict K w d es n ∧ ∀ z : String, match kfind kvs z with
    | some e => ∃ u v, PySem.W.nsIn K d (Str.ofString z) = some (some u) ∧ RelV v u ∧ ∀ T H, rel K T H e v
    | none => PySem.W.nsIn K d (Str.ofString z) = some none
def kGet (kvs : List (String × D)) (d : D) (h : HH) : R D := match d with
  | .str s => ofO (kfind kvs s) fun e => .ok e h
  | _ => .stuck
def kIn (neg : Bool) (kvs : List (String × D)) (d : D) (h : HH) : R D := match d with
  | .str s => .ok (.bl (if neg then !(kfind kvs s).isSome else (kfind kvs s).isSome)) h
  | _ => .stuck
section
variable {X : Cx} {W : WX} {x : Str} {kvs : List (String × D)}
theorem ix_kd {d : Addr} {es : Array DictEntry} {n : Nat} (D : KDict X.K X.w d es n) :
    IxR X (fun x y H Q => ∃ (z : Str) (u0 : Value) (v0 : V), x = .ref d ∧ y = .str z ∧ PySem.W.nsIn X.K d z = some (some u0) ∧ RelV v0 u0 ∧ Q v0 H) := by
  intro value slice pins s σ H x y v u Q I rx ry h hs
  obtain ⟨z, u0, v0, rfl, rfl, e, r, q⟩ := h
  cases rx
  obtain ⟨t, rfl⟩ := ry
  refine tail_any (kd_type D I) PySem.F.slot_dict_getitem.lookup ?_ hs
  exact wpAny_getItem_of (PySem.strKind_is X.prog X.w z t) (PySem.W.mapOf_K (prog := X.prog) I.kIn D.at_ D.lit) (PySem.W.find_K D.at_ e) ⟨v0, H, I.tok _, r, q⟩
theorem se_kget {b : Expr} {g : Ex} {p pos : Pos} (c : KCn X.K X.w X.mg x kvs) (hg : Gl X x) (hb : SE X W b g) (hs : PlainIx b := by exact fun _ _ => rfl) (hdb : (x == ("__debug__" : Str)) = false := by decide) :
    SE X W (.Subscript (.Name x p) b pos) (eUn (kGet kvs) g) := by
  obtain ⟨d, es, n, hm, kd, hv⟩ := c.ex
  refine PE.mono (pe_ix (ix_kd kd) (pe_glob hg hm (v := .ref d) rfl hdb) hb hs) fun σ H Q hh => ?_
  obtain ⟨T, env, h, r1, r2, a⟩ := hh
  show rd X W g σ H _
  refine ⟨T, env, h, r1, r2, a.bind r1.mut fun e h1 T1 H1 v _ l1 q1 rv a1 => ?_⟩
  unfold kGet at a1
  cases e with
  | str z =>
    have hz := hv z
    dsimp only at a1
    cases e2 : kfind kvs z with
    | none =>
      rw [e2] at a1
      exact a1.elim
    | some e3 =>
      rw [e2] at hz a1
      obtain ⟨u, v', h2, h3, h4⟩ := hz
      exact ⟨_, u, v', rfl, rel_str_iff.mp rv, h2, h3, a1 T1 H1 v' Le.refl q1 (h4 T1 H1)⟩
  | _ => exact a1.elim
theorem rd_kin {neg : Bool} {f : Ex} {d : Addr} (hv : ∀ z : String, match kfind kvs z with
    | some e => ∃ u v, PySem.W.nsIn X.K d (Str.ofString z) = some (some u) ∧ RelV v u ∧ ∀ T H, rel X.K T H e v
    | none => PySem.W.nsIn X.K d (Str.ofString z) = some none) {σ : L2.St} {H : Hp} {Q : VK} (hh : rd X W (eUn (kIn neg kvs) f) σ H Q) :
    rd X W f σ H fun x H1 => ∃ (z : Str) (r : Option Value), x = .str z ∧ V.ref d = .ref d ∧ PySem.W.nsIn X.K d z = some r ∧ Q (.bl (if neg then !r.isSome else r.isSome)) H1 := by
  obtain ⟨T, env, h, r1, r2, a⟩ := hh
  refine ⟨T, env, h, r1, r2, a.bind r1.mut fun e h1 T1 H1 v _ l1 q1 rv a1 => ?_⟩
  unfold kIn at a1
  cases e with
  | str z =>
    have hz := hv z
    dsimp only at a1
    have q := a1 T1 H1 _ Le.refl q1 (rel_bl_iff.mpr rfl)
    cases e2 : kfind kvs z with
    | none =>
      rw [e2] at hz q
      exact ⟨_, none, rel_str_iff.mp rv, rfl, hz, q⟩
    | some e3 =>
      rw [e2] at hz q
      obtain ⟨u, v', h2, h3, h4⟩ := hz
      exact ⟨_, some u, rel_str_iff.mp rv, rfl, h2, q⟩
  | _ => exact a1.elim
theorem se_kin {a : Expr} {f : Ex} {p pos : Pos} (c : KCn X.K X.w X.mg x kvs) (hg : Gl X x) (ha : SE X W a f) (hm2 : behindInMarks .In (.Name x p) = false := by first | exact nomark _ | rfl) (hdb : (x == ("__debug__" : Str)) = false := by decide) :
    SE X W (.Compare a [.In] [.Name x p] pos) (eUn (kIn false kvs) f) := by
  obtain ⟨d, es, n, hm, kd, hv⟩ := c.ex
  exact PE.mono (pe_cmpR (op_in_kd kd) ha (pe_glob hg hm (v := .ref d) rfl hdb) hm2) fun σ H Q hh => rd_kin hv hh
theorem se_knin {a : Expr} {f : Ex} {p pos : Pos} (c : KCn X.K X.w X.mg x kvs) (hg : Gl X x) (ha : SE X W a f) (hm2 : behindInMarks .NotIn (.Name x p) = false := by first | exact nomark _ | rfl) (hdb : (x == ("__debug__" : Str)) = false := by decide) :
    SE X W (.Compare a [.NotIn] [.Name x p] pos) (eUn (kIn true kvs) f) := by
  obtain ⟨d, es, n, hm, kd, hv⟩ := c.ex
  exact PE.mono (pe_cmpR (op_notIn_kd kd) ha (pe_glob hg hm (v := .ref d) rfl hdb) hm2) fun σ H Q hh => rd_kin hv hh
theorem st_kin {a : Expr} {f : Ex} {p pos : Pos} (c : KCn X.K X.w X.mg x kvs) (hg : Gl X x) (ha : SE X W a f) (hm2 : behindInMarks .In (.Name x p) = false := by first | exact nomark _ | rfl) (hdb : (x == ("__debug__" : Str)) = false := by decide) :
    ST X W (.Compare a [.In] [.Name x p] pos) (tB (eUn (kIn false kvs) f)) := by
  obtain ⟨d, es, n, hm, kd, hv⟩ := c.ex
  exact PT.mono (pt_cmpR (op_in_kd kd) ha (pe_glob hg hm (v := .ref d) rfl hdb) hm2) fun σ H Q hh => rd_kin hv (rd_tB hh)
theorem st_knin {a : Expr} {f : Ex} {p pos : Pos} (c : KCn X.K X.w X.mg x kvs) (hg : Gl X x) (ha : SE X W a f) (hm2 : behindInMarks .NotIn (.Name x p) = false := by first | exact nomark _ | rfl) (hdb : (x == ("__debug__" : Str)) = false := by decide) :
    ST X W (.Compare a [.NotIn] [.Name x p] pos) (tB (eUn (kIn true kvs) f)) := by
  obtain ⟨d, es, n, hm, kd, hv⟩ := c.ex
  exact PT.mono (pt_cmpR (op_notIn_kd kd) ha (pe_glob hg hm (v := .ref d) rfl hdb) hm2) fun σ H Q hh => rd_kin hv (rd_tB hh)
end
/-! what the top has written there -/
def keyOfE (e : DictEntry) : Option (Str × Int) := match e.key with
  | .str x _ => some (x, e.hash)
  | _ => none
def keysP (P : Params) (ks : List Str) : List (Option (Str × Int)) := ks.map fun k => some (k, PyData.keyHash P k)
theorem keysLit_E {P : Params} : ∀ {l : List DictEntry} {ks : List Str}, l.map keyOfE = keysP P ks → PySem.W.KeysLit P l
  | [], _, _ => trivial
  | e :: r, [], h => by cases h
  | e :: r, k :: ks, h => by
    have h1 : keyOfE e :: r.map keyOfE = some (k, PyData.keyHash P k) :: keysP P ks := h
    injection h1 with h2 h3
    refine ⟨?_, keysLit_E h3⟩
    unfold keyOfE at h2
    split at h2
    · rename_i x t q
      have h4 := Option.some.inj h2
      obtain ⟨h5, h6⟩ := Prod.mk.inj h4
      exact ⟨x, t, q, by rw [h6, h5]⟩
    · cases h2
theorem nsIn_miss {K : PySem.W.Frag} {d : Addr} {oc : Value} {od : Option Addr} {es : Array DictEntry} {n : Nat} {sl : Array (Option Value)} {ks : List Str} {P : Params} (l : K.lookup d = some ⟨oc, od, .dict es n, sl⟩) (e : es.toList.map keyOfE = keysP P ks) {z : Str} (hz : z ∉ ks) : PySem.W.nsIn K d z = some none := by
  unfold PySem.W.nsIn
  rw [l]
  dsimp only
  have key : ∀ (xs : List DictEntry) (ks : List Str), xs.map keyOfE = keysP P ks → z ∉ ks → xs.find? (·.key.isStr z) = none ∧ xs.any (·.refKey) = false := by
    intro xs
    induction xs with
    | nil => intro ks _ _; exact ⟨rfl, rfl⟩
    | cons x xs ih =>
      intro ks e hz
      cases ks with
      | nil => cases e
      | cons k ks =>
        have e : keyOfE x :: xs.map keyOfE = some (k, PyData.keyHash P k) :: keysP P ks := e
        injection e with e1 e2
        obtain ⟨i1, i2⟩ := ih ks e2 fun h => hz (List.mem_cons_of_mem _ h)
        unfold keyOfE at e1
        split at e1
        · rename_i y t q
          obtain ⟨h5, h6⟩ := Prod.mk.inj (Option.some.inj e1)
          have hy : y ≠ z := fun e => hz (by rw [← e, h5]; exact List.mem_cons_self)
          refine ⟨?_, ?_⟩
          · rw [List.find?_cons, q]
            have : (Value.str y t).isStr z = false := by
              unfold Value.isStr
              simp [hy]
            rw [this]
            exact i1
          · rw [List.any_cons, i2]
            unfold DictEntry.refKey
            rw [q]
            rfl
        · cases e1
  obtain ⟨k1, k2⟩ := key _ ks e hz
  rw [k1, k2]
  rfl
def KVals (K : PySem.W.Frag) (q : Addr) : List (String × D) → Prop
  | [] => True
  | (k, d) :: r => (∃ u, PySem.W.nsIn K q (Str.ofString k) = some (some u) ∧ KD K d u) ∧ KVals K q r
theorem kvals_cons {K : PySem.W.Frag} {q : Addr} {k : String} {d : D} {r : List (String × D)} {u : Value} (e : PySem.W.nsIn K q (Str.ofString k) = some (some u)) (h : KD K d u) (t : KVals K q r) : KVals K q ((k, d) :: r) := ⟨⟨u, e, h⟩, t⟩
theorem kfind_some {K : PySem.W.Frag} {q : Addr} {z : String} {e : D} : ∀ {kvs : List (String × D)}, KVals K q kvs → kfind kvs z = some e → ∃ u, PySem.W.nsIn K q (Str.ofString z) = some (some u) ∧ KD K e u
  | [], _, h => by cases h
  | (k, d) :: r, ⟨h1, h2⟩, h => by
    unfold kfind at h
    split at h
    · rename_i hk
      cases h
      rw [← hk]
      exact h1
    · exact kfind_some h2 h
theorem kfind_none {z : String} : ∀ {kvs : List (String × D)}, kfind kvs z = none → Str.ofString z ∉ kvs.map fun p => Str.ofString p.1
  | [], _ => by simp
  | (k, d) :: r, h => by
    unfold kfind at h
    split at h
    · cases h
    · rename_i hk
      rw [List.map_cons, List.mem_cons]
      rintro (e | e)
      · exact hk (ofString_inj e).symm
      · exact kfind_none h e
theorem kcn_mk {w : World} {K : PySem.W.Frag} {h : Heap} {mg : Str → Option Value} {x : Str} {q : Addr} {es : Array DictEntry} {n : Nat} {kvs : List (String × D)} (X : K.In h) (G : h.Ns mainGlobals mg) (y : PySem.W.nsIn K mainGlobals x = some (some (.ref q)))
    (l : K.lookup q = some ⟨.type "dict", none, .dict es n, #[]⟩) (e : es.toList.map keyOfE = keysP w.params (kvs.map fun p => Str.ofString p.1)) (o : (q == sysModules) = false) (v : KVals K q kvs) : KCn K w mg x kvs := by
  refine ⟨q, es, n, PySem.W.mg_of X G y, ⟨l, keysLit_E e, o⟩, fun z => ?_⟩
  cases hz : kfind kvs z with
  | none => exact nsIn_miss l e (kfind_none hz)
  | some d =>
    obtain ⟨u, h1, v', h2, h3⟩ := kfind_some v hz
    exact ⟨u, v', h1, h2, h3.1⟩
@[simp] theorem wp_kGet {kvs : List (String × D)} {s : String} {h : HH} {q : D → HH → Prop} {e : String → HH → Prop} : Wp q e (kGet kvs (.str s) h) ↔ Wo (fun d => q d h) (kfind kvs s) := by
  unfold kGet; dsimp only; rw [wp_ofO]; exact Iff.rfl
@[simp] theorem wp_kIn {kvs : List (String × D)} {s : String} {h : HH} {neg : Bool} {q : D → HH → Prop} {e : String → HH → Prop} : Wp q e (kIn neg kvs (.str s) h) ↔ q (.bl (if neg then !(kfind kvs s).isSome else (kfind kvs s).isSome)) h := Iff.rfl
@[simp] theorem kfind_nil {z : String} : kfind [] z = none := rfl
@[simp] theorem kfind_cons {k z : String} {d : D} {r : List (String × D)} : kfind ((k, d) :: r) z = if k = z then some d else kfind r z := rfl
end Pu

namespace Pu
open PySem PySem.Spec PyProof.Rows L2

/-! ### zip of a text and a tuple -/
def ItzS (K : PySem.W.Frag) (x : Str) (b : Addr) (n : Nat) : It :=
  ⟨fun i H => ∃ (ys : List V) (c : Nat) (y : V), SqT K H b ys ∧ ys.length = n ∧ x.cps[i]? = some c ∧ ys[i]? = some y,
    fun i H v H' => ∃ T c y, v = .ref T ∧ H T = none ∧ H' = upd H T (.tup [.str ⟨#[c]⟩, y]) ∧ x.cps[i]? = some c ∧ ∀ ys, SqT K H b ys → ys[i]? = some y,
    fun i H => ∃ ys : List V, SqT K H b ys ∧ ys.length = n ∧ (x.cps.size ≤ i ∨ n ≤ i)⟩
theorem turn_zipS {P : Program} {w : World} {K : PySem.W.Frag} {elts : List Expr} {kk : Nat} {tpos : Pos} {x : Str} {t : Tok} {b z TI TO i1 i2 : Addr} {n : Nat} (D : ZipSep2 z TI TO i1 i2 [i1] [i2, b]) (hb2 : b ≠ i2) :
    Turn P w K (.Tuple elts kk tpos) (ItzS K x b n) [z, TI, TO, i1, i2] z (fun i h => IsZip h z TI TO .none ∧ IsTupOf2 h TI (.ref i1) (.ref i2) ∧ (∃ x y, IsTupOf2 h TO x y) ∧ h.IsStrIter i1 (strIterType x) x t i ∧ h.IsTupleIter i2 b i ∧ i ≤ x.cps.size ∧ i ≤ n) where
  mem := by simp
  obj := fun i h st c hc => by
    obtain ⟨hz, hTI, ⟨x, y, hTO⟩, ⟨o1, e1, _, d1⟩, ⟨o2, e2, _, d2⟩, _⟩ := st
    have e' : c = z ∨ c = TI ∨ c = TO ∨ c = i1 ∨ c = i2 := by simpa using hc
    rcases e' with q | q | q | q | q
    · rw [q]; exact ⟨_, hz, fun v q => nomatch q⟩
    · rw [q]; exact ⟨_, hTI, fun v q => nomatch q⟩
    · rw [q]; exact ⟨_, hTO, fun v q => nomatch q⟩
    · rw [q]; exact ⟨o1, e1, fun v q => by rw [d1] at q; cases q⟩
    · rw [q]; exact ⟨o2, e2, fun v q => by rw [d2] at q; cases q⟩
  keep := fun i h h' st k => by
    obtain ⟨hz, hTI, ⟨x, y, hTO⟩, ⟨o1, e1, r1⟩, h2, hl⟩ := st
    exact ⟨k z (by simp) _ hz, k TI (by simp) _ hTI, ⟨x, y, k TO (by simp) _ hTO⟩, ⟨o1, k i1 (by simp) _ e1, r1⟩, h2.at fun o q => k i2 (by simp) o q, hl⟩
  item := by
    intro X hP hw hK hc i pins s σ H E I hf st hg
    subst hP hw hK
    obtain ⟨hz, hTI, ⟨x0, y0, hTO⟩, h1, h2, hl1, hl2⟩ := st
    obtain ⟨ys, c, y, hqy, hn, hx, hy⟩ := hg
    obtain ⟨its2, rv2, p2, _⟩ := I.tuple hqy
    obtain ⟨u2, hu2, ru2⟩ := rv2.get hy
    have hzl : z < s.heap.objs.size := Heap.lt_size hz
    have hh : X.A.in1.handled = none := I.ok.hd hc
    have D1 := Draws.text (prog := X.prog) (w := X.w) hh i1 x t
    have D2 := Draws.tuple (prog := X.prog) (w := X.w) hh i2 b hb2 its2.toArray
    have hi1 : i < x.cps.size := (Array.getElem?_eq_some_iff.mp hx).1
    have hi2 : i < its2.toArray.size := by
      have := (List.getElem?_eq_some_iff.mp hu2).1
      simpa using this
    refine wpAny_pyNext_zipD2_item D D1 D2 hz hTI hTO h1 ⟨h2, p2⟩ hi1 hi2 fun x1 x2 h' tk P1 P2 z' TO' st1 st2 hT hsz hk => ?_
    obtain ⟨c', u1, hc', rfl⟩ := P1
    have e1 : c' = c := by rw [hx] at hc'; exact (Option.some.inj hc').symm
    subst e1
    have e2 : x2 = u2 := by
      have h3 : its2[i]? = some x2 := by simpa using P2
      rw [hu2] at h3; exact (Option.some.inj h3).symm
    subst e2
    refine ⟨_, rfl, wpAny_letOwnedTupleGo_zip (s := { s with heap := h', toks := tk }) z' fun h'' z'' sb => ?_⟩
    have hT2 : h''.get? s.heap.objs.size = some { cls := .type "tuple", data := .seq #[.str ⟨#[c']⟩ u1, x2] } := (sb.2 _ (Nat.ne_of_gt hzl)).trans hT
    have new : ObjOk X.prog X.w (upd H s.heap.objs.size (.tup [.str ⟨#[c']⟩, y])) h'' s.heap.objs.size (.tup [.str ⟨#[c']⟩, y]) :=
      ⟨by show 2 ≤ sizeLine; decide, [.str ⟨#[c']⟩ u1, x2], .cons ⟨_, rfl⟩ (.cons ru2 .nil), ⟨_, hT2, rfl, _, rfl⟩⟩
    have I1 : Inv X pins σ (upd H s.heap.objs.size (.tup [.str ⟨#[c']⟩, y])) { s with heap := h'', toks := tk } :=
      I.turnedNew (t' := tk) (ch := [z, TI, TO, i1, i2]) (fun c o hb q => (sb.2 c (fun q' => hb (by simp [q']))).trans (hk c o (fun q' => hb (by simp [q'])) (fun q' => hb (by simp [q'])) (fun q' => hb (by simp [q'])) (fun q' => hb (by simp [q'])) q)) hf (Nat.le_refl _) new
    have i1z : i1 ≠ z := fun e => D.zf1 (by rw [← e]; simp)
    have i2z : i2 ≠ z := fun e => D.zf2 (by rw [← e]; simp)
    refine ⟨.ref s.heap.objs.size, _, I1, rfl, ⟨_, c', y, rfl, I.hok.fresh (Nat.le_refl _), rfl, hx, fun l hl => by rw [I.tuple_inj hl hqy]; exact hy⟩, ⟨z'', ?_, ⟨.str ⟨#[c']⟩ u1, x2, ?_⟩, ?_, ?_, hi1, ?_⟩, fun c hcm => ?_⟩
    · exact (sb.2 _ D.TIz).trans (hk _ _ D.TIz D.TITO D.TIi1 D.TIi2 hTI)
    · exact (sb.2 _ D.TOz).trans TO'
    · obtain ⟨o1, e1, r1⟩ := st1
      exact ⟨o1, (sb.2 _ i1z).trans e1, r1⟩
    · exact st2.1.at fun o q => (sb.2 _ i2z).trans q
    · have := rv2.length
      simp at hi2
      omega
    · have hlt : c < s.heap.objs.size := by
        have e' : c = z ∨ c = TI ∨ c = TO ∨ c = i1 ∨ c = i2 := by simpa using hcm
        rcases e' with q | q | q | q | q
        · rw [q]; exact hzl
        · rw [q]; exact Heap.lt_size hTI
        · rw [q]; exact Heap.lt_size hTO
        · rw [q]; obtain ⟨_, e1, _⟩ := h1; exact Heap.lt_size e1
        · rw [q]; obtain ⟨_, e2, _⟩ := h2; exact Heap.lt_size e2
      rw [upd_ne (Nat.ne_of_lt hlt)]
      exact (hf c hcm).1
  done := by
    intro X hP hw hK hc i pins s σ H E I hf st hg
    subst hP hw hK
    obtain ⟨hz, hTI, ⟨x0, y0, hTO⟩, h1, h2, hl1, hl2⟩ := st
    obtain ⟨ys, hqy, hn, hend⟩ := hg
    obtain ⟨its2, rv2, p2, _⟩ := I.tuple hqy
    have l2 := rv2.length
    have hh : X.A.in1.handled = none := I.ok.hd hc
    have D1 := Draws.text (prog := X.prog) (w := X.w) hh i1 x t
    have D2 := Draws.tuple (prog := X.prog) (w := X.w) hh i2 b hb2 its2.toArray
    exact wpAny_pyNext_zipD2_end D D1 D2 hz hTI hTO h1 ⟨h2, p2⟩ hl1 (by simp; omega) (by simp; omega) fun h' tk hk => ⟨rfl, I.turnedL (t' := tk) (ch := [z, TI, TO, i1, i2]) (fun c o hb q =>
      hk c o (fun q' => hb (by simp [q'])) (fun q' => hb (by simp [q'])) (fun q' => hb (by simp [q'])) (fun q' => hb (by simp [q'])) q) hf⟩
  self := fun A i s Q E st h => wpAny_pyIter_zip st.1 h
def iZipS (K : PySem.W.Frag) (ta : TA) : TI := fun σ H R => ta σ H fun vs H1 => ∃ x b ys, vs = [.str x, .ref b] ∧ SqT K H1 b ys ∧ R (ItzS K x b ys.length) H1
theorem pi_zipS {X : Cx} {e e2 : Expr} {ta : TA} {p pos tpos : Pos} {elts : List Expr} {kk : Nat} (hg : Gl X "zip") (hm : X.mg "zip" = none) (ha : PA X [e, e2] ta)
    (hs : starEach [e, e2] X.env = (false, eval e X.env) :: starEach [e2] X.env := by rfl) (hpl : (backTo pos (starEach [e2] X.env)).any (·.1) = false := by rfl) :
    PI X (.Tuple elts kk tpos) (.Call (.Name "zip" p) [e, e2] [] pos) (iZipS X.K ta) := by
  refine ⟨fun pins s σ H R I h => ?_⟩
  refine Call_ (ld_blt I hg hm PyProof.Rows.boot_zip (PyProof.Rows.callWith_type1 (thn (ha.run pos pins s σ H _ I h) fun us s1 ⟨vs, H1, I1, r1, q1⟩ => ?_) hs hpl))
  obtain ⟨x, b, ys, ex, hqy, q⟩ := q1
  subst ex
  cases r1 with
  | cons r rr =>
    cases rr with
    | cons r' rr =>
      cases rr
      obtain ⟨t, rfl⟩ := r
      cases r'
      have fresh5 : ∀ c, c ∈ [s1.heap.objs.size + 4, s1.heap.objs.size + 2, s1.heap.objs.size + 3, s1.heap.objs.size, s1.heap.objs.size + 1] → FpOk X pins H1 c := fun c hcm => by
        have e' : c = s1.heap.objs.size + 4 ∨ c = s1.heap.objs.size + 2 ∨ c = s1.heap.objs.size + 3 ∨ c = s1.heap.objs.size ∨ c = s1.heap.objs.size + 1 := by simpa using hcm
        have hle : s1.heap.objs.size ≤ c := by
          rcases e' with z | z | z | z | z
          · rw [z]; exact Nat.le_add_right _ _
          · rw [z]; exact Nat.le_add_right _ _
          · rw [z]; exact Nat.le_add_right _ _
          · rw [z]; exact Nat.le_refl _
          · rw [z]; exact Nat.le_add_right _ _
        exact I1.fpOk hle (I1.hok.fresh hle)
      obtain ⟨its2, rv2, p2, _⟩ := I1.tuple hqy
      have hbl : b < s1.heap.objs.size := by obtain ⟨_, q, _⟩ := id p2; exact Heap.lt_size q
      refine zip_begins2 (begins_text x t) (begins_tuple b its2.toArray) trivial p2 fun h' hz hTI hTO h1 h2 hsz hk => wpAny_pyIter_zip hz ?_
      have I2 : Inv X pins σ H1 { s1 with heap := h' } := I1.kept (t' := s1.toks) hk
      exact ⟨s1.heap.objs.size + 4, [s1.heap.objs.size + 4, s1.heap.objs.size + 2, s1.heap.objs.size + 3, s1.heap.objs.size, s1.heap.objs.size + 1], _, _, H1, rfl, I2,
        turn_zipS (t := t) (zip_sep2 (fp1 := []) (fp2 := [b]) (fun _ h => by cases h) (fun c h => by rw [List.mem_singleton.mp h]; exact hbl)) (Nat.ne_of_lt (Nat.lt_succ_of_lt hbl)),
        ⟨hz, hTI, ⟨_, _, hTO⟩, ⟨_, h1, rfl, rfl⟩, ⟨_, h2, rfl, rfl⟩, Nat.zero_le _, Nat.zero_le _⟩, fresh5, q⟩
theorem PI.or2 {X : Cx} {tg e : Expr} {t t1 t2 : TI} (h1 : PI X tg e t1) (h2 : PI X tg e t2) (i : ∀ σ H R, t σ H R → t1 σ H R ∨ t2 σ H R) : PI X tg e t :=
  ⟨fun pins s σ H R I hq => (i σ H R hq).elim (h1.run pins s σ H R I) (h2.run pins s σ H R I)⟩
def chsD (s : String) : List D := s.toList.map chD
def iZipX (f : Exs) : Ei := fun env h => (f env h).bind fun ds h1 => match ds with
  | [.str s, .tup ys] => .ok ⟨zipD (chsD s) ys, []⟩ h1
  | [.tup xs, .tup ys] => .ok ⟨zipD xs ys, []⟩ h1
  | [a, b] => ofO (itemsL h1 a) fun xs => ofO (itemsL h1 b) fun ys => .ok ⟨zipD xs ys, chkD a xs ++ chkD b ys⟩ h1
  | _ => .stuck
section
variable {X : Cx} {W : WX}
theorem wk_zipS {K : PySem.W.Frag} {x : Str} {b : Addr} {n : Nat} : Walk (ItzS K x b n) (min x.cps.size n) (fun H => ∃ vs, vs.length = n ∧ SqT K H b vs)
    (fun i H v H' => ∃ T c y, v = .ref T ∧ H T = none ∧ H' = upd H T (.tup [.str ⟨#[c]⟩, y]) ∧ x.cps[i]? = some c ∧ ∀ ys, SqT K H b ys → ys[i]? = some y) :=
  ⟨fun i _ hi ⟨vs, e, q⟩ => ⟨vs, x.cps[i]'(by omega), vs[i]'(by omega), q, e, Array.getElem?_eq_getElem _, List.getElem?_eq_getElem _⟩,
    fun _ ⟨vs, e, q⟩ => ⟨vs, q, e, by omega⟩, fun _ _ _ _ _ _ y => y⟩
theorem chs_get {s : String} {i c : Nat} (h : (Str.ofString s).cps[i]? = some c) : ∃ d, (chsD s)[i]? = some d ∧ ∀ {K T H}, rel K T H d (.str ⟨#[c]⟩) := by
  have h2 : (Str.ofString s).cps.toList[i]? = some c := by simpa using h
  rw [cps_of, List.getElem?_map] at h2
  cases h3 : s.toList[i]? with
  | none => rw [h3] at h2; cases h2
  | some ch =>
    rw [h3] at h2
    cases h2
    refine ⟨chD ch, by unfold chsD; rw [List.getElem?_map, h3]; rfl, fun {K T H} => ?_⟩
    unfold chD
    rw [rel_str_iff, Str.ofString_eq_toList]
    simp
theorem si_zipX {e1 e2 : Expr} {f : Exs} {p pos tpos : Pos} {elts : List Expr} {kk : Nat} (hg : Gl X "zip") (hm : X.mg "zip" = none) (ha : SA X W [e1, e2] f)
    (hs : starEach [e1, e2] X.env = (false, eval e1 X.env) :: starEach [e2] X.env := by rfl) (hpl : (backTo pos (starEach [e2] X.env)).any (·.1) = false := by rfl) :
    SI X W (.Tuple elts kk tpos) (.Call (.Name "zip" p) [e1, e2] [] pos) (iZipX f) := PI.or2 (pi_zipS hg hm ha.pa hs hpl) (si_zip hg hm ha hs hpl) fun σ H QR hh => by
  obtain ⟨T, env, h, r1, r2, a⟩ := hh
  have key : (∃ s ys h1, f env h = .ok [.str s, .tup ys] h1) ∨ iZipX f env h = iZip8 f env h := by
    unfold iZipX iZip8
    cases e : f env h with
    | ok ds h1 =>
      by_cases hc : ∃ s ys, ds = [.str s, .tup ys]
      · obtain ⟨s, ys, rfl⟩ := hc
        exact .inl ⟨s, ys, h1, rfl⟩
      · right
        rcases ds with _ | ⟨a, _ | ⟨b, _ | ⟨c, r⟩⟩⟩
        · rfl
        · cases a <;> rfl
        · cases a <;> first | rfl | (cases b <;> first | rfl | exact absurd ⟨_, _, rfl⟩ hc)
        · cases a <;> first | rfl | (cases b <;> rfl)
    | exc c h1 => exact .inr rfl
    | stuck => exact .inr rfl
  rcases key with ⟨s, ys, h1, e⟩ | e
  · left
    refine ⟨T, env, h, r1, r2, ?_⟩
    have a : After X.K X.mg W T H σ (Itr8 X.K) QR ((f env h).bind fun ds h1 => match ds with
      | [.str s, .tup ys] => R.ok ⟨zipD (chsD s) ys, []⟩ h1
      | [.tup xs, .tup ys] => .ok ⟨zipD xs ys, []⟩ h1
      | [a, b] => ofO (itemsL h1 a) fun xs => ofO (itemsL h1 b) fun ys => .ok ⟨zipD xs ys, chkD a xs ++ chkD b ys⟩ h1
      | _ => .stuck) := a
    refine a.bind r1.mut fun ds h1 T1 H1 vs e' l1 q1 rvs a1 => ?_
    rw [e] at e'
    cases e'
    dsimp only at a1
    obtain ⟨v, u, rfl, rv, ru⟩ := rels_two rvs
    obtain ⟨p2, rfl, s2⟩ := tup_stay q1 ru
    obtain ⟨vs2, t2, w2⟩ := s2 T1 H1 Le.refl
    refine ⟨_, p2, vs2, by rw [rel_str_iff.mp rv], t2, After.done a1 q1 ?_⟩
    have hl : (Str.ofString s).cps.size = (chsD s).length := by
      have : (Str.ofString s).cps.toList.length = s.toList.length := by rw [cps_of, List.length_map]
      unfold chsD
      rw [List.length_map, ← this, Array.length_toList]
    have hl2 : vs2.length = ys.length := rels_length w2
    refine ⟨_, _, by rw [zipD_len, ← hl, ← hl2]; exact wk_zipS, fun T3 H3 h3 l3 r3 hc => ?_, fun i H3 x H' hi y T3 h3 l3 r3 hc => ?_⟩
    · obtain ⟨ws2, t2, r2⟩ := s2 T3 H3 l3
      exact ⟨ws2, by rw [rels_length r2, hl2], t2⟩
    · obtain ⟨ws2, t2, w2⟩ := s2 T3 H3 l3
      obtain ⟨T', c', y', rfl, hp, rfl, y1, y2⟩ := y
      obtain ⟨d1, g1, k1⟩ := chs_get y1
      obtain ⟨d2, g2, k2⟩ := rels_back w2 (y2 _ t2)
      obtain ⟨z1, z2, z3⟩ := Le.tup r3 hp (rels_cons k1 (rels_cons k2 rels_nil)) rfl
      exact ⟨_, zipD_get g1 g2, z1, z2, z3⟩
  · right
    exact ⟨T, env, h, r1, r2, by rw [← e]; exact a⟩
end
def zpX (h : HH) (ds : List D) : Option IT := match ds with
  | [.str s, .tup ys] => some ⟨zipD (chsD s) ys, []⟩
  | ds => zpD h ds
@[simp ↓] theorem wp_iZipX {f : Exs} {env : En} {h : HH} {qi : IT → HH → Prop} {e : String → HH → Prop} : Wp qi e (iZipX f env h) ↔ Wp (fun ds h1 => Wo (fun x => qi x h1) (zpX h1 ds)) e (f env h) := by
  unfold iZipX
  rw [wp_bind]
  refine wp_congr fun ds h1 => ?_
  have z : ∀ a b : D, Wp qi e (match [a, b] with
    | [.str s, .tup ys] => R.ok (IT.mk (zipD (chsD s) ys) []) h1
    | [.tup xs, .tup ys] => R.ok (IT.mk (zipD xs ys) []) h1
    | [a, b] => ofO (itemsL h1 a) fun xs => ofO (itemsL h1 b) fun ys => R.ok (IT.mk (zipD xs ys) (chkD a xs ++ chkD b ys)) h1
    | _ => R.stuck) ↔ Wo (fun x => qi x h1) (zpX h1 [a, b]) := fun a b => by
    have g : ∀ o1 o2 : Option (List D), Wp qi e (ofO o1 fun xs => ofO o2 fun ys => R.ok (IT.mk (zipD xs ys) (chkD a xs ++ chkD b ys)) h1) ↔ Wo (fun x => qi x h1) (o1.bind fun xs => o2.map fun ys => IT.mk (zipD xs ys) (chkD a xs ++ chkD b ys)) := fun o1 o2 => by
      cases o1 <;> cases o2 <;> rfl
    cases a <;> first | exact g _ _ | (cases b <;> first | rfl | exact g _ _)
  rcases ds with _ | ⟨a, _ | ⟨b, _ | ⟨c, r⟩⟩⟩
  · rfl
  · cases a <;> rfl
  · exact z a b
  · cases a <;> first | rfl | (cases b <;> rfl)
@[simp] theorem zpX_st {h : HH} {s : String} {ys : List D} : zpX h [.str s, .tup ys] = some ⟨zipD (chsD s) ys, []⟩ := rfl
@[simp] theorem zpX_tt {h : HH} {xs ys : List D} : zpX h [.tup xs, .tup ys] = some ⟨zipD xs ys, []⟩ := rfl
@[simp] theorem zpX_ll {h : HH} {xs ys : List D} : zpX h [.lst xs, .lst ys] = some ⟨zipD xs ys, []⟩ := rfl
@[simp] theorem chs_bn : chsD "bn" = [.str "b", .str "n"] := rfl
@[simp] theorem chs_bb : chsD "bb" = [.str "b", .str "b"] := rfl
@[simp] theorem chs_b : chsD "b" = [.str "b"] := rfl
@[simp] theorem same_tnil {h : HH} {xs : List D} : same? h (.tup xs) (.tup []) = some xs.isEmpty := by
  have hv : ∀ xs, view h (.tup xs) = .tup xs := fun _ => rfl
  unfold same?
  rw [hv, hv]
  split
  · cases xs with
    | nil => rfl
    | cons x r => unfold eqv toP toPs; rfl
  · unfold sameX
    rw [show seqA h (.tup xs) = some (true, xs) from rfl, show seqA h (.tup []) = some (true, []) from rfl]
    cases xs <;> rfl
theorem lenD_str {h : HH} {s : String} (e : s.length ≤ sz) : lenD h (.str s) = some s.length := if_pos e
@[simp] theorem lenD_bn {h : HH} : lenD h (.str "bn") = some 2 := lenD_str (by decide)
@[simp] theorem lenD_bb {h : HH} : lenD h (.str "bb") = some 2 := lenD_str (by decide)
@[simp] theorem lenD_b {h : HH} : lenD h (.str "b") = some 1 := lenD_str (by decide)
end Pu

namespace Pu
open PySem PySem.Spec PyProof.Rows L2

/-! ### sorted texts -/
abbrev keyS (s : String) : List Nat := (Str.ofString s).cps.toList
theorem keyS_inj {s t : String} (h : keyS s = keyS t) : s = t := ofString_inj (by
  have : (Str.ofString s).cps = (Str.ofString t).cps := Array.toList_inj.mp h
  cases h1 : Str.ofString s; cases h2 : Str.ofString t
  rw [h1, h2] at this
  simpa using this)
def leS (s t : String) : Bool := !decide (keyS t < keyS s)
theorem leS_total {s t : String} (h : leS s t = false) : leS t s = true := by
  simp only [leS, Bool.not_eq_false', decide_eq_true_eq, Bool.not_eq_true', decide_eq_false_iff_not] at h ⊢
  exact List.lt_asymm h
theorem leS_anti {s t : String} (h1 : leS s t = true) (h2 : leS t s = true) : s = t := by
  simp only [leS, Bool.not_eq_true', decide_eq_false_iff_not] at h1 h2
  exact keyS_inj (List.le_antisymm (List.not_lt.mp h1) (List.not_lt.mp h2))
theorem leS_trans {s t u : String} (h1 : leS s t = true) (h2 : leS t u = true) : leS s u = true := by
  simp only [leS, Bool.not_eq_true', decide_eq_false_iff_not] at h1 h2 ⊢
  exact List.not_lt.mpr (List.le_trans (List.not_lt.mp h1) (List.not_lt.mp h2))
/-- in order, by a rule -/
def insR {α : Type} (le : α → α → Bool) (k : α) : List α → List α
  | [] => [k]
  | a :: l => if le k a = true then k :: a :: l else a :: insR le k l
def sortR {α : Type} (le : α → α → Bool) (xs : List α) : List α := xs.foldr (insR le) []
section
variable {α : Type} {le : α → α → Bool}
theorem insR_perm {k : α} : ∀ l : List α, (insR le k l).Perm (k :: l)
  | [] => .refl _
  | a :: l => by
    unfold insR
    split
    · exact .refl _
    · exact ((insR_perm l).cons a).trans (.swap k a l)
theorem sortR_perm : ∀ xs : List α, (sortR le xs).Perm xs
  | [] => .refl _
  | a :: l => by
    have ih := sortR_perm l
    unfold sortR at ih ⊢
    rw [List.foldr_cons]
    exact (insR_perm _).trans (ih.cons a)
theorem insR_sorted (tot : ∀ a b, le a b = false → le b a = true) (tr : ∀ a b c, le a b = true → le b c = true → le a c = true) {k : α} : ∀ {l : List α}, l.Pairwise (fun a b => le a b = true) → (insR le k l).Pairwise (fun a b => le a b = true)
  | [], _ => by simp [insR]
  | a :: l, h => by
    have h' := List.pairwise_cons.mp h
    unfold insR
    split
    · rename_i hk
      refine List.pairwise_cons.mpr ⟨fun b hb => ?_, h⟩
      rcases List.mem_cons.mp hb with e | e
      · rw [e]; exact hk
      · exact tr _ _ _ hk (h'.1 b e)
    · rename_i hk
      refine List.pairwise_cons.mpr ⟨fun b hb => ?_, insR_sorted tot tr h'.2⟩
      rcases List.mem_cons.mp ((insR_perm l).mem_iff.mp hb) with e | e
      · rw [e]; exact tot _ _ (by simpa using hk)
      · exact h'.1 b e
theorem sortR_sorted (tot : ∀ a b, le a b = false → le b a = true) (tr : ∀ a b c, le a b = true → le b c = true → le a c = true) : ∀ xs : List α, (sortR le xs).Pairwise (fun a b => le a b = true)
  | [] => by simp [sortR]
  | a :: l => by
    have ih := sortR_sorted tot tr l
    unfold sortR at ih ⊢
    rw [List.foldr_cons]
    exact insR_sorted tot tr ih
theorem perm_ext (anti : ∀ a b, le a b = true → le b a = true → a = b) : ∀ {l m : List α}, l.Pairwise (fun a b => le a b = true) → m.Pairwise (fun a b => le a b = true) → l.Perm m → l = m
  | [], m, _, _, h => h.nil_eq
  | a :: l, [], _, _, h => by have := h.length_eq; simp at this
  | a :: l, b :: m, h1, h2, h => by
    have h1' := List.pairwise_cons.mp h1
    have h2' := List.pairwise_cons.mp h2
    have e : a = b := by
      have m1 : a ∈ b :: m := h.mem_iff.mp (by simp)
      have m2 : b ∈ a :: l := h.mem_iff.mpr (by simp)
      rcases List.mem_cons.mp m1 with e | e
      · exact e
      · rcases List.mem_cons.mp m2 with e2 | e2
        · exact e2.symm
        · exact anti _ _ (h1'.1 b e2) (h2'.1 a e)
    subst e
    exact congrArg (a :: ·) (perm_ext anti h1'.2 h2'.2 h.cons_inv)
theorem sortR_mem {xs : List α} {a : α} : a ∈ sortR le xs ↔ a ∈ xs := (sortR_perm xs).mem_iff
theorem sortR_length {xs : List α} : (sortR le xs).length = xs.length := (sortR_perm xs).length_eq
end
def sortS (xs : List String) : List String := sortR leS xs
theorem sortS_sorted (xs : List String) : (sortS xs).Pairwise (fun a b => leS a b = true) := sortR_sorted (le := leS) (fun _ _ h => leS_total h) (fun _ _ _ h h' => leS_trans h h') xs
theorem rising_all : ∀ (p : Str) (l : List Str), risingS p l = true → (p :: l).Pairwise (fun a b => ltCps b.cps.toList a.cps.toList = false) 
  | p, [], _ => by simp
  | p, x :: r, h => by
    have h : (!ltCps x.cps.toList p.cps.toList && risingS x r) = true := h
    rw [Bool.and_eq_true] at h
    have ih := rising_all x r h.2
    refine List.pairwise_cons.mpr ⟨fun b hb => ?_, ih⟩
    have h1 : ltCps x.cps.toList p.cps.toList = false := by simpa using h.1
    rcases List.mem_cons.mp hb with e | e
    · rw [e]; exact h1
    · have h2 := (List.pairwise_cons.mp ih).1 b e
      rw [ltCps_eq] at h1 h2 ⊢
      simp only [decide_eq_false_iff_not] at h1 h2 ⊢
      exact List.not_lt.mpr (List.le_trans (List.not_lt.mp h1) (List.not_lt.mp h2))
theorem sortedS_all : ∀ l : List Str, sortedS l = true → l.Pairwise (fun a b => ltCps b.cps.toList a.cps.toList = false)
  | [], _ => by simp
  | x :: r, h => rising_all x r h
def strsD : List D → Option (List String)
  | [] => some []
  | .str s :: ds => (strsD ds).map (s :: ·)
  | _ :: _ => none
theorem rels_txts {K T H} : ∀ {ds : List D} {vs : List V} {ss : List String}, rels K T H ds vs → strsD ds = some ss → vs = (ss.map Str.ofString).map V.str
  | [], vs, ns, r, e => by unfold rels at r; unfold strsD at e; cases e; rw [r]; rfl
  | d :: ds, vs, ns, r, e => by
    unfold rels at r
    obtain ⟨v, t, rfl, r1, r2⟩ := r
    unfold strsD at e
    split at e
    · rename_i heq; cases heq
    · rename_i i ds' heq
      cases heq
      cases e2 : strsD ds with
      | none => rw [e2] at e; cases e
      | some ms =>
        rw [e2] at e; cases e
        rw [rels_txts r2 e2]
        unfold rel at r1
        rw [r1]; rfl
    · cases e
theorem rels_ofStrs {K : PySem.W.Frag} {T : Tk} {H : Hp} : ∀ ss : List String, rels K T H (ss.map D.str) ((ss.map Str.ofString).map V.str)
  | [] => rels_nil
  | s :: ss => rels_cons (by unfold rel; rfl) (rels_ofStrs ss)
/-- a list of the texts in order is the one -/
theorem sortS_of {ss : List String} {ys : List Str} (hp : ys.Perm (ss.map Str.ofString)) (hs : sortedS ys = true) : ys = (sortS ss).map Str.ofString := by
  have h1 : ∀ y ∈ ys, ∃ s, Str.ofString s = y := fun y hy => by
    obtain ⟨s, _, e⟩ := List.mem_map.mp (hp.mem_iff.mp hy)
    exact ⟨s, e⟩
  obtain ⟨zs, rfl⟩ : ∃ zs : List String, ys = zs.map Str.ofString := by
    clear hp hs
    induction ys with
    | nil => exact ⟨[], rfl⟩
    | cons y ys ih =>
      obtain ⟨s, e⟩ := h1 y (by simp)
      obtain ⟨zs, e2⟩ := ih fun z hz => h1 z (by simp [hz])
      exact ⟨s :: zs, by rw [e2, ← e]; rfl⟩
  have hp' : zs.Perm ss := by
    have inj : Function.Injective Str.ofString := fun a b e => ofString_inj e
    have key : ∀ (l m : List String), (l.map Str.ofString).Perm (m.map Str.ofString) → l.Perm m := fun l m h => by
      rw [List.perm_iff_count] at h ⊢
      intro a
      have e1 : ∀ l : List String, (l.map Str.ofString).count (Str.ofString a) = l.count a := fun l => by
        induction l with
        | nil => rfl
        | cons x l ih =>
          rw [List.map_cons, List.count_cons, List.count_cons, ih]
          by_cases hx : x = a
          · subst hx; simp
          · have : ¬ Str.ofString x = Str.ofString a := fun z => hx (ofString_inj z)
            simp [hx, this]
      rw [← e1, ← e1]; exact h _
    exact key _ _ hp
  refine congrArg (List.map Str.ofString) (perm_ext (fun _ _ => leS_anti) ?_ (sortS_sorted ss) (hp'.trans (sortR_perm ss).symm))
  have := sortedS_all _ hs
  rw [List.pairwise_map] at this
  refine this.imp fun {a b} h => ?_
  rw [ltCps_eq] at h
  unfold leS
  rw [h]; rfl

/-! ### sets of texts -/
theorem txs_get : ∀ {vs : List Value} {ss : List Str}, StrsAre vs ss → ∀ (i : Nat) (v : Value), vs[i]? = some v → ∃ k t, ss[i]? = some k ∧ v = .str k t := by
  intro vs ss h
  induction h with
  | nil => intro i v h; simp at h
  | cons x t r ih =>
    intro i v h
    cases i with
    | zero => simp at h; exact ⟨x, t, rfl, h.symm⟩
    | succ i => simpa using ih i v (by simpa using h)
theorem perm_of_sub {α : Type} [BEq α] [LawfulBEq α] : ∀ {l m : List α}, l.Nodup → (∀ k ∈ l, k ∈ m) → m.length ≤ l.length → m.Perm l
  | [], m, _, _, h => by
    have : m = [] := List.eq_nil_of_length_eq_zero (by simpa using h)
    rw [this]
  | a :: l, m, nd, sub, h => by
    have nd' := List.nodup_cons.mp nd
    have ha : a ∈ m := sub a (by simp)
    have p := List.perm_cons_erase ha
    refine p.trans ((perm_of_sub nd'.2 (fun k hk => ?_) ?_).cons a)
    · exact (List.mem_erase_of_ne (fun (z : k = a) => nd'.1 (z ▸ hk))).mpr (sub k (by simp [hk]))
    · have := p.length_eq
      simp at this h ⊢
      omega
structure TxAt (P : Program) (w : World) (h : Heap) (a : Addr) (D : Froz.SD) (l : List Str) : Prop where
  at_ : h.get? a = some (Froz.sObj "set" D)
  ok : Froz.TxOk P w D l
  nd : l.Nodup
  ris : Ris D.2.2.place.toList
  led : w.params.followText "set-order" = true ∨ D.2.2.led = true
theorem tailTx_ris {ep : Nat} {es1 : Array (Int × Value)} {t2 : SetTable} {wd : Bool} (r : Ris t2.place.toList) : Ris (Froz.tailTx ep es1 t2 wd).2.2.place.toList := by
  unfold Froz.tailTx
  split
  · exact relayAll_ris ..
  · exact r
theorem tailTx_led {ep : Nat} {es1 : Array (Int × Value)} {t2 : SetTable} {wd : Bool} : (Froz.tailTx ep es1 t2 wd).2.2.led = t2.led := by
  unfold Froz.tailTx
  split
  · exact relayAll_led ..
  · rfl
theorem addTx_ris {h : Int} {v : Value} {D : Froz.SD} (r : Ris D.2.2.place.toList) : Ris (Froz.addTx h v D).2.2.place.toList := by
  have r1 := layNew_ris D.2.2 D.1 h v r
  unfold Froz.addTx
  refine tailTx_ris ?_
  split <;> exact r1
theorem addTx_led {h : Int} {v : Value} {D : Froz.SD} : (Froz.addTx h v D).2.2.led = D.2.2.led := by
  have r1 := layNew_led D.2.2 D.1 h v
  unfold Froz.addTx
  rw [tailTx_led]
  split <;> exact r1
section
variable {Pg : Program} {wd : World} {Ar : Around} {Ee : Value → Shared → Prop} {st : Shared}
theorem tx_add {a : Addr} {D : Froz.SD} {l : List Str} {k : Str} {u : Tok} {Qp : Bool → Shared → Prop} (F : TxAt Pg wd st.heap a D l) (hb : l.length + 1 < scanBound)
    (fin : ∀ h' D' l' b, Heap.SameBut a st.heap h' → TxAt Pg wd h' a D' l' → (∀ j, j ∈ l' ↔ j = k ∨ j ∈ l) → l'.length ≤ l.length + 1 → Qp b { st with heap := h' }) :
    wpAny (model Pg wd) Ar (setAddHashed a (.str k u) (hashStr wd k)) Qp Ee st := by
  by_cases hk : k ∈ l
  · have ho := F.at_
    have hd : (Froz.sObj "set" D).data = .set D.1 D.2.1 D.2.2 := rfl
    have hel := F.ok.el
    have hz : D.1.size < scanBound := by have := F.ok.sz; omega
    have kis : (PySem.strKind Pg wd).is k (.str k u) = true := Froz.is_str k u
    unfold setAddHashed setAddHashedIn
    refine wpAny_holding (wpAny_bind (wpAny_setState_of ho hd F.ok.fit ?_))
    dsimp only
    rw [byScan_of rfl hz hel]
    simp only [↓reduceIte]
    unfold setAddByScan
    refine wpAny_bind ?_
    refine wpAny_bind (wpAny_rule ?_)
    refine wpAny_bind (wpAny_setScan_of kis ho hd F.ok.fit hel ?_)
    cases hfi : List.findIdx? (fun e => (PySem.strKind Pg wd).is k e.2) D.1.toList with
    | some j =>
      dsimp only
      refine wpAny_pure (wpAny_pure ?_)
      exact fin st.heap D l _ (Heap.SameBut.refl a st.heap) F (fun j => ⟨.inr, fun h => h.elim (fun e => e ▸ hk) id⟩) (by omega)
    | none =>
      obtain ⟨e, he, q⟩ := (F.ok.mem k).mp hk
      have c := List.findIdx?_eq_none_iff.mp hfi e he
      rw [q] at c
      cases c
  · refine Froz.add_x F.at_ F.ok hk hb ?_
    have hf : (Froz.sObj "set" (Froz.addTx (hashStr wd k) (.str k u) D)).isFreed = false := rfl
    refine fin _ (Froz.addTx (hashStr wd k) (.str k u) D) (k :: l) true (Heap.SameBut.update _ a _) ⟨Froz.get_upd _ F.at_ hf, Froz.add_ok u F.ok, List.nodup_cons.mpr ⟨hk, F.nd⟩, addTx_ris F.ris, by rw [addTx_led]; exact F.led⟩ (fun j => List.mem_cons) (by simp)
theorem TxAt.at {h h' : Heap} {a : Addr} {D : Froz.SD} {l : List Str} (F : TxAt Pg wd h a D l) (k : ∀ o, h.get? a = some o → h'.get? a = some o) : TxAt Pg wd h' a D l := ⟨k _ F.at_, F.ok, F.nd, F.ris, F.led⟩
theorem set_update_txts {Ii : Addr} {fps wrs : List Addr} {Gg : Array GenState → Array GenState → Prop} {n : Nat} {Pw : Nat → Value → Prop} {Sx : Nat → Shared → Prop} {Rr : Result → Shared → Prop}
    (Wk : WalksS Pg wd Ar.in1 Ii fps wrs Gg n Pw Sx) (Sa : Addr) (hSa : Sa ∉ fps) (txs : List Str) (hn : n = txs.length) (hbd : txs.length + 1 < scanBound) (hv : ∀ i v, Pw i v → ∃ k t, txs[i]? = some k ∧ v = .str k t) :
    ∀ (m i : Nat) (s0 : Shared), n - i = m → i ≤ n → Sx i s0 → (∃ D l, l.length ≤ i ∧ TxAt Pg wd s0.heap Sa D l ∧ ∀ j, j ∈ l ↔ j ∈ txs.take i) →
      (∀ s1 D l, Moved (Sa :: wrs) Gg s0 s1 → l.length ≤ n → TxAt Pg wd s1.heap Sa D l → (∀ j, j ∈ l ↔ j ∈ txs) → Rr (.ok (.ret .none)) s1) →
      codeAny (model Pg wd) Ar (.builtin "set.update.loop" ⟨[.ref Sa, .ref Ii], []⟩) Rr s0 := by
  have hSw : Sa ∉ wrs := fun h => hSa (Wk.sub _ h)
  have incl : ∀ b ∈ wrs, b ∈ Sa :: wrs := fun b hb => List.mem_cons_of_mem _ hb
  intro m
  induction m with
  | zero =>
    intro i s0 hk' hi hst ⟨D, l, hc, hS, hm⟩ hR
    have hin : i = n := by omega
    subst hin
    refine codeAny_builtin F.entry_set_update_loop ?_
    rw [Around.under_plainId F.plain_set_update_loop _]
    show wpAny _ Ar.in1 (pyNext (.ref Ii) >>= _) _ _ s0
    refine wpAny_bind (Wk.done s0 _ _ hst fun s1 hmv => ?_)
    show wpAny _ Ar.in1 (ret Value.none) _ _ s1
    have e : txs.take i = txs := List.take_of_length_le (by omega)
    rw [e] at hm
    exact wpAny_pure (hR s1 D l (hmv.mono incl) hc (hS.at fun o e => hmv.heap Sa o hSw e) hm)
  | succ m ih =>
    intro i s0 hk' hi hst ⟨D, l, hc, hS, hm⟩ hR
    have hlt : i < n := by omega
    refine codeAny_builtin F.entry_set_update_loop ?_
    rw [Around.under_plainId F.plain_set_update_loop _]
    show wpAny _ Ar.in1 (pyNext (.ref Ii) >>= _) _ _ s0
    refine wpAny_bind (Wk.item i s0 _ _ hlt hst fun v s1 hP hst1 hmv => ?_)
    obtain ⟨z, t, hz, rfl⟩ := hv i v hP
    have hS1 : TxAt Pg wd s1.heap Sa D l := hS.at fun o e => hmv.heap Sa o hSw e
    show wpAny _ Ar.in1 (holding [Value.str z t] (setAdd Sa (.str z t)) >>= _) _ _ s1
    refine wpAny_bind (wpAny_holding ?_)
    unfold setAdd
    refine wpAny_holding ?_
    refine wpAny_bind ((PySem.strKind Pg wd).pyHash (k := z) (Froz.is_str z t) ?_)
    refine tx_add (st := { s1 with toks := s1.toks + 1 }) hS1 (by omega) fun h2 D2 l2 b2 hsb hS2 hm2 hl2 => ?_
    refine wpAny_pure ⟨plainId_quiet F.plain_set_update_loop _, ih (i + 1) _ (by omega) hlt (Wk.frame _ s1 _ _ hst1 (Nat.le_succ _) fun b hb o e => ?_) ⟨D2, l2, by omega, hS2, fun j => ?_⟩ fun s3 D3 l3 hm3 hc3 hS3 hj3 => ?_⟩
    · rw [hsb.2 b (fun h : b = Sa => hSa (by rw [← h]; exact hb))]; exact e
    · rw [hm2, hm, List.take_add_one, hz]
      simp [List.mem_append, or_comm]
    · refine hR s3 D3 l3 (Moved.trans Wk.gtrans ((hmv.mono incl).then_heap (Nat.le_succ _) fun b o hb e => ?_) hm3) hc3 hS3 hj3
      rw [hsb.2 b (fun h : b = Sa => hb (by rw [h]; exact List.mem_cons_self))]; exact e
theorem tx_new {P : Program} {w : World} {h : Heap} {a : Addr} (ho : h.get? a = some { cls := .type "set", dict := none, data := .set #[] 0 (.fresh 0 0 (!w.params.followText "set-order")) }) : ∃ D, TxAt P w h a D [] :=
  ⟨(#[], 0, .fresh 0 0 (!w.params.followText "set-order")), ho, .nil rfl, List.nodup_nil, List.Pairwise.nil, by
    show _ ∨ (!w.params.followText "set-order") = true
    cases w.params.followText "set-order"
    · exact .inr rfl
    · exact .inl rfl⟩
/-- set(xs), xs a list of texts -/
theorem setTx {la : Addr} {itms : Array Value} (txs : List Str) {Qp : Value → Shared → Prop} (nox : Ar.handled = none) (isl : st.heap.IsList la itms) (tx : StrsAre itms.toList txs) (small : txs.length + 1 < scanBound)
    (fin : ∀ (hp' : Heap) (tok : Nat) D l, TxAt Pg wd hp' st.heap.objs.size D l → (∀ j, j ∈ l ↔ j ∈ txs) → l.length ≤ txs.length → (∀ b o, st.heap.get? b = some o → hp'.get? b = some o) → Qp (.ref st.heap.objs.size) { st with heap := hp', toks := tok }) :
    wpAny (model Pg wd) Ar (call (.type "set") [.ref la]) Qp Ee st := by
  have lens : itms.size = txs.length := by
    have q := StrsAre.length tx
    rw [Array.length_toList] at q
    exact q
  obtain ⟨c, tl, mro1⟩ := F.called_set.mro
  have made1 := F.called_set.made
  have sub1 := F.called_set.sub
  refine wpAny_call (codeAny_of_tree (show wpAny _ _ (callAny (.type "set") _) _ _ _ from ?_))
  refine wpAny_pure ⟨Code.quiet_builtin _ (by decide +kernel), (codeAny_builtin F.entry_type_call ?_)⟩
  rw [Around.under_plain (weight_type_call_type "set" [.ref la] []) rfl]
  have h1 := F.called_set.notType
  have h2 := F.called_set.canCreate
  have hct := F.typeCall_set_1 (.ref la)
  repeat (any_goals first | assumption | wp_step)

  refine codeAny_mono (code_set_led1 (.ref la) (E := Ee) (Q₁ := fun ob0 s₁ => ob0 = .ref st.heap.objs.size ∧ s₁ = { st with heap := st.heap.push { cls := .type "set", dict := none, data := .set #[] 0 (.fresh 0 0 (!wd.params.followText "set-order")) } }) ⟨rfl, rfl⟩) fun rs s₁ rr0 => ?_
  cases rs with
  | error er => exact rr0
  | ok fl0 =>
    cases fl0 with
    | ret ob0 =>
      obtain ⟨rfl, rfl⟩ := rr0
      have gotS : (st.heap.push { cls := .type "set", dict := none, data := .set #[] 0 (.fresh 0 0 (!wd.params.followText "set-order")) }).get? st.heap.objs.size = some { cls := .type "set", dict := none, data := .set #[] 0 (.fresh 0 0 (!wd.params.followText "set-order")) } := Heap.get?_push_size _ rfl
      have tyS : Shared.TypeIs { st with heap := st.heap.push { cls := .type "set", dict := none, data := .set #[] 0 (.fresh 0 0 (!wd.params.followText "set-order")) } } (.ref st.heap.objs.size) "set" := ⟨_, gotS, rfl⟩
      have hli := F.called_set.init.lookup
      have hbi := F.called_set.init.bind (.ref st.heap.objs.size)
      repeat (any_goals first | assumption | wp_step)

      refine codeAny_mono (codeAny_call_builtin (R := wants (fun rs s₂ => rs = .none ∧ ∃ hp' tok D l, s₂ = { st with heap := hp', toks := tok } ∧ TxAt Pg wd hp' st.heap.objs.size D l ∧ (∀ j, j ∈ l ↔ j ∈ txs) ∧ l.length ≤ txs.length ∧
          (∀ b o, st.heap.get? b = some o → hp'.get? b = some o)) Ee) F.called_set.init.plain F.entry_set_init (check_set_init_1 tyS ?_)) fun r₂ s₂ hr₂ => ?_
      · obtain ⟨olist, golist, clist, nlist, dlist⟩ := isl
        obtain ⟨ocls, odict, odata, oslots⟩ := olist
        simp only at clist dlist
        subst clist; subst dlist
        have hol' : (st.heap.push { cls := .type "set", dict := none, data := .set #[] 0 (.fresh 0 0 (!wd.params.followText "set-order")) }).get? la = some { cls := .type "list", dict := odict, data := .seq itms nlist, slots := oslots } := Heap.get?_push_of_some _ golist
        have subS := F.sub_list_set
        have subF := F.sub_list_frozenset
        have neD : (Value.type "list" == Value.type "dict") = false := by decide
        have isl1 : (st.heap.push { cls := .type "set", dict := none, data := .set #[] 0 (.fresh 0 0 (!wd.params.followText "set-order")) }).IsList la itms := ⟨_, hol', rfl, nlist, rfl⟩
        unfold Builtin.«set.__init__» noKeywords Builtin.Frozenset.updateFrom
        generalize gPI : pyIter = pIt
        wp_walk
        subst gPI

        refine wpAny_pyIter_list isl1 ?_
        refine wpAny_bind (wpAny_runValue ?_)
        have ltS : la < st.heap.objs.size := Heap.lt_size golist
        have nox3 : Ar.in1.in1.in1.handled = none := by simp [nox]
        have size1 : (st.heap.push { cls := .type "set", dict := none, data := .set #[] 0 (.fresh 0 0 (!wd.params.followText "set-order")) }).objs.size = st.heap.objs.size + 1 := Heap.size_push ..
        have neqI : la ≠ (st.heap.push { cls := .type "set", dict := none, data := .set #[] 0 (.fresh 0 0 (!wd.params.followText "set-order")) }).objs.size := by
          rw [Heap.size_push]; exact Nat.ne_of_lt (Nat.lt_succ_of_lt ltS)
        have notin : st.heap.objs.size ∉ [(st.heap.push { cls := .type "set", dict := none, data := .set #[] 0 (.fresh 0 0 (!wd.params.followText "set-order")) }).objs.size, la] := by
          rw [Heap.size_push]; simp only [List.mem_cons, List.mem_singleton, List.not_mem_nil, or_false, not_or]
          exact ⟨Nat.ne_of_lt (Nat.lt_succ_self _), Nat.ne_of_gt ltS⟩
        have vals0 : ∀ (i : Nat) (v : Value), itms[i]? = some v → ∃ k t, txs[i]? = some k ∧ v = .str k t := fun i v hv => txs_get tx i v (by rw [Array.getElem?_toList]; exact hv)
        refine set_update_txts ((Walks.list nox3 _ la neqI itms).toS) st.heap.objs.size
          notin txs lens small vals0 (itms.size - 0) 0 _ (by omega) (Nat.zero_le _)
          ⟨⟨_, Heap.get?_push_size _ rfl, rfl, rfl⟩, (isl1.push _)⟩ ?hS0 ?hR
        case hS0 =>
          have getS : ((st.heap.push { cls := .type "set", dict := none, data := .set #[] 0 (.fresh 0 0 (!wd.params.followText "set-order")) }).push { cls := .type "list_iterator", data := .fields #[.ref la, .int 0 0] }).get? st.heap.objs.size
              = some { cls := .type "set", dict := none, data := .set #[] 0 (.fresh 0 0 (!wd.params.followText "set-order")) } := Heap.get?_push_of_some _ gotS
          obtain ⟨D, hD⟩ := tx_new (P := Pg) getS
          exact ⟨D, [], Nat.le_refl _, hD, fun j => by simp⟩
        case hR =>
          intro st' D' l' mvd cle' setR' hmm
          obtain ⟨hp', g2, d', tk', os'⟩ := st'
          have eqg : g2 = st.gens := mvd.gens
          have eqd : d' = st.drawn := mvd.drawn
          have eqo : os' = st.os := mvd.os
          subst eqg; subst eqd; subst eqo
          show wpAny _ _ _ _ _ _
          refine wpAny_pure ?_
          show wpAny _ _ (ret Value.none) _ _ _
          rw [lens] at cle'
          refine wpAny_pure ⟨rfl, hp', tk', D', l', rfl, setR', hmm, cle', fun b o er => ?_⟩
          have lt0 : b < st.heap.objs.size := Heap.lt_size er
          have ne1 : b ≠ st.heap.objs.size := Nat.ne_of_lt lt0
          have ne2 : b ≠ (st.heap.push { cls := .type "set", dict := none, data := .set #[] 0 (.fresh 0 0 (!wd.params.followText "set-order")) }).objs.size := by
            rw [Heap.size_push]; exact Nat.ne_of_lt (Nat.lt_succ_of_lt lt0)
          exact mvd.heap b o (by simp only [List.mem_cons, List.mem_singleton, List.not_mem_nil, or_false, not_or]; exact ⟨ne1, ne2⟩) (Heap.get?_push_of_some _ (Heap.get?_push_of_some _ er))

      · cases r₂ with
        | error er => exact hr₂
        | ok fl₂ =>
          cases fl₂ with
          | ret rs =>
            obtain ⟨rfl, hp', tok, D', l', rfl, setR', hmm, cle', hk'⟩ := hr₂
            repeat (any_goals first | assumption | wp_step)
            exact fin _ _ D' l' setR' hmm cle' hk'
          | _ => exact hr₂.elim
    | _ => exact rr0.elim
/-- sorted(s), s a set of texts -/
theorem sorted_txs {a : Addr} {D : Froz.SD} {l : List Str} {Qp : Value → Shared → Prop} (F : TxAt Pg wd st.heap a D l) (nox : Ar.handled = none) (small : l.length < 64)
    (fin : ∀ s1 p (out : Array Value) (c : Nat) (ys : List Str), (∀ b o, st.heap.get? b = some o → s1.heap.get? b = some o) → s1.gens = st.gens → s1.os = st.os → st.heap.objs.size ≤ p →
      s1.heap.get? p = some (seqObj "list" out c) → StrsAre out.toList ys → sortedS ys = true → ys.Perm l → Qp (.ref p) s1) :
    wpAny (model Pg wd) Ar (call (.builtin "sorted") [.ref a]) Qp Ee st := by
  obtain ⟨ho, ok, nd, rs, ld⟩ := F
  have hsz := ok.sz
  refine Calls.call_function_entry kind_sorted plain_sorted entry_sorted (args_sorted1 _) ?_
  unfold Builtin.«sorted»
  refine wpAny_bind (m := checkCount "sorted" 1 1 _) (wpAny_pure ?_)
  refine wpAny_bind (collect_set (A := Ar.in1) nox ⟨_, ho, rfl, rfl⟩ ok.fit (by rw [hsz]; unfold scanBound; omega) rs ld fun s1 vs k1 hz g1 o1 pm => ?_)
  have hvl : vs.length = l.length := by rw [pm.length_eq, List.length_map, Array.length_toList]; exact hsz
  have shape : ∀ e ∈ D.1.toList, ∃ x t, e.2 = Value.str x t := fun e he => by
    obtain ⟨⟨k, h1, _⟩, _⟩ := ok.el e he
    obtain ⟨t, q⟩ := Value.isStrOf_shape (x := k) (v := e.2) h1
    exact ⟨k, t, q⟩
  have hI : StrsAre vs (vs.map strOf) := strsAre_map vs fun v hv => by
    obtain ⟨e, he, q⟩ := List.mem_map.mp (pm.mem_iff.mp hv)
    obtain ⟨x, t, q2⟩ := shape e he
    exact ⟨x, t, by rw [← q]; exact q2⟩
  have pk : (vs.map strOf).Perm l := by
    have q := pm.map strOf
    rw [List.map_map] at q
    refine q.trans ?_
    have nd2 : (D.1.toList.map (strOf ∘ fun x => x.2)).Nodup := by
      have ln : (D.1.toList.map (strOf ∘ fun x => x.2)).length = l.length := by rw [List.length_map, Array.length_toList]; exact hsz
      have sub : ∀ k ∈ l, k ∈ D.1.toList.map (strOf ∘ fun x => x.2) := fun k hk => by
        obtain ⟨e, he, q⟩ := (ok.mem k).mp hk
        obtain ⟨t, q2⟩ := Value.isStrOf_shape (x := k) (v := e.2) q
        exact List.mem_map.mpr ⟨e, he, by simp [q2, strOf]⟩
      exact (perm_of_sub nd sub (by omega)).nodup_iff.mpr nd
    refine (List.perm_ext_iff_of_nodup nd2 nd).mpr fun k => ⟨fun h => ?_, fun h => ?_⟩
    · obtain ⟨e, he, q⟩ := List.mem_map.mp h
      obtain ⟨x, t, q2⟩ := shape e he
      have : x = k := by simpa [q2, strOf] using q
      exact (ok.mem k).mpr ⟨e, he, by rw [q2, this]; exact Froz.is_str k t⟩
    · obtain ⟨e, he, q⟩ := (ok.mem k).mp h
      obtain ⟨t, q2⟩ := Value.isStrOf_shape (x := k) (v := e.2) q
      exact List.mem_map.mpr ⟨e, he, by simp [q2, strOf]⟩
  refine wpAny_bind (wpAny_newList ?_ (by rw [hvl, sizeLine_eq]; omega))
  have hoL : (s1.heap.push (seqObj "list" vs.toArray 0)).get? s1.heap.objs.size = some (seqObj "list" vs.toArray 0) := Heap.get?_push_size _ rfl
  refine wpAny_bind (wpAny_holding (wpAny_call_entry slot_list_sort ⟨_, hoL, rfl⟩ entry_list_sort
    (list_sort_treeK strKind_oneLt hoL hI.keysOf (fun v1 v2 rest er => keyKind_strs (by rw [← er]; exact hI)) (by rw [hvl]; exact small) fun st2 hp1 hs1 => ⟨_, rfl, ?_⟩) (args_list_sort _)))
  obtain ⟨ys, a1, a2, a3⟩ := sorted_out_str hI hp1 hs1
  obtain ⟨c, hc⟩ := sortedHeap_at (vs := vs) (out := (arrOf st2).map (·.2)) hoL
  refine wpAny_pure ⟨_, rfl, fin _ s1.heap.objs.size ((arrOf st2).map (·.2)) c ys (fun b u er => ?_) g1 o1 hz hc a1 a3 (a2.trans pk)⟩
  have q := k1 b u er
  have hlt := Heap.lt_size q
  show (sortedHeap (s1.heap.push (seqObj "list" vs.toArray 0)) s1.heap.objs.size vs ((arrOf st2).map (·.2))).get? b = some u
  rw [sortedHeap_old (Nat.ne_of_lt hlt) (by rw [size_push']; exact Nat.lt_succ_of_lt hlt)]
  exact Heap.get?_push_of_some _ q
end
end Pu

namespace Pu
open PySem PySem.Spec PyProof.Rows L2

/-! ### sorted(set(xs)), whole numbers or texts -/
def ltS (s t : String) : Prop := leS s t = true ∧ s ≠ t
def insUS (k : String) : List String → List String
  | [] => [k]
  | a :: l => if k = a then a :: l else if leS k a = true then k :: a :: l else a :: insUS k l
def sortUS (ss : List String) : List String := ss.foldr insUS []
theorem insUS_mem {k j : String} : ∀ {l : List String}, j ∈ insUS k l ↔ j = k ∨ j ∈ l
  | [] => by simp [insUS]
  | a :: l => by
    unfold insUS
    split
    · rename_i h; subst h; simp
    · split
      · simp
      · simp only [List.mem_cons, insUS_mem (l := l)]
        constructor
        · rintro (h | h | h)
          · exact .inr (.inl h)
          · exact .inl h
          · exact .inr (.inr h)
        · rintro (h | h | h)
          · exact .inr (.inl h)
          · exact .inl h
          · exact .inr (.inr h)
theorem ltS_trans {a b c : String} (h1 : ltS a b) (h2 : ltS b c) : ltS a c := ⟨leS_trans h1.1 h2.1, fun e => by
  subst e; exact h1.2 (leS_anti h1.1 h2.1)⟩
theorem insUS_sorted {k : String} : ∀ {l : List String}, l.Pairwise ltS → (insUS k l).Pairwise ltS
  | [], _ => by simp [insUS]
  | a :: l, h => by
    have h' := List.pairwise_cons.mp h
    unfold insUS
    split
    · exact h
    · rename_i hk
      split
      · rename_i hl
        refine List.pairwise_cons.mpr ⟨fun b hb => ?_, h⟩
        rcases List.mem_cons.mp hb with e | e
        · rw [e]; exact ⟨hl, hk⟩
        · exact ltS_trans ⟨hl, hk⟩ (h'.1 b e)
      · rename_i hl
        refine List.pairwise_cons.mpr ⟨fun b hb => ?_, insUS_sorted h'.2⟩
        rcases insUS_mem.mp hb with e | e
        · rw [e]; exact ⟨leS_total (by simpa using hl), fun z => hk z.symm⟩
        · exact h'.1 b e
theorem sortUS_mem {j : String} : ∀ {ns : List String}, j ∈ sortUS ns ↔ j ∈ ns
  | [] => by simp [sortUS]
  | a :: l => by
    have ih := sortUS_mem (j := j) (ns := l)
    unfold sortUS at ih ⊢
    rw [List.foldr_cons, insUS_mem, ih, List.mem_cons]
theorem sortUS_sorted : ∀ ns : List String, (sortUS ns).Pairwise ltS
  | [] => by simp [sortUS]
  | a :: l => by
    have ih := sortUS_sorted l
    unfold sortUS at ih ⊢
    rw [List.foldr_cons]
    exact insUS_sorted ih
theorem ltS_ext : ∀ {l m : List String}, l.Pairwise ltS → m.Pairwise ltS → (∀ k, k ∈ l ↔ k ∈ m) → l = m
  | [], [], _, _, _ => rfl
  | [], b :: m, _, _, h => by have := (h b).mpr (by simp); simp at this
  | a :: l, [], _, _, h => by have := (h a).mp (by simp); simp at this
  | a :: l, b :: m, h1, h2, h => by
    have h1' := List.pairwise_cons.mp h1
    have h2' := List.pairwise_cons.mp h2
    have e : a = b := by
      rcases List.mem_cons.mp ((h a).mp (by simp)) with e | e
      · exact e
      · rcases List.mem_cons.mp ((h b).mpr (by simp)) with e2 | e2
        · exact e2.symm
        · exact leS_anti (h1'.1 b e2).1 (h2'.1 a e).1
    subst e
    refine congrArg (a :: ·) (ltS_ext h1'.2 h2'.2 fun k => ⟨fun hk => ?_, fun hk => ?_⟩)
    · rcases List.mem_cons.mp ((h k).mp (by simp [hk])) with e | e
      · exact absurd e.symm (h1'.1 k hk).2
      · exact e
    · rcases List.mem_cons.mp ((h k).mpr (by simp [hk])) with e | e
      · exact absurd e.symm (h2'.1 k hk).2
      · exact e
theorem nodup_of_ltS {l : List String} (h : l.Pairwise ltS) : l.Nodup := h.imp fun h => h.2
def srtSet (xs : List D) : Option (List D) := match intsD xs with
  | some ns => if ns.length < 63 then some ((sortU ns).map D.int) else none
  | none => match strsD xs with
    | some ss => if ss.length < 63 then some ((sortUS ss).map D.str) else none
    | none => none
def fSortSetX (f : Ex) : Exs := fun env h => (f env h).bind fun d h1 => ofO (itemsL h1 d) fun xs => ofO (srtSet xs) fun ys => .ok ys h1
section
variable {X : Cx} {W : WX} {k : Nat}
theorem sf_sortsetX (C : Cok X W k) {e : Expr} {f : Ex} {p p2 q pos : Pos} (hg : Gl X "sorted") (hm : X.mg "sorted" = none) (hg2 : Gl X "set") (hm2 : X.mg "set" = none) (he : SE X W e f)
    (na : starEach [e] X.env = (false, eval e X.env) :: starEach [] X.env := by rfl) : SF X W (.Call (.Name "sorted" p) [.Call (.Name "set" p2) [e] [] q] [] pos) (fSortSetX f) := by
  refine ⟨fun pins s σ H Q I hh => ?_⟩
  obtain ⟨T, env, h, r1, r2, a⟩ := hh
  refine Call_ (ld_blt I hg hm boot_sorted ?_)
  refine callWith_builtin1 (args_cons ?_ rfl) rfl rfl
  refine Call_ (ld_blt I hg2 hm2 boot_set ?_)
  refine callWith_type1 (args_cons (thn (he.run pins s σ H (fun v H1 => ∃ T1 h1 d, Le T H T1 H1 ∧ RelH X.K T1 H1 h1 ∧ rel X.K T1 H1 d v ∧ After X.K X.mg W T H σ (qF X.K H) Q (ofO (itemsL h1 d) fun xs => ofO (srtSet xs) fun ys => .ok ys h1)) I
    ⟨T, env, h, r1, r2, After.bind0 a fun d h1 T1 H1 v _ l1 q1 rv a1 => ⟨T1, h1, d, l1, q1, rv, a1⟩⟩) fun v s1 ⟨x, H1, I1, rx, T1, h1, d, l1, q1, rv, a1⟩ => args_nil ?_) na) na rfl
  obtain ⟨xs, e1, a1⟩ := a1.ofO
  obtain ⟨ys, e2, a1⟩ := a1.ofO
  obtain ⟨b, ws, rfl, sq, rr⟩ := rel_itemsL q1 rv e1
  cases rx
  unfold srtSet at e2
  split at e2
  · rename_i ns e3
    by_cases hl : ns.length < 63
    · rw [if_pos hl] at e2
      cases e2
      rw [rels_ints rr e3] at sq
      obtain ⟨its, r, pl, hz⟩ := I1.list sq
      refine setLi ns (I1.ok.hd C.calm) pl.isList (by simpa using RZ.intsAre_vals r) (by unfold scanBound; omega) fun h' tk c hS hc hk => ?_
      refine args_nil ?_
      have I2 : Inv X pins σ H1 { s1 with heap := h', toks := tk } := I1.kept hk
      refine sorted_set hS (I2.ok.hd C.calm) (by omega) fun s' p' out c' ns' k' g o hp hgt hi hs hm' hl' => ?_
      have es : ns' = sortU ns := sorted_ext hs (sortU_sorted ns) fun j => by rw [hm' j, sortU_mem, decide_eq_true_eq]
      subst es
      have hlen : ((sortU ns).map V.int).length ≤ sizeLine := by rw [List.length_map, hl', sizeLine_eq]; omega
      have hn : H1 p' = none := I2.hok.fresh hp
      have new : ObjOk X.prog X.w (upd H1 p' (.lst ((sortU ns).map V.int))) s'.heap p' (.lst ((sortU ns).map V.int)) := ⟨hlen, out.toList, c', vals_of_ints hi, hgt⟩
      have J : Inv X pins σ (upd H1 p' (.lst ((sortU ns).map V.int))) s' := I2.call' (ch := []) o (Un.laid k' hp hn) (I2.hok.laid k' hp new) (by rw [g]; exact I2.bare) fun _ z => nomatch z
      refine ⟨.ref p', _, J, rfl, ?_⟩
      exact a1 (T1.blk p') (upd H1 p' (.lst ((sortU ns).map V.int))) _ (l1.trans r1.mut (Le.blk hn)) (q1.blk hn) ⟨p', _, rfl, upd_same, fun z => q1.mut.free hn (q1.sub p' z), .inr rfl, l1.was q1.mut hn, rels_ofInts _⟩
    · rw [if_neg hl] at e2; cases e2
  · split at e2
    · rename_i ss e3
      by_cases hl : ss.length < 63
      · rw [if_pos hl] at e2
        cases e2
        rw [rels_txts rr e3] at sq
        obtain ⟨its, r, pl, hz⟩ := I1.list sq
        refine setTx (ss.map Str.ofString) (I1.ok.hd C.calm) pl.isList (by simpa using r.strs) (by rw [List.length_map]; unfold scanBound; omega) fun h' tk D l hS hmm hc hk => ?_
        refine args_nil ?_
        have I2 : Inv X pins σ H1 { s1 with heap := h', toks := tk } := I1.kept hk
        rw [List.length_map] at hc
        refine sorted_txs hS (I2.ok.hd C.calm) (by omega) fun s' p' out c' ys k' g o hp hgt hi hs hpm => ?_
        have e4 : ys = (sortUS ss).map Str.ofString := by
          obtain ⟨zs, rfl⟩ : ∃ zs : List String, l = zs.map Str.ofString := by
            have h1 : ∀ y ∈ l, ∃ s, Str.ofString s = y := fun y hy => by
              obtain ⟨s, _, e⟩ := List.mem_map.mp ((hmm y).mp hy)
              exact ⟨s, e⟩
            clear hS hmm hc hpm
            induction l with
            | nil => exact ⟨[], rfl⟩
            | cons y ys ih =>
              obtain ⟨s, e⟩ := h1 y (by simp)
              obtain ⟨zs, e2⟩ := ih fun z hz => h1 z (by simp [hz])
              exact ⟨s :: zs, by rw [e2, ← e]; rfl⟩
          have e5 := sortS_of hpm hs
          rw [e5]
          congr 1
          have nd : zs.Nodup := by
            have := hS.nd
            exact (List.pairwise_map.mp this).imp fun h z => h (by rw [z])
          refine ltS_ext ?_ (sortUS_sorted ss) fun k => ?_
          · have p1 := sortS_sorted zs
            have p2 : (sortS zs).Nodup := (sortR_perm zs).nodup_iff.mpr nd
            exact (List.pairwise_and_iff.mpr ⟨p1, p2⟩)
          · rw [sortUS_mem]
            have := hmm (Str.ofString k)
            rw [List.mem_map, List.mem_map] at this
            unfold sortS
            rw [sortR_mem]
            constructor
            · intro hk
              obtain ⟨z, hz, e⟩ := this.mp ⟨k, hk, rfl⟩
              rw [← ofString_inj e]; exact hz
            · intro hk
              obtain ⟨z, hz, e⟩ := this.mpr ⟨k, hk, rfl⟩
              rw [← ofString_inj e]; exact hz
        subst e4
        have hl2 : ((sortUS ss).map Str.ofString).length ≤ ss.length := by rw [hpm.length_eq]; exact hc
        have hlen : (((sortUS ss).map Str.ofString).map V.str).length ≤ sizeLine := by rw [List.length_map, sizeLine_eq]; omega
        have hn : H1 p' = none := I2.hok.fresh hp
        have new : ObjOk X.prog X.w (upd H1 p' (.lst (((sortUS ss).map Str.ofString).map V.str))) s'.heap p' (.lst (((sortUS ss).map Str.ofString).map V.str)) := ⟨hlen, out.toList, c', vals_of_strs hi, hgt⟩
        have J : Inv X pins σ (upd H1 p' (.lst (((sortUS ss).map Str.ofString).map V.str))) s' := I2.call' (ch := []) o (Un.laid k' hp hn) (I2.hok.laid k' hp new) (by rw [g]; exact I2.bare) fun _ z => nomatch z
        refine ⟨.ref p', _, J, rfl, ?_⟩
        exact a1 (T1.blk p') (upd H1 p' (.lst (((sortUS ss).map Str.ofString).map V.str))) _ (l1.trans r1.mut (Le.blk hn)) (q1.blk hn) ⟨p', _, rfl, upd_same, fun z => q1.mut.free hn (q1.sub p' z), .inr rfl, l1.was q1.mut hn, rels_ofStrs _⟩
      · rw [if_neg hl] at e2; cases e2
    · cases e2
end
@[simp ↓] theorem wp_fSortSetX {f : Ex} {env : En} {h : HH} {qs : List D → HH → Prop} {e : String → HH → Prop} : Wp qs e (fSortSetX f env h) ↔ Wp (fun d h1 => Wo (fun xs => Wo (fun ys => qs ys h1) (srtSet xs)) (itemsL h1 d)) e (f env h) := by
  unfold fSortSetX
  rw [wp_bind]
  exact wp_congr fun d h1 => wp_wo fun xs => wp_ofO
theorem strsD_map : ∀ bs : List String, strsD (bs.map D.str) = some bs
  | [] => rfl
  | b :: bs => by simp [strsD, strsD_map bs]
theorem srtSet_ints {ns : List Int} (h : ns.length < 63) : srtSet (ns.map D.int) = some ((sortU ns).map D.int) := by
  unfold srtSet
  rw [intsD_map]
  dsimp only
  rw [if_pos h]
theorem srtSet_strs {ns : List String} (h : ns.length < 63) : srtSet (ns.map D.str) = some ((sortUS ns).map D.str) := by
  unfold srtSet
  rw [strsD_map]
  cases ns with
  | nil => rfl
  | cons s r =>
    have : intsD ((s :: r).map D.str) = none := rfl
    rw [this]
    dsimp only
    rw [if_pos h]
end Pu

namespace Pu
open PySem PySem.Spec PyProof.Rows L2

/-! ### all that was there stands, but for the slots of frames -/
abbrev Hno : Hp := fun _ => none
structure Th (fs : List Addr) (s s' : Shared) : Prop where
  os : s'.os = s.os
  bare : AllBare s'.gens
  un : Un fs [] Hno Hno s.heap s'.heap
theorem Th.refl {fs : List Addr} {s : Shared} (b : AllBare s.gens) : Th fs s s := ⟨rfl, b, Un.refl⟩
theorem Th.trans {fs : List Addr} {s s1 s2 : Shared} (a : Th fs s s1) (b : Th fs s1 s2) : Th fs s s2 := ⟨b.os.trans a.os, b.bare, a.un.trans b.un⟩
theorem Un.new {fs : List Addr} {h h1 h2 : Heap} {a : Addr} (u : Un fs [] Hno Hno h h1) (n : h.get? a = none) (sb : ∀ b o, b ≠ a → h1.get? b = some o → h2.get? b = some o) : Un fs [] Hno Hno h h2 := by
  have ne : ∀ {b o}, h.get? b = some o → b ≠ a := fun {b o} q z => by rw [z, n] at q; cases q
  exact ⟨fun b o q m hb hx => sb b o (ne q) (u.keep b o q m hb hx), fun b o q m hb hx => by obtain ⟨sl, e⟩ := u.slot b o q m hb hx; exact ⟨sl, sb b _ (ne q) e⟩, fun _ _ _ _ _ => rfl,
    fun b o q hx => by obtain ⟨o', e⟩ := u.there b o q hx; exact ⟨o', sb b o' (ne q) e⟩, fun _ _ q => (nomatch q), fun _ _ _ q => (nomatch q), fun _ _ q => (nomatch q)⟩
section
variable {X : Cx} {pins : List (Addr × Obj)} {σ : L2.St} {H : Hp} {s s1 : Shared} {p : Addr} {o : HO}
theorem stay_th (I : Inv X pins σ H s) (t : Th (frs X.stack) s s1) {b : Addr} {u : HO} (e : H b = some u) {ob : Obj} (q : s.heap.get? b = some ob) : s1.heap.get? b = some ob :=
  t.un.keep b ob q rfl (fun z => by rw [I.stkFree b z] at e; cases e) (by simp)
theorem inv_th (I : Inv X pins σ H s) (t : Th (frs X.stack) s s1) : Inv X pins σ H s1 := by
  refine I.call' (ch := []) t.os ⟨fun b o q _ hb hx => t.un.keep b o q rfl hb hx, fun b o q _ hb hx => t.un.slot b o q rfl hb hx, fun _ _ _ n _ => n, fun b o q hx => t.un.there b o q hx, fun _ _ q => q, fun _ _ _ q => q, fun _ ps q => ⟨#[], by rw [q]; simp⟩⟩ (fun b u e => ?_) t.bare fun _ z => nomatch z
  refine (I.hok b u e).stay (fun c v hc q => ?_) (fun _ q => q) fun _ _ q => q
  rcases hc with z | z
  · subst z; exact stay_th I t e q
  · exact stay_th I t z q
theorem inv_thNew (I : Inv X pins σ H s) (t : Th (frs X.stack) s s1) (hp : s.heap.objs.size ≤ p) (new : ObjOk X.prog X.w (upd H p o) s1.heap p o) : Inv X pins σ (upd H p o) s1 := by
  have hn : H p = none := I.hok.fresh hp
  have nu : ∀ {b u}, H b = some u → b ≠ p := fun e => ne_of_none e hn
  refine I.call' (ch := []) t.os ⟨fun b o q _ hb hx => t.un.keep b o q rfl hb hx, fun b o q _ hb hx => t.un.slot b o q rfl hb hx, fun b o q n _ => ?_, fun b o q hx => t.un.there b o q hx,
    fun b _ q => by rw [upd_ne (nu q)]; exact q, fun b _ _ q => by rw [upd_ne (nu q)]; exact q, fun b ps q => ⟨#[], by rw [upd_ne (nu q), q]; simp⟩⟩ (fun b u e => ?_) t.bare fun _ z => nomatch z
  · rw [upd_ne (Nat.ne_of_lt (Nat.lt_of_lt_of_le (Heap.lt_size q) hp))]; exact n
  · by_cases hb : b = p
    · subst hb
      rw [upd_same] at e
      cases e
      exact new
    · rw [upd_ne hb] at e
      refine (I.hok b u e).stay (fun c v hc q => ?_) (fun c q => by rw [upd_ne (nu q)]; exact q) fun c _ q => by rw [upd_ne (nu q)]; exact q
      rcases hc with z | z
      · subst z; exact stay_th I t e q
      · exact stay_th I t z q
end

/-! ### sorted(xs, key=f), f a def that tells whole numbers -/
section
open PySem.W
variable {Pg : Program} {wd : World} {Ar : Around} {Ee : Value → Shared → Prop} {st s0 : Shared} {fs : List Addr} {f : Value} {a kS : Addr} {rv : Bool} {vs : List Value} {ks : List Int} {e1 : Nat} {Pf : PySem.Fin → Shared → Prop}
theorem keyX_rest (th : Th fs s0 st) (na0 : s0.heap.get? a = none) (nk0 : s0.heap.get? kS = none) (naf : a ∉ fs) (nkf : kS ∉ fs)
    (nk : st.heap.get? kS = some (seqObj "list" #[] 0)) (na : st.heap.get? a = some (seqObj "list" #[] e1)) (hka : kS ≠ a) (hlen : ks.length = vs.length) (hZ : vs.length ≤ sizeLine) (hu : Ar.units < cLine)
    (turn : ∀ (i : Nat) (v : Value) (k : Int), vs[i]? = some v → ks[i]? = some k → ∀ s1 : Shared, Th fs s0 s1 → wpAny (model Pg wd) Ar (call f [v]) (fun u s2 => (∃ t, u = .int k t) ∧ Th fs s1 s2) (fun _ _ => False) s1)
    (fin : ∀ s2 out c, Th fs s0 s2 → s2.heap.get? a = some (seqObj "list" (List.toArray out) c) → KeyedOut rv (ks.map PyData.int) vs out → Pf (.done (.ret .none)) s2) :
    wpAny (model Pg wd) Ar (ksk_rest a f rv vs.toArray e1 (.ref kS)) Pf Ee st := by
  unfold ksk_rest
  refine wpAny_bind (wpAny_rule ?_)
  first
    | rw [List.forIn_toArray]
    | (rw [← Array.forIn_toList]; simp only [List.toList_toArray])
    | rw [← Array.forIn_toList]
  refine wpAny_bind (ksk_fold (fun i s' => ∃ kA e, Th fs s0 s' ∧ s'.heap.get? kS = some (seqObj "list" kA e) ∧ s'.heap.get? a = some (seqObj "list" #[] e1) ∧ EachIs (fun v k => ∃ t, v = Value.int k t) kA.toList (ks.take i)) vs 0 st
    ⟨#[], 0, th, nk, na, by rw [List.take_zero]; exact EachIs.nil⟩ ?step ?done)
  case step =>
    rintro j x s' hx ⟨kA, e, th', nk', na', hk⟩
    simp only [Nat.zero_add] at hk ⊢
    have hj : j < vs.length := (List.getElem?_eq_some_iff.mp hx).1
    obtain ⟨k, hkj⟩ : ∃ k, ks[j]? = some k := ⟨_, List.getElem?_eq_getElem (by omega)⟩
    have hz : kA.size ≤ vs.length := by
      have h1 := hk.length
      rw [Array.length_toList, List.length_take] at h1
      omega
    refine wpAny_bind (wpAny_attempt (wpAny_mono (turn j x k hx hkj s' th') (fun v s2 he => ?_) fun _ _ hF => hF.elim))
    obtain ⟨hv, t2⟩ := he
    try dsimp only
    have nk2 : s2.heap.get? kS = some (seqObj "list" kA e) := t2.un.keep _ _ nk' rfl nkf (by simp)
    have na2 : s2.heap.get? a = some (seqObj "list" #[] e1) := t2.un.keep _ _ na' rfl naf (by simp)
    have sb := Heap.SameBut.update s2.heap kS (Obj.mapSeq (·.push v))
    obtain ⟨c2, hc2⟩ : ∃ c2, (s2.heap.update kS (Obj.mapSeq (·.push v))).get? kS = some (seqObj "list" (kA.push v) c2) := ⟨_, get?_update_seq nk2 (·.push v)⟩
    have ek : ks.take (j + 1) = ks.take j ++ [k] := by rw [List.take_add_one, hkj]; simp
    have ea : (kA.push v).toList = kA.toList ++ [v] := by simp
    refine wpAny_bind (listUpdate_at nk2 rfl ?_ (Nat.le_trans hz hZ) (Nat.le_trans (Nat.le_of_eq (Array.size_push ..)) (Nat.succ_le_succ (Nat.le_trans hz hZ))))
    have t3 := th'.trans t2
    refine wpAny_pure ⟨rfl, kA.push v, c2, ⟨t3.os, t3.bare, Un.new t3.un nk0 fun b o hb er => (sb.2 b hb).trans er⟩, hc2, (sb.2 a hka.symm).trans na2, ?_⟩
    rw [ea, ek]
    exact each_snoc hv hk
  case done =>
    rintro s' ⟨kA, e, th', nk', na', hk⟩
    have e3 : ks.take (0 + vs.length) = ks := List.take_of_length_le (by omega)
    rw [e3] at hk
    have hk' : EachIs (fun v k => ∃ as, Reads s'.heap v k as) kA.toList (ks.map PyData.int) := by
      clear e3 hlen turn fin
      revert hk
      generalize kA.toList = vl
      intro hk
      induction hk with
      | nil => exact .nil
      | cons h r ih =>
        obtain ⟨t, rfl⟩ := h
        exact .cons ⟨[], .int _ t⟩ ih
    have hsz : kA.size = vs.length := by
      have h1 := hk.length
      rw [Array.length_toList] at h1
      omega
    try dsimp only
    refine wpAny_bind (listItems_at nk' rfl ?_)
    obtain ⟨G, g1, g2⟩ := restrict s'.heap fun b => !decide (b = kS)
    have hG : G.get? kS = none := g2 kS (by simp)
    have kp : KeepsBut a G s'.heap := fun b o hb er => by
      by_cases hbk : b = kS
      · subst hbk; rw [hG] at er; cases er
      · rw [g1 b (by simp [hbk])] at er; exact er
    have hal : AllAlike (ks.map PyData.int) := fun d hd d' hd' => by
      obtain ⟨_, _, rfl⟩ := List.mem_map.mp hd
      obtain ⟨_, _, rfl⟩ := List.mem_map.mp hd'
      rfl
    have hso : Sortable (ks.map PyData.int) := .inr fun d hd => by
      obtain ⟨_, _, rfl⟩ := List.mem_map.mp hd
      exact ⟨fun z => (nomatch z), fun _ z => (nomatch z)⟩
    refine keyH_end (κ := dataKind s'.heap (ks.map PyData.int)) (h₁ := G) kp hG nk' na' hka (SortsAt.data (s := s') hk' hal hso fun d hd => ?_) hsz hZ fun h3 tk3 c k3 n3 => ?_
    · obtain ⟨_, _, rfl⟩ := List.mem_map.mp hd
      show Ar.units + PyData.depth (.int _) < _
      rw [show PyData.depth (.int _) = 0 from rfl]
      exact hu
    · refine fin _ _ c ⟨th'.os, th'.bare, ?_⟩ n3 ⟨s'.heap, kA.toList, hal, rfl, hk'⟩
      refine Un.new (h1 := G) (a := a) ?_ na0 (fun b o hb er => k3 b o hb er)
      exact Un.new (h1 := s'.heap) (a := kS) th'.un nk0 fun b o hb er => by rw [g1 b (by simp [hb])]; exact er
theorem keyX_tree {n : Nat} (th : Th fs s0 st) (na0 : s0.heap.get? a = none) (naf : a ∉ fs) (hfs : ∀ b ∈ fs, b < s0.heap.objs.size) (hsz0 : s0.heap.objs.size ≤ st.heap.objs.size) (ho : st.heap.get? a = some (seqObj "list" vs.toArray n)) (hlen : ks.length = vs.length) (hZ : vs.length ≤ sizeLine) (hu : Ar.units < cLine)
    (turn : ∀ (i : Nat) (v : Value) (k : Int), vs[i]? = some v → ks[i]? = some k → ∀ s1 : Shared, Th fs s0 s1 → wpAny (model Pg wd) Ar (call f [v]) (fun u s2 => (∃ t, u = .int k t) ∧ Th fs s1 s2) (fun _ _ => False) s1)
    (fin : ∀ s2 out c, Th fs s0 s2 → s2.heap.get? a = some (seqObj "list" (List.toArray out) c) → KeyedOut rv (ks.map PyData.int) vs out → Pf (.done (.ret .none)) s2) :
    wpAny (model Pg wd) Ar (ksk_tree a f rv) Pf Ee st := by
  have ha : a < st.heap.objs.size := Heap.lt_size ho
  obtain ⟨e1, ho1⟩ : ∃ e1, (st.heap.update a (Obj.mapSeq fun _ => (#[] : Array Value))).get? a = some (seqObj "list" #[] e1) := ⟨_, get?_update_seq ho fun _ => #[]⟩
  have hkS : ((st.heap.update a (Obj.mapSeq fun _ => (#[] : Array Value))).push (seqObj "tuple" vs.toArray 0)).objs.size = st.heap.objs.size + 1 := by rw [size_push', Heap.size_update]
  have hk0 : s0.heap.objs.size ≤ ((st.heap.update a (Obj.mapSeq fun _ => (#[] : Array Value))).push (seqObj "tuple" vs.toArray 0)).objs.size := by rw [hkS]; omega
  unfold ksk_tree
  refine wpAny_bind (listItems_at ho rfl ?_)
  refine wpAny_bind (listUpdate_at ho rfl ?_ (by rw [List.size_toArray]; exact hZ) (Nat.zero_le _))
  refine wpAny_bind (seqEpoch_at ho1 rfl ?_)
  refine wpAny_bind (wpAny_newTuple ?_ (by show vs.length ≤ _; exact hZ))
  refine wpAny_bind (wpAny_newList ?_ (Nat.zero_le _))
  refine wpAny_holding ?_
  have th2 : Th fs s0 { st with heap := sortingHeap st.heap a vs } := ⟨th.os, th.bare, Un.new th.un na0 fun b o hb er => sortingHeap_old hb er⟩
  refine keyX_rest (st := { st with heap := sortingHeap st.heap a vs }) (kS := ((st.heap.update a (Obj.mapSeq fun _ => (#[] : Array Value))).push (seqObj "tuple" vs.toArray 0)).objs.size)
    th2 na0 (Heap.get?_none_of_le hk0) naf (fun hb => absurd (hfs _ hb) (Nat.not_lt.mpr hk0)) (Heap.get?_push_size _ rfl) (Heap.get?_push_of_some _ (Heap.get?_push_of_some _ ho1)) (by rw [hkS]; exact Nat.ne_of_gt (Nat.lt_succ_of_lt ha)) hlen hZ hu turn fin
end

/-! ### the rule -/
def toDk : Ky → D
  | .inl i => .int i
  | .inr s => .str s
abbrev toV (q : Ky) : V := kV (kyV q)
theorem rel_toDk {K : PySem.W.Frag} {T : Tk} {H : Hp} (q : Ky) : rel K T H (toDk q) (toV q) := by
  cases q <;> (unfold toDk toV kyV; unfold rel; rfl)
def kysD : List D → Option (List Ky)
  | [] => some []
  | .int i :: ds => (kysD ds).map (.inl i :: ·)
  | .str s :: ds => (kysD ds).map (.inr s :: ·)
  | _ :: _ => none
theorem kysD_map : ∀ qs : List Ky, kysD (qs.map toDk) = some qs
  | [] => rfl
  | .inl i :: qs => by show (kysD (qs.map toDk)).map _ = _; rw [kysD_map qs]; rfl
  | .inr i :: qs => by show (kysD (qs.map toDk)).map _ = _; rw [kysD_map qs]; rfl
theorem kysD_of : ∀ {ds : List D} {qs : List Ky}, kysD ds = some qs → ds = qs.map toDk
  | [], _, e => by cases e; rfl
  | .int i :: ds, qs, e => by
    have e : (kysD ds).map (.inl i :: ·) = some qs := e
    cases h : kysD ds with
    | none => rw [h] at e; cases e
    | some r => rw [h] at e; cases e; rw [kysD_of h]; rfl
  | .str i :: ds, qs, e => by
    have e : (kysD ds).map (.inr i :: ·) = some qs := e
    cases h : kysD ds with
    | none => rw [h] at e; cases e
    | some r => rw [h] at e; cases e; rw [kysD_of h]; rfl
  | .non :: _, _, e => by cases e
  | .bl _ :: _, _, e => by cases e
  | .tup _ :: _, _, e => by cases e
  | .lst _ :: _, _, e => by cases e
  | .dic _ :: _, _, e => by cases e
  | .ref _ :: _, _, e => by cases e
  | .ty _ :: _, _, e => by cases e
  | .xc _ :: _, _, e => by cases e
  | .tux _ :: _, _, e => by cases e
  | .frz _ :: _, _, e => by cases e
theorem rels_kys {K T H} : ∀ {qs : List Ky} {vs : List V}, rels K T H (qs.map toDk) vs → vs = qs.map toV
  | [], vs, r => by unfold rels at r; exact r
  | q :: qs, vs, r => by
    rw [List.map_cons] at r
    unfold rels at r
    obtain ⟨v, t, rfl, r1, r2⟩ := r
    rw [rels_kys r2, List.map_cons]
    congr 1
    cases q <;> (unfold toDk rel at r1; rw [r1]; rfl)
theorem rels_toKys {K : PySem.W.Frag} {T : Tk} {H : Hp} : ∀ qs : List Ky, rels K T H (qs.map toDk) (qs.map toV)
  | [] => rels_nil
  | q :: qs => rels_cons (rel_toDk q) (rels_toKys qs)
/-- each with what f tells of it -/
def keyedF (F : Fn) : List Ky → Option (List (Ky × Int))
  | [] => some []
  | q :: qs => match F [toDk q] [] with
    | .ok (.int i) [] => (keyedF F qs).map ((q, i) :: ·)
    | _ => none
theorem keyedF_ok {F : Fn} : ∀ {qs : List Ky} {ps : List (Ky × Int)}, keyedF F qs = some ps → qs = ps.map (·.1) ∧ ∀ p ∈ ps, F [toDk p.1] [] = .ok (.int p.2) []
  | [], ps, e => by cases e; simp
  | q :: qs, ps, e => by
    unfold keyedF at e
    split at e
    · rename_i i h1
      cases h : keyedF F qs with
      | none => rw [h] at e; cases e
      | some r =>
        rw [h] at e
        cases e
        obtain ⟨e2, e3⟩ := keyedF_ok h
        refine ⟨by rw [e2]; rfl, fun p hp => ?_⟩
        rcases List.mem_cons.mp hp with z | z
        · rw [z]; exact h1
        · exact e3 p z
    · cases e
abbrev byKey (p q : Ky × Int) : Bool := decide (p.2 ≤ q.2)
section
variable {X : Cx} {W : WX} {j k : Nat} {f : Addr} {fd : FuncData} {ps0 : List Str} {F : Fn}
theorem each_vals {ps : List (Ky × Int)} {us : List Value} (r : Vals (ps.map fun p => toV p.1) us) : PySem.W.EachIs (fun v (p : Ky × Int) => RelV (toV p.1) v) us ps := by
  induction ps generalizing us with
  | nil => cases r; exact .nil
  | cons p ps ih =>
    cases r with
    | cons r1 r2 => exact .cons r1 (ih r2)
theorem vals_each {ps : List (Ky × Int)} {us : List Value} (r : PySem.W.EachIs (fun v (p : Ky × Int) => RelV (toV p.1) v) us ps) : Vals (ps.map fun p => toV p.1) us := by
  induction r with
  | nil => exact .nil
  | cons h r ih => exact .cons h ih
theorem cr_sortK (C : Cok X W k) (G : FnG X.prog X.w X.K X.mg X.base j f fd ps0 F) (hk : j + 2 ≤ k) (hb : Binds X.K fd ps0 []) (hl1 : ps0.length = 1) :
    CallRK X (.builtin "sorted") [Str.ofString "key"] fun vs zs H Q => ∃ (a : Addr) (ps : List (Ky × Int)), vs = [V.ref a] ∧ zs = [V.ref f] ∧ SqL X.K H a (ps.map fun p => toV p.1) ∧ (∀ p ∈ ps, F [toDk p.1] [] = .ok (.int p.2) []) ∧
      ∀ p', H p' = none → Q (.ref p') (upd H p' (.lst ((ps.mergeSort byKey).map fun p => toV p.1))) := by
  intro pins s σ H vs zs us ws Q I r rz hh
  obtain ⟨a, ps, rfl, rfl, hs, hF, q⟩ := hh
  obtain ⟨its, rv, hl, hz⟩ := I.list hs
  obtain rfl := Vals.ref1 r
  obtain ⟨w1, rfl, e1⟩ := vals1 rz
  cases e1
  have hlen : its.length = ps.length := by
    have := rv.length
    rw [List.length_map] at this
    exact this.symm
  rw [List.length_map] at hz
  have un0 := C.hr.un
  have cl : X.A.in1.in1.units < cLine := by show X.A.units + 1 + 1 < _; omega
  show wpAny _ _ (call (.builtin "sorted") [.ref a] [(Str.ofString "key", .ref f)]) _ _ s
  refine PySem.W.sorted_of_sort hl.isList (by omega) (ksk_s1 _ _) (fun x => ksk_l1 _ _) fun E' => ?_
  rw [ksk_t1]
  have fsz : ∀ b ∈ frs X.stack, b < s.heap.objs.size := fun b hb => by
    rcases List.mem_cons.mp (I.stkSub b hb) with e | e
    · rw [e]; exact I.lt
    · exact Nat.lt_of_not_le fun z => I.nofs z e
  refine keyX_tree (ks := ps.map (·.2)) (s0 := s) (fs := frs X.stack) (st := { s with heap := PySem.W.copyHeap s.heap its }) ⟨rfl, I.bare, Un.kept fun b u e => PySem.W.copyHeap_old e⟩ (Heap.get?_none_of_le (Nat.le_succ _)) (fun hb => absurd (fsz _ hb) (Nat.not_lt.mpr (Nat.le_succ _))) fsz ?_
    (PySem.W.copyHeap_at s.heap its) (by rw [List.length_map]; exact hlen.symm) (by omega) cl (fun i v kk hv hkk s1 t1 => ?_) fun s2 out c t2 hat ko => ⟨rfl, ?_⟩
  · exact Nat.le_of_lt (Nat.lt_of_lt_of_le (Nat.lt_succ_of_lt (Nat.lt_succ_self _)) (Heap.lt_size (PySem.W.copyHeap_at s.heap its)))
  · have J := inv_th I t1
    have e0 := J.env0
    rw [List.getElem?_map] at hkk
    cases hp : ps[i]? with
    | none => rw [hp] at hkk; cases hkk
    | some p =>
      rw [hp] at hkk
      cases hkk
      have rp : RelV (toV p.1) v := by
        obtain ⟨u, hu, ru⟩ := rv.get (show (ps.map fun p => toV p.1)[i]? = some (toV p.1) by rw [List.getElem?_map, hp]; rfl)
        rw [hv] at hu
        cases hu
        exact ru
      have b := hb s1 [v] J.kIn (by rw [List.append_nil, hl1]; rfl)
      rw [List.append_nil] at b
      have e0' : Env0 X.prog X.w X.K X.mg X.base X.A.in1.in1 X.stack s1 Hno := ⟨e0.frames, e0.mod, fun b o e => ⟨(e0.bs b o e).1, rfl⟩, e0.bsz, e0.funs, fun _ _ => rfl, fun _ _ e => (nomatch e), e0.bare⟩
      refine wpAny_call (codeAny_mono (G.run X.A.in1.in1 X.stack s1 Hno ⟨[v], []⟩ [v] [toV p.1] ⟨[], fun _ => False, []⟩ [toDk p.1] [] (fun u _ => u = V.int p.2) (fun _ _ _ => False)
        ((C.hr.mono hk).in1.in1) C.gd e0' b (.cons rp .nil) ⟨rfl, List.nodup_nil, fun i o e => by simp at e, fun _ h => (nomatch h), fun _ h => h.elim, fun _ h => nomatch h⟩ (rels_cons (rel_toDk _) rels_nil) (by rw [hl1]; rfl) ?_) fun r s' hq => ?_)
      · rw [hF p (List.mem_of_getElem? hp)]
        intro T' H' v' _ _ rv'
        exact rel_int_iff.mp rv'
      · cases r with
        | error e =>
          obtain ⟨_, _, _, _, _, _, _, _, _, _, _, _, z⟩ := hq
          exact z
        | ok fl =>
          cases fl with
          | ret u =>
            obtain ⟨v', H', os', bare', un', hok', r', rfl⟩ := hq
            obtain ⟨t, rfl⟩ := r'
            exact ⟨⟨t, rfl⟩, os', bare', ⟨un'.keep, un'.slot, fun _ _ _ _ _ => rfl, un'.there, fun _ _ q => (nomatch q), fun _ _ _ q => (nomatch q), fun _ _ q => (nomatch q)⟩⟩
          | next => exact False.elim hq
          | brk => exact False.elim hq
          | cont => exact False.elim hq
  · have he := PySem.W.keyedOut_each (R := fun v (p : Ky × Int) => RelV (toV p.1) v) (fun p : Ky × Int => PyData.int p.2) (by rw [List.map_map] at ko; exact ko) (each_vals rv)
    rw [PySem.W.dataLe_int] at he
    have hv := vals_each he
    have hn : H (s.heap.objs.size + 1) = none := I.hok.fresh (Nat.le_succ _)
    have hlen2 : ((ps.mergeSort byKey).map fun p => toV p.1).length ≤ sizeLine := by rw [List.length_map, List.length_mergeSort]; omega
    have new : ObjOk X.prog X.w (upd H (s.heap.objs.size + 1) (.lst ((ps.mergeSort byKey).map fun p => toV p.1))) s2.heap (s.heap.objs.size + 1) (.lst ((ps.mergeSort byKey).map fun p => toV p.1)) := ⟨hlen2, out, c, hv, hat⟩
    exact ⟨.ref _, _, inv_thNew I t2 (Nat.le_succ _) new, rfl, q _ hn⟩
def fSortK (F : Fn) (g : Exs) : Exs := fun env h => (g env h).bind fun ds h1 => ofO (match ds with | [d] => (itemsL h1 d).bind kysD | _ => none) fun qs => ofO (keyedF F qs) fun ps => .ok ((ps.mergeSort byKey).map fun p => toDk p.1) h1
theorem sf_sortK (C : Cok X W k) (G : FnG X.prog X.w X.K X.mg X.base j f fd ps0 F) (hk : j + 2 ≤ k) {e : Expr} {g : Exs} {x : Str} {p p2 pos kp : Pos} (hgx : Gl X x) (hmx : X.mg x = some (.ref f)) (hb : Binds X.K fd ps0 [])
    (hg : Gl X "sorted") (hm : X.mg "sorted" = none) (ha : SA X W [e] g) (hl1 : ps0.length = 1 := by rfl) (hdb : (x == ("__debug__" : Str)) = false := by decide)
    (he : backTo pos (starEach [e] X.env) = (false, eval e X.env) :: backTo pos (starEach [] X.env) := by rfl) (hpl : (backTo pos (starEach [e] X.env)).any (·.1) = false := by rfl)
    (hall : (backToKw pos (keywordEach [⟨some (Str.ofString "key"), .Name x p2, kp⟩] X.env)).all (·.1.isSome) = true := by rfl) (hnone : (backToKw pos (keywordEach [⟨some (Str.ofString "key"), .Name x p2, kp⟩] X.env)).any (·.1.isNone) = false := by rfl)
    (hks : (backToKw pos (keywordEach [⟨some (Str.ofString "key"), .Name x p2, kp⟩] X.env)).filterMap (·.1) = [Str.ofString "key"] := by rfl) :
    SF X W (.Call (.Name "sorted" p) [e] [⟨some (Str.ofString "key"), .Name x p2, kp⟩] pos) (fSortK F g) :=
  PE.mono (pe_callBK (cr_sortK C G hk hb hl1) hg hm boot_sorted ha.pa (pk_cons (pe_glob hgx hmx (v := V.ref f) rfl hdb) pk_nil) (by decide) (by decide) he hpl hall hnone hks) fun σ H Q hh => by
    obtain ⟨T, env, h, r1, r2, a⟩ := hh
    refine ⟨T, env, h, r1, r2, a.bind0 fun ds h1 T1 H1 vs e l1 q1 rvs a1 => ?_⟩
    obtain ⟨qs, e1, a2⟩ := After.ofO a1
    obtain ⟨ps, e2, a2⟩ := After.ofO a2
    split at e1
    · rename_i d
      obtain ⟨v, rfl, rv⟩ := rels_one rvs
      cases e3 : itemsL h1 d with
      | none => rw [e3] at e1; cases e1
      | some xs =>
        rw [e3] at e1
        have e1 : kysD xs = some qs := e1
        obtain ⟨b, ws, rfl, sq, rr⟩ := rel_itemsL q1 rv e3
        rw [kysD_of e1] at rr
        rw [rels_kys rr] at sq
        obtain ⟨e4, e5⟩ := keyedF_ok e2
        rw [e4, List.map_map] at sq
        refine ⟨b, ps, rfl, rfl, sq, e5, fun p hp => ?_⟩
        exact a2 (T1.blk p) (upd H1 p (.lst ((ps.mergeSort byKey).map fun p => toV p.1))) _ (l1.trans r1.mut (Le.blk hp)) (q1.blk hp) ⟨p, _, rfl, upd_same, fun z => q1.mut.free hp (q1.sub p z), .inr rfl, l1.was q1.mut hp, by
          have := rels_toKys (K := X.K) (T := T1.blk p) (H := upd H1 p (.lst ((ps.mergeSort byKey).map fun p => toV p.1))) ((ps.mergeSort byKey).map (·.1))
          rw [List.map_map, List.map_map] at this
          exact this⟩
    · cases e1
end
def k1D (h : HH) (ds : List D) : Option (List Ky) := match ds with | [d] => (itemsL h d).bind kysD | _ => none
@[simp] theorem k1D_l {h : HH} {xs : List D} : k1D h [.lst xs] = kysD xs := rfl
@[simp ↓] theorem wp_fSortK {F : Fn} {g : Exs} {env : En} {h : HH} {qs : List D → HH → Prop} {e : String → HH → Prop} : Wp qs e (fSortK F g env h) ↔ Wp (fun ds h1 => Wo (fun ks => Wo (fun ps => qs ((ps.mergeSort byKey).map fun p => toDk p.1) h1) (keyedF F ks)) (k1D h1 ds)) e (g env h) := by
  unfold fSortK
  rw [wp_bind]
  exact wp_congr fun d h1 => wp_wo fun ks => wp_ofO
end Pu

namespace Pu
open PySem PySem.Spec PyProof.Rows L2

/-! ### list(d), its keys; str(x); text.index; sorted of numbers or texts -/
def cLstX (ds : List D) (h : HH) : Option (List D) := match ds with
  | [d] => match dicD h d with
    | some kvs => some (kvs.map fun p => toDk p.1)
    | none => items h d
  | _ => none
theorem relk_keys {K T H} : ∀ {ds : List (Ky × D)} {vs : List (Key × V)}, relk K T H ds vs → (vs.map fun kv => kV kv.1) = ds.map fun p => toV p.1
  | [], vs, r => by unfold relk at r; rw [r]; rfl
  | (k, d) :: ds, vs, r => by
    unfold relk at r
    obtain ⟨v, t, rfl, r1, r2⟩ := r
    rw [List.map_cons, List.map_cons, relk_keys r2]
section
variable {X : Cx} {W : WX} {k : Nat}
theorem sf_listX (C : Cok X W k) {x : Str} {e : Expr} {f : Exs} {p pos : Pos} (hg : Gl X x) (hm : X.mg x = none) (hv : bootBuiltins x = some (.type "list")) (ha : SA X W [e] f)
    (hn : x ≠ "__name__" := by decide) (hdb : (x == ("__debug__" : Str)) = false := by decide)
    (he : starEach [e] X.env = (false, eval e X.env) :: starEach [] X.env := by rfl) (hpl : (backTo pos (starEach [] X.env)).any (·.1) = false := by rfl) : SF X W (.Call (.Name x p) [e] [] pos) (fCall cLstX f) :=
  PE.mono (pe_callTy (call_list_of.or (call_listD C.calm)) hg hm hv ha.pa hn hdb he hpl) fun σ H Q hh => by
    obtain ⟨T, env, h, r1, r2, a⟩ := hh
    refine ⟨T, env, h, r1, r2, a.bind0 fun ds h1 T1 H1 vs e l1 q1 rvs a1 => ?_⟩
    cases e1 : cLstX ds h1 with
    | none => rw [e1] at a1; exact False.elim a1
    | some xs =>
      rw [e1] at a1
      have a1 : After X.K X.mg W T H σ (qF X.K H) Q (.ok xs h1) := a1
      unfold cLstX at e1
      split at e1
      · obtain ⟨v, rfl, rv⟩ := rels_one rvs
        split at e1
        · rename_i kvs e2
          cases e1
          obtain ⟨b, ws, rfl, s, rr⟩ := rel_dicD q1 rv e2
          refine .inr ⟨b, ws, rfl, s, fun p hp => ?_⟩
          rw [relk_keys rr]
          exact a1 (T1.blk p) (upd H1 p (.lst (kvs.map fun p => toV p.1))) _ (l1.trans r1.mut (Le.blk hp)) (q1.blk hp) ⟨p, _, rfl, upd_same, fun z => q1.mut.free hp (q1.sub p z), .inr rfl, l1.was q1.mut hp, by
            have := rels_toKys (K := X.K) (T := T1.blk p) (H := upd H1 p (.lst (kvs.map fun p => toV p.1))) (kvs.map (·.1))
            rw [List.map_map, List.map_map] at this
            exact this⟩
        · obtain ⟨b, ws, rfl, s, rr⟩ := rel_items q1 rv e1
          refine .inl ⟨b, ws, rfl, s, fun p hp => ?_⟩
          exact a1 (T1.blk p) (upd H1 p (.lst ws)) _ (l1.trans r1.mut (Le.blk hp)) (q1.blk hp) ⟨p, ws, rfl, upd_same, fun z => q1.mut.free hp (q1.sub p z), .inr rfl, l1.was q1.mut hp, rels_mono (Le.blk hp) q1.mut xs ws rr⟩
      · cases e1
def cStr (ds : List D) (h : HH) : R D := match ds with
  | [.int i] => if i.natAbs < 2 ^ 61 then .ok (.str (toString i)) h else .stuck
  | [.str s] => .ok (.str s) h
  | _ => .stuck
theorem log_small {n : Nat} (h : n < 2 ^ 61) : n.log2 < 1920 := by
  by_cases h0 : n = 0
  · subst h0; decide
  · have := (Nat.log2_lt h0 (k := 61)).mpr h
    omega
theorem c_str : CallR X (.type "str") (rdC X cStr) := CallR.mono (call_str_int.or SkE.call_str_str) fun xs H Q q => by
  obtain ⟨T, h, ds, r, rs, q⟩ := q
  obtain ⟨d, h', e, q⟩ := rdO_ok q
  unfold cStr at e
  split at e
  · rename_i i
    split at e
    · rename_i hi
      cases e
      obtain ⟨v, rfl, rv⟩ := rels_one rs
      rw [rel_int_iff] at rv
      subst rv
      exact .inl ⟨i, rfl, log_small hi, q T H _ Le.refl r (rel_str_iff.mpr rfl)⟩
    · cases e
  · cases e
    obtain ⟨v, rfl, rv⟩ := rels_one rs
    rw [rel_str_iff] at rv
    subst rv
    exact .inr ⟨_, rfl, q T H _ Le.refl r (rel_str_iff.mpr rfl)⟩
  · cases e
def mSIdx (d : D) (ds : List D) (h : HH) : R D := match d, ds with
  | .str a, [.str b] => ofO (Builtin.Str.occurrences (Str.ofString a) (Str.ofString b) 0 (Str.ofString a).length 1).head? fun i => .ok (.int (i : Nat)) h
  | _, _ => .stuck
theorem m_sidx : MtR X "str.index" (rdM X mSIdx) := MtR.mono mt_sindex fun x xs H Q q => by
  obtain ⟨T, h, d, ds, r, rv, rs, q⟩ := q
  obtain ⟨d', h', e, q⟩ := rdO_ok q
  unfold mSIdx at e
  split at e
  · rename_i a b
    obtain ⟨i, e1, e⟩ := ofO_ok e
    cases e
    obtain ⟨v, rfl, rv2⟩ := rels_one rs
    rw [rel_str_iff] at rv rv2
    subst rv; subst rv2
    cases ho : Builtin.Str.occurrences (Str.ofString a) (Str.ofString b) 0 (Str.ofString a).length 1 with
    | nil => rw [ho] at e1; cases e1
    | cons j0 rest =>
      rw [ho] at e1
      cases e1
      exact ⟨_, _, _, rest, rfl, rfl, ho, q T H _ Le.refl r (rel_int_iff.mpr rfl)⟩
  · cases e
/-- o.m(e, ..) of a text -/
theorem se_mS {id : String} {name : Str} {o e : Expr} {es : List Expr} {m : D → List D → HH → R D} {f : Ex} {g : Exs} {apos cpos : Pos} (slot : Slot "str" name id) (hty : typeOf (.builtin id) = pure (.type "method_descriptor")) (hm : MtR X id (rdM X m)) (ho : SE X W o f) (ha : SA X W (e :: es) g)
    (hbase : attributeBase o name X.env (eval o X.env) = eval o X.env := by rfl)
    (hfew : ((backTo cpos (starEach (e :: es) X.env)).all (fun x => !x.1) && (backToKw cpos (keywordEach [] X.env)).all (fun x => x.1.isSome)
      && decide ((e :: es).length + ([] : List Keyword).length + (if ([] : List Keyword).isEmpty then 0 else 1) < 30)) = true := by rfl)
    (hline : (apos.endLine == cpos.line) = true := by rfl) (hs : starEach (e :: es) X.env = (false, eval e X.env) :: starEach es X.env := by rfl) (hplain : (backTo cpos (starEach es X.env)).any (·.1) = false := by rfl) :
    SE X W (.Call (.Attribute o name apos) (e :: es) [] cpos) (eM cS m f g) :=
  PE.mono (pe_bm PySem.F.plainAttrs_str slot hty hm ho ha.pa hbase hfew hline hs hplain) fun _ _ _ => rd_M fun _ _ _ _ _ r q e => cS_ty r q e
/-! sorted(xs) -/
theorem cr_sortedSX : CallR X (.builtin "sorted") fun vs H Q => ∃ (a : Addr) (ss : List String), vs = [V.ref a] ∧ SqL X.K H a ((ss.map Str.ofString).map V.str) ∧ ss.length < 64 ∧
    ∀ (p : Addr), H p = none → Q (.ref p) (upd H p (.lst (((sortS ss).map Str.ofString).map V.str))) := CallR.mono cr_sortedS fun vs H Q q => by
  obtain ⟨a, ss, rfl, s, hl, q⟩ := q
  exact ⟨a, _, rfl, s, by rw [List.length_map]; exact hl, fun ys p hp hs hn => by rw [sortS_of hp hs]; exact q p hn⟩
def srtD (xs : List D) : Option (List D) := match intsD xs with
  | some ns => some ((sortM ns).map D.int)
  | none => match strsD xs with
    | some ss => if ss.length < 64 then some ((sortS ss).map D.str) else none
    | none => none
def fSortX (f : Exs) : Exs := fun env h => (f env h).bind fun ds h1 => ofO (match ds with | [d] => itemsL h1 d | _ => none) fun xs => ofO (srtD xs) fun ys => .ok ys h1
theorem sf_sortX {e : Expr} {f : Exs} {p pos : Pos} (C : Cok X W k) (hg : Gl X "sorted") (hm : X.mg "sorted" = none) (ha : SA X W [e] f)
    (he : starEach [e] X.env = (false, eval e X.env) :: starEach [] X.env := by rfl) (hpl : (backTo pos (starEach [] X.env)).any (·.1) = false := by rfl) : SF X W (.Call (.Name "sorted" p) [e] [] pos) (fSortX f) :=
  PE.mono (pe_callB (cr_sortedI.or cr_sortedSX) hg hm boot_sorted ha.pa (by decide) (by decide) he hpl) fun σ H Q hh => by
    obtain ⟨T, env, h, r1, r2, a⟩ := hh
    refine ⟨T, env, h, r1, r2, a.bind0 fun ds h1 T1 H1 vs e l1 q1 rvs a1 => ?_⟩
    obtain ⟨xs, e1, a2⟩ := After.ofO a1
    obtain ⟨ys, e3, a2⟩ := After.ofO a2
    split at e1
    · rename_i d
      obtain ⟨v, rfl, rv⟩ := rels_one rvs
      obtain ⟨b, ws, rfl, sq, rr⟩ := rel_itemsL q1 rv e1
      unfold srtD at e3
      split at e3
      · rename_i ns e4
        cases e3
        rw [rels_ints rr e4] at sq
        refine .inl ⟨b, ns, rfl, sq, fun ns' p hp1 hp2 hp => ?_⟩
        have es : ns' = sortM ns := sortedM_ext hp2 (sortM_sorted ns) (hp1.trans (sortM_perm ns).symm)
        subst es
        exact a2 (T1.blk p) (upd H1 p (.lst ((sortM ns).map V.int))) _ (l1.trans r1.mut (Le.blk hp)) (q1.blk hp) ⟨p, _, rfl, upd_same, fun z => q1.mut.free hp (q1.sub p z), .inr rfl, l1.was q1.mut hp, rels_ofInts _⟩
      · split at e3
        · rename_i ss e4
          split at e3
          · rename_i hl
            cases e3
            rw [rels_txts rr e4] at sq
            refine .inr ⟨b, ss, rfl, sq, hl, fun p hp => ?_⟩
            exact a2 (T1.blk p) (upd H1 p (.lst (((sortS ss).map Str.ofString).map V.str))) _ (l1.trans r1.mut (Le.blk hp)) (q1.blk hp) ⟨p, _, rfl, upd_same, fun z => q1.mut.free hp (q1.sub p z), .inr rfl, l1.was q1.mut hp, rels_ofStrs _⟩
          · cases e3
        · cases e3
    · cases e1
end
@[simp] theorem cLstX_t {h : HH} {xs : List D} : cLstX [.tup xs] h = some xs := rfl
@[simp] theorem cLstX_l {h : HH} {xs : List D} : cLstX [.lst xs] h = some xs := rfl
@[simp] theorem cLstX_f {h : HH} {xs : List D} : cLstX [.frz xs] h = some xs := rfl
@[simp] theorem cLstX_d {h : HH} {kvs : List (Ky × D)} : cLstX [.dic kvs] h = some (kvs.map fun p => toDk p.1) := rfl
theorem cLstX_rd {h : HH} {i : Nat} {kvs : List (Ky × D)} (e : h[i]? = some (.dic kvs)) : cLstX [.ref i] h = some (kvs.map fun p => toDk p.1) := by
  unfold cLstX
  have : dicD h (.ref i) = some kvs := by rw [dicD_ref_, e]
  dsimp only
  rw [this]
theorem cLstX_rl {h : HH} {i : Nat} {xs : List D} (e : h[i]? = some (.lst xs)) : cLstX [.ref i] h = some xs := by
  unfold cLstX
  have : dicD h (.ref i) = none := by rw [dicD_ref_, e]
  dsimp only
  rw [this]
  exact itemsL_ref e
@[simp] theorem wp_cStrI {i : Int} {h : HH} {q : D → HH → Prop} {e : String → HH → Prop} : Wp q e (cStr [.int i] h) ↔ i.natAbs < 2 ^ 61 ∧ q (.str (toString i)) h := wp_if
@[simp] theorem wp_cStrS {i : String} {h : HH} {q : D → HH → Prop} {e : String → HH → Prop} : Wp q e (cStr [.str i] h) ↔ q (.str i) h := Iff.rfl
@[simp] theorem cS_s {h : HH} {s : String} : cS h (.str s) = true := rfl
@[simp] theorem wp_mSIdx {a b : String} {h : HH} {q : D → HH → Prop} {e : String → HH → Prop} : Wp q e (mSIdx (.str a) [.str b] h) ↔ Wo (fun i : Nat => q (.int i) h) (Builtin.Str.occurrences (Str.ofString a) (Str.ofString b) 0 (Str.ofString a).length 1).head? := wp_wo fun i => Iff.rfl
@[simp ↓] theorem wp_fSortX {f : Exs} {env : En} {h : HH} {qs : List D → HH → Prop} {e : String → HH → Prop} : Wp qs e (fSortX f env h) ↔ Wp (fun ds h1 => Wo (fun xs => Wo (fun ys => qs ys h1) (srtD xs)) (match ds with | [d] => itemsL h1 d | _ => none)) e (f env h) := by
  unfold fSortX
  rw [wp_bind]
  exact wp_congr fun d h1 => wp_wo fun xs => wp_ofO
theorem srtD_ints {ns : List Int} : srtD (ns.map D.int) = some ((sortM ns).map D.int) := by
  unfold srtD
  rw [intsD_map]
theorem srtD_strs {ns : List String} (h : ns.length < 64) : srtD (ns.map D.str) = some ((sortS ns).map D.str) := by
  unfold srtD
  rw [strsD_map]
  cases ns with
  | nil => rfl
  | cons s r =>
    have : intsD ((s :: r).map D.str) = none := rfl
    rw [this]
    dsimp only
    rw [if_pos h]
end Pu

namespace Pu
open PySem PySem.Spec PyProof.Rows L2

/-! ### boxes and names of boxes -/
instance decKyM (k : Ky) : (ks : List Ky) → Decidable (k ∈ ks)
  | [] => isFalse (fun e => by cases e)
  | a :: r => if h : k = a then isTrue (by rw [h]; exact List.mem_cons_self) else match decKyM k r with
    | .isTrue h2 => isTrue (List.mem_cons_of_mem _ h2)
    | .isFalse h2 => isFalse fun e => (List.mem_cons.mp e).elim h h2
def kD : Ky → D
  | .inl i => .int i
  | .inr s => .str s
theorem kD_toD (k : Ky) : kD k = toDk k := by cases k <;> rfl
theorem kD_map (ks : List Ky) : ks.map kD = ks.map toDk := List.map_congr_left fun k _ => kD_toD k
abbrev kT (ks : List Ky) : D := .tup (ks.map kD)
def all8 : List Ky := [.inl 0, .inl 1, .inl 2, .inl 3, .inr "A", .inr "B", .inr "C", .inr "D"]
abbrev P8 (k : Ky) : Prop := k ∈ all8
def isIK : Ky → Bool
  | .inl _ => true
  | _ => false
def isSK : Ky → Bool
  | .inr _ => true
  | _ => false
def intsK (ks : List Ky) : List Int := ks.filterMap fun k => match k with | .inl i => some i | _ => none
def strsK (ks : List Ky) : List String := ks.filterMap fun k => match k with | .inr i => some i | _ => none
theorem intsK_filter : ∀ ks : List Ky, (ks.filter isIK).map kD = (intsK ks).map D.int
  | [] => rfl
  | .inl i :: ks => by
    have := intsK_filter ks
    unfold intsK at this ⊢
    rw [List.filter_cons_of_pos rfl, List.map_cons, this]; rfl
  | .inr i :: ks => by
    have := intsK_filter ks
    unfold intsK at this ⊢
    rw [List.filter_cons_of_neg (fun z => by cases z), this]; rfl
theorem strsK_filter : ∀ ks : List Ky, (ks.filter isSK).map kD = (strsK ks).map D.str
  | [] => rfl
  | .inr i :: ks => by
    have := strsK_filter ks
    unfold strsK at this ⊢
    rw [List.filter_cons_of_pos rfl, List.map_cons, this]; rfl
  | .inl i :: ks => by
    have := strsK_filter ks
    unfold strsK at this ⊢
    rw [List.filter_cons_of_neg (fun z => by cases z), this]; rfl
theorem intsK_mem {i : Int} {ks : List Ky} : i ∈ intsK ks ↔ .inl i ∈ ks := by
  unfold intsK
  rw [List.mem_filterMap]
  constructor
  · rintro ⟨k, hk, e⟩
    cases k with
    | inl j => cases e; exact hk
    | inr j => cases e
  · exact fun h => ⟨_, h, rfl⟩
theorem strsK_mem {i : String} {ks : List Ky} : i ∈ strsK ks ↔ .inr i ∈ ks := by
  unfold strsK
  rw [List.mem_filterMap]
  constructor
  · rintro ⟨k, hk, e⟩
    cases k with
    | inr j => cases e; exact hk
    | inl j => cases e
  · exact fun h => ⟨_, h, rfl⟩
/-- rising, each once -/
def rk (ks : List Ky) : List Ky := all8.filter fun k => decide (k ∈ ks)
theorem rk_len {ks : List Ky} : (rk ks).length ≤ 8 := List.length_filter_le _ _
theorem rk_mem {ks : List Ky} {k : Ky} : k ∈ rk ks ↔ k ∈ all8 ∧ k ∈ ks := by
  unfold rk; rw [List.mem_filter, decide_eq_true_eq]
theorem rk_sub {ks : List Ky} : ∀ k ∈ rk ks, k ∈ all8 := fun k h => (rk_mem.mp h).1
def ints4 : List Int := [0, 1, 2, 3]
def strs4 : List String := ["A", "B", "C", "D"]
theorem all8_split : all8 = ints4.map Sum.inl ++ strs4.map Sum.inr := rfl
theorem strs4_sorted : strs4.Pairwise ltS := by unfold strs4 ltS; decide +kernel
theorem rk_split {ks : List Ky} (hs : ∀ k ∈ ks, k ∈ all8) : (rk ks).map kD = (sortU (intsK ks)).map D.int ++ (sortUS (strsK ks)).map D.str := by
  have e1 : sortU (intsK ks) = ints4.filter fun i => decide (Sum.inl i ∈ ks) := by
    refine sorted_ext (sortU_sorted _) (List.Pairwise.filter _ (by unfold ints4; decide)) fun i => ?_
    rw [sortU_mem, intsK_mem, List.mem_filter, decide_eq_true_eq]
    refine ⟨fun h => ⟨?_, h⟩, fun h => h.2⟩
    have := hs _ h
    rw [all8_split] at this
    simpa using this
  have e2 : sortUS (strsK ks) = strs4.filter fun i => decide (Sum.inr i ∈ ks) := by
    refine ltS_ext (sortUS_sorted _) (List.Pairwise.filter _ strs4_sorted) fun i => ?_
    rw [sortUS_mem, strsK_mem, List.mem_filter, decide_eq_true_eq]
    refine ⟨fun h => ⟨?_, h⟩, fun h => h.2⟩
    have := hs _ h
    rw [all8_split] at this
    simpa using this
  rw [e1, e2]
  unfold rk
  rw [all8_split, List.filter_append, List.map_append, List.filter_map, List.filter_map, List.map_map, List.map_map]
  rfl
@[simp] theorem eqv_kk {a b : Ky} : eqv (kD a) (kD b) = decide (a = b) := by
  cases a <;> cases b <;> simp [kD]
theorem pl_kD (k : Ky) : plD (kD k) := by cases k <;> simp [kD]
theorem isDs_kys : ∀ ks : List Ky, isDs (ks.map kD) = true
  | [] => by simp
  | k :: ks => by rw [List.map_cons, isDs_cons, isDs_kys ks, (pl_kD k).1]; rfl
theorem deeps_kys : ∀ ks : List Ky, deeps (ks.map kD) = 0
  | [] => by simp
  | k :: ks => by
    rw [List.map_cons, deeps_cons, deeps_kys ks]
    cases k <;> simp [kD, deep]
theorem any_kys (ks : List Ky) (k : Ky) : ((ks.map kD).any fun z => eqv z (kD k)) = decide (k ∈ ks) := by
  induction ks with
  | nil => rfl
  | cons a l ih =>
    rw [List.map_cons, List.any_cons, ih, eqv_kk, Bool.eq_iff_iff]
    by_cases h : a = k
    · simp [h]
    · have : ¬ k = a := fun z => h z.symm
      simp [h, this]
theorem in_kysT {h : HH} {ks : List Ky} {k : Ky} : in? h (kD k) (.tup (ks.map kD)) = some (decide (k ∈ ks)) := by
  rw [in_tup (pl_kD k) (isDs_kys ks) (by rw [deeps_kys]; omega), any_kys]
theorem in_kysL {h : HH} {ks : List Ky} {k : Ky} : in? h (kD k) (.lst (ks.map kD)) = some (decide (k ∈ ks)) := by
  rw [in_lst (pl_kD k) (isDs_kys ks) (by rw [deeps_kys]; omega), any_kys]
theorem same_kk {h : HH} {a b : Ky} : same? h (kD a) (kD b) = some (decide (a = b)) := by
  rw [same_pl (pl_kD a) (pl_kD b), eqv_kk]
theorem cl_kD {n : Nat} (k : Ky) : cl n (kD k) = true := by cases k <;> (unfold kD cl; rfl)
theorem cls_kys {n : Nat} : ∀ ks : List Ky, cls n (ks.map kD) = true
  | [] => by unfold cls; rfl
  | k :: ks => by rw [List.map_cons, cls, cl_kD, cls_kys ks]; rfl
theorem cl_kys {n : Nat} (ks : List Ky) : cl n (kT ks) = true := by unfold cl; exact cls_kys ks
theorem cls_of {n : Nat} : ∀ {ds : List D}, (∀ d ∈ ds, cl n d = true) → cls n ds = true
  | [], _ => by unfold cls; rfl
  | d :: ds, h => by rw [cls, h d (by simp), cls_of fun x hx => h x (by simp [hx])]; rfl
theorem eqvAll_kys : ∀ (as bs : List Ky), PyData.eqvAll (toPs (as.map kD)) (toPs (bs.map kD)) = decide (as = bs)
  | [], [] => rfl
  | [], b :: bs => rfl
  | a :: as, [] => rfl
  | a :: as, b :: bs => by
    have ih := eqvAll_kys as bs
    have e := eqv_kk (a := a) (b := b)
    show (PyData.eqv (toP (kD a)) (toP (kD b)) && PyData.eqvAll (toPs (as.map kD)) (toPs (bs.map kD))) = _
    rw [ih]
    unfold eqv at e
    rw [e, Bool.eq_iff_iff]
    simp
theorem pl_kys (ks : List Ky) : plD (.tup (ks.map kD)) := ⟨by simp [isDs_kys], by simp [deeps_kys]⟩
theorem same_kys {h : HH} {as bs : List Ky} : same? h (.tup (as.map kD)) (.tup (bs.map kD)) = some (decide (as = bs)) := by
  rw [same_pl (pl_kys as) (pl_kys bs), eqv_tup, eqvAll_kys]

/-! ### parts of numbers -/
inductive Pt where
  | num (i : Int) | nm (s : String) | bin (w : String) (a b : Pt)
namespace Pt
def toD : Pt → D
  | num i => .int i
  | nm s => .str s
  | bin w a b => .tup [.str w, toD a, toD b]
def ok : Pt → Prop
  | num i => 0 ≤ i ∧ i ≤ 999
  | nm s => s ∈ ["k", "l", "m", "n"]
  | bin w a b => w ∈ ["plus", "minus"] ∧ ok a ∧ ok b
def ht : Pt → Nat
  | bin _ a b => max (ht a) (ht b) + 1
  | _ => 0
def c0 : Pt → Int
  | num i => i
  | nm _ => 0
  | bin w a b => if w = "plus" then c0 a + c0 b else c0 a - c0 b
def cf (s : String) : Pt → Int
  | num _ => 0
  | nm t => if t = s then 1 else 0
  | bin w a b => if w = "plus" then cf s a + cf s b else cf s a - cf s b
/-- the names in it -/
def names : Pt → List String
  | num _ => []
  | nm s => [s]
  | bin _ a b => names a ++ names b
theorem names_ok : ∀ {p : Pt}, ok p → ∀ s ∈ names p, s ∈ ["k", "l", "m", "n"]
  | num _, _, s, h => by cases h
  | nm t, o, s, h => by rw [names, List.mem_singleton] at h; rw [h]; exact o
  | bin w a b, o, s, h => by
    rw [names, List.mem_append] at h
    exact h.elim (names_ok o.2.1 s) (names_ok o.2.2 s)
theorem names_len : ∀ {p : Pt}, (names p).length ≤ 2 ^ ht p
  | num _ => by simp [names]
  | nm _ => by simp [names, ht]
  | bin w a b => by
    have h1 := names_len (p := a)
    have h2 := names_len (p := b)
    have h3 : 2 ^ ht a ≤ 2 ^ max (ht a) (ht b) := Nat.pow_le_pow_right (by decide) (by omega)
    have h4 : 2 ^ ht b ≤ 2 ^ max (ht a) (ht b) := Nat.pow_le_pow_right (by decide) (by omega)
    simp only [names, ht, List.length_append, Nat.pow_succ]
    omega
theorem isD_toD : ∀ p : Pt, isD p.toD = true
  | num _ => rfl
  | nm _ => rfl
  | bin w a b => by simp [toD, isD, isD_toD a, isD_toD b]
theorem deep_toD : ∀ p : Pt, deep p.toD ≤ ht p
  | num _ => by simp [toD, deep]
  | nm _ => by simp [toD, deep]
  | bin w a b => by
    have := deep_toD a
    have := deep_toD b
    simp [toD, deep, ht]
    omega
theorem cl_toD {n : Nat} : ∀ p : Pt, cl n p.toD = true
  | num _ => by unfold toD cl; rfl
  | nm _ => by unfold toD cl; rfl
  | bin w a b => by
    unfold toD cl cls cls cls cls
    rw [cl_toD a, cl_toD b]
    unfold cl; rfl
end Pt

/-! ### deeds of patterns -/
inductive Pd where
  | w1 (w : String) (a : Ky) | wn (w : String) (a : Ky) (n : Pt) | wb (w : String) (a b : Ky) | cond (a : Ky) (d : Pd)
namespace Pd
def toD : Pd → D
  | w1 w a => .tup [.str w, kD a]
  | wn w a n => .tup [.str w, kD a, n.toD]
  | wb w a b => .tup [.str w, kD a, kD b]
  | cond a d => .tup [.str "if", kD a, toD d]
def lone (P : Ky → Prop) (N : Pt → Prop) : Pd → Prop
  | w1 w a => (w = "turn" ∨ w = "left" ∨ w = "right") ∧ P a
  | wn w a n => (w = "put" ∨ w = "more") ∧ P a ∧ N n
  | wb w a b => (w = "copy" ∨ w = "sum" ∨ w = "less" ∨ w = "part") ∧ P a ∧ P b
  | cond _ _ => False
def ok (P : Ky → Prop) (N : Pt → Prop) : Pd → Prop
  | cond a d => P a ∧ lone P N d
  | d => lone P N d
theorem ok_lone {P N} {d : Pd} (h : lone P N d) : ok P N d := by cases d <;> first | exact h | exact h.elim
theorem lone_mono {P P' : Ky → Prop} {N N' : Pt → Prop} (hp : ∀ k, P k → P' k) (hn : ∀ n, N n → N' n) : ∀ {d : Pd}, lone P N d → lone P' N' d
  | w1 _ _, o => ⟨o.1, hp _ o.2⟩
  | wn _ _ _, o => ⟨o.1, hp _ o.2.1, hn _ o.2.2⟩
  | wb _ _ _, o => ⟨o.1, hp _ o.2.1, hp _ o.2.2⟩
  | cond _ _, o => o.elim
theorem ok_mono {P P' : Ky → Prop} {N N' : Pt → Prop} (hp : ∀ k, P k → P' k) (hn : ∀ n, N n → N' n) : ∀ {d : Pd}, ok P N d → ok P' N' d
  | w1 _ _, o => lone_mono hp hn (d := .w1 _ _) o
  | wn _ _ _, o => lone_mono hp hn (d := .wn _ _ _) o
  | wb _ _ _, o => lone_mono hp hn (d := .wb _ _ _) o
  | cond _ _, o => ⟨hp _ o.1, lone_mono hp hn o.2⟩
theorem isD_toD : ∀ d : Pd, isD d.toD = true
  | w1 _ a => by simp [toD, isD, (pl_kD a).1]
  | wn _ a n => by simp [toD, isD, (pl_kD a).1, n.isD_toD]
  | wb _ a b => by simp [toD, isD, (pl_kD a).1, (pl_kD b).1]
  | cond a d => by simp [toD, isD, (pl_kD a).1, isD_toD d]
theorem cl_toD {n : Nat} : ∀ d : Pd, cl n d.toD = true
  | w1 _ a => by
    unfold toD cl cls cls cls
    rw [cl_kD a]; unfold cl; rfl
  | wn _ a m => by
    unfold toD cl cls cls cls cls
    rw [cl_kD a, m.cl_toD]; unfold cl; rfl
  | wb _ a b => by
    unfold toD cl cls cls cls cls
    rw [cl_kD a, cl_kD b]; unfold cl; rfl
  | cond a d => by
    unfold toD cl cls cls cls cls
    rw [cl_kD a, cl_toD d]; unfold cl; rfl
end Pd
/-- a pattern -/
abbrev patD (ds : List Pd) : D := .tup (ds.map Pd.toD)

/-! ### what is looked at, what is put; what is open -/
def looksP : Pd → List Ky
  | .cond a d => rk (a :: looksP d)
  | .w1 _ a => [a]
  | .wn w a _ => if w = "put" then [] else [a]
  | .wb w a b => if w = "copy" then [b] else rk [a, b]
def putsP : Pd → List Ky
  | .cond _ _ => []
  | .w1 _ a => [a]
  | .wn _ a _ => [a]
  | .wb _ a _ => [a]
def aheadP (d : Pd) (b : List Ky) : List Ky := rk (looksP d ++ b.filter fun x => !decide (x ∈ putsP d))
def openP : List Pd → List Ky → List (List Ky)
  | [], asked => [asked]
  | d :: r, asked => aheadP d ((openP r asked).headD []) :: openP r asked
def hdP (ds : List Pd) (asked : List Ky) : List Ky := (openP ds asked).headD []
theorem looksP_lone {N : Pt → Prop} {d : Pd} (o : d.lone P8 N) : ∀ k ∈ looksP d, k ∈ all8 := by
  cases d with
  | cond a d => exact o.elim
  | w1 w a => intro k h; rw [looksP, List.mem_singleton] at h; rw [h]; exact o.2
  | wn w a n =>
    intro k h
    unfold looksP at h
    split at h
    · cases h
    · rw [List.mem_singleton] at h; rw [h]; exact o.2.1
  | wb w a b =>
    intro k h
    unfold looksP at h
    split at h
    · rw [List.mem_singleton] at h; rw [h]; exact o.2.2
    · exact rk_sub k h
theorem looksP_sub {N : Pt → Prop} {d : Pd} (o : d.ok P8 N) : ∀ k ∈ looksP d, k ∈ all8 := by
  cases d with
  | cond a d => intro k h; unfold looksP at h; exact rk_sub k h
  | w1 w a => exact looksP_lone (N := N) (d := .w1 w a) o
  | wn w a n => exact looksP_lone (N := N) (d := .wn w a n) o
  | wb w a b => exact looksP_lone (N := N) (d := .wb w a b) o
theorem looksP_len {N : Pt → Prop} {d : Pd} (o : d.ok P8 N) : (looksP d).length ≤ 8 := by
  cases d with
  | cond a d => unfold looksP; exact rk_len
  | w1 w a => simp [looksP]
  | wn w a n => unfold looksP; split <;> simp
  | wb w a b => unfold looksP; split; simp; exact rk_len
theorem openP_len : ∀ (ds : List Pd) (asked : List Ky), (openP ds asked).length = ds.length + 1
  | [], _ => rfl
  | d :: r, asked => by unfold openP; rw [List.length_cons, openP_len r, List.length_cons]
theorem openP_at : ∀ (ds : List Pd) (asked : List Ky) (i : Nat), i ≤ ds.length → (openP ds asked)[i]? = some (hdP (ds.drop i) asked)
  | [], asked, i, h => by
    have : i = 0 := by simpa using h
    subst this; rfl
  | d :: r, asked, 0, h => by unfold hdP openP; rfl
  | d :: r, asked, i + 1, h => by
    rw [List.drop_succ_cons, ← openP_at r asked i (by simpa using h)]
    show (aheadP d ((openP r asked).headD []) :: openP r asked)[i + 1]? = _
    simp
theorem hdP_mem {ds : List Pd} {asked : List Ky} : hdP ds asked ∈ openP ds asked := List.mem_of_getElem? (openP_at ds asked 0 (by simp))
theorem openP_sub {ds : List Pd} {asked : List Ky} (ha : ∀ k ∈ asked, k ∈ all8) : ∀ l ∈ openP ds asked, ∀ k ∈ l, k ∈ all8 := by
  induction ds with
  | nil => intro l hl; unfold openP at hl; rw [List.mem_singleton.mp hl]; exact ha
  | cons d r ih =>
    intro l hl
    unfold openP at hl
    rcases List.mem_cons.mp hl with e | e
    · rw [e]; exact rk_sub
    · exact ih l e
theorem atI_lastP {α : Type} {l : List α} {x : α} : atI (l ++ [x]) (-1) = some x := by
  unfold atI ixN
  rw [if_neg (by omega), if_pos (by rw [List.length_append, List.length_singleton]; omega)]
  have e : ((-1 : Int) + ((l ++ [x]).length : Nat)).toNat = l.length := by rw [List.length_append, List.length_singleton]; omega
  show (l ++ [x])[((-1 : Int) + ((l ++ [x]).length : Nat)).toNat]? = some x
  rw [e]; simp

/-! ### places -/
def pl8 : Ky → Nat
  | .inl i => i.toNat
  | .inr s => if s = "A" then 4 else if s = "B" then 5 else if s = "C" then 6 else 7
abbrev all8D : List D := [.int 0, .int 1, .int 2, .int 3, .str "A", .str "B", .str "C", .str "D"]
theorem all8D_eq : all8D = all8.map kD := rfl
theorem all8_cases {k : Ky} (h : k ∈ all8) : k = .inl 0 ∨ k = .inl 1 ∨ k = .inl 2 ∨ k = .inl 3 ∨ k = .inr "A" ∨ k = .inr "B" ∨ k = .inr "C" ∨ k = .inr "D" := by
  simpa [all8] using h
theorem pl8_lt {k : Ky} (h : k ∈ all8) : pl8 k < 8 := by
  rcases all8_cases h with rfl | rfl | rfl | rfl | rfl | rfl | rfl | rfl <;> decide
theorem wp_index8 {h : HH} {q : D → HH → Prop} {e : String → HH → Prop} {k : Ky} (hk : k ∈ all8) : Wp q e (mIndex (.lst all8D) [kD k] h) ↔ q (.int (pl8 k : Nat)) h := by
  have e1 : inOk h (kD k) all8D = true := inOk_pl (pl_kD k) (by decide) (by decide)
  have e2 : view h (kD k) = kD k := view_isD (pl_kD k).1
  have e3 : findAt (kD k) all8D 0 = some (pl8 k) := by
    rcases all8_cases hk with rfl | rfl | rfl | rfl | rfl | rfl | rfl | rfl <;> simp [findAt, kD, pl8]
  unfold mIndex
  have e4 : itemsL h (.lst all8D) = some all8D := rfl
  rw [e4]
  dsimp only
  rw [if_pos e1, e2, e3]
  exact Iff.rfl
/-- rising -/
def Rs (ks : List Ky) : Prop := (∀ k ∈ ks, k ∈ all8) ∧ ks.Pairwise fun a b => pl8 a < pl8 b
theorem all8_rises : all8.Pairwise fun a b => pl8 a < pl8 b := by unfold all8; decide +kernel
theorem Rs.filter (p : Ky → Bool) : Rs (all8.filter p) := ⟨fun _ h => (List.mem_filter.mp h).1, List.Pairwise.filter _ all8_rises⟩
theorem Rs.rk (ks : List Ky) : Rs (rk ks) := Rs.filter _
theorem Rs.one {k : Ky} (h : k ∈ all8) : Rs [k] := ⟨by simpa using h, by simp⟩
theorem Rs.nil : Rs [] := ⟨by simp, by simp⟩
theorem Rs.len {ks : List Ky} (h : Rs ks) : ks.length ≤ 8 := by
  have key : ∀ (l : List Ky) (lo n : Nat), l.Pairwise (fun a b => pl8 a < pl8 b) → (∀ x ∈ l, lo ≤ pl8 x ∧ pl8 x < lo + n) → l.length ≤ n := by
    intro l
    induction l with
    | nil => intro lo n _ _; simp
    | cons a l ih =>
      intro lo n hp hx
      have hp' := List.pairwise_cons.mp hp
      have ha := hx a (by simp)
      have := ih (pl8 a + 1) (lo + n - (pl8 a + 1)) hp'.2 fun x hxl => by
        have := hp'.1 x hxl
        have := hx x (by simp [hxl])
        omega
      rw [List.length_cons]
      omega
  exact key ks 0 8 h.2 fun x hx => ⟨by omega, by have := pl8_lt (h.1 x hx); omega⟩
theorem looksP_rs {N : Pt → Prop} {d : Pd} (o : d.ok P8 N) : Rs (looksP d) := by
  cases d with
  | cond a d => unfold looksP; exact Rs.rk _
  | w1 w a => unfold looksP; exact Rs.one o.2
  | wn w a n => unfold looksP; split; exact Rs.nil; exact Rs.one o.2.1
  | wb w a b => unfold looksP; split; exact Rs.one o.2.2; exact Rs.rk _
theorem putsP_rs {N : Pt → Prop} {d : Pd} (o : d.ok P8 N) : Rs (putsP d) := by
  cases d with
  | cond a d => exact Rs.nil
  | w1 w a => exact Rs.one o.2
  | wn w a n => exact Rs.one o.2.1
  | wb w a b => exact Rs.one o.2.1
theorem openP_rs {ds : List Pd} {asked : List Ky} (ha : Rs asked) : ∀ l ∈ openP ds asked, Rs l := by
  induction ds with
  | nil => intro l hl; unfold openP at hl; rw [List.mem_singleton.mp hl]; exact ha
  | cons d r ih =>
    intro l hl
    unfold openP at hl
    rcases List.mem_cons.mp hl with e | e
    · rw [e]; exact Rs.rk _
    · exact ih l e
theorem openP_last (ds : List Pd) (asked : List Ky) : ∃ l, openP ds asked = l ++ [asked] := by
  induction ds with
  | nil => exact ⟨[], rfl⟩
  | cons d r ih => obtain ⟨l, e⟩ := ih; exact ⟨_ :: l, by rw [openP, e]; rfl⟩
@[simp] theorem tiD_ref_ {h : HH} {i : Nat} : tiD h (.ref i) = match h[i]? with | some (.lst _) => some .lst | some (.dic _) => some .dic | _ => none := by unfold tiD; rfl
@[simp] theorem blsD_rep {b : Bool} : ∀ n : Nat, blsD (List.replicate n (.bl b)) = some (List.replicate n b)
  | 0 => rfl
  | n + 1 => by rw [List.replicate_succ, blsD_cons, blsD_rep n]; rfl
@[simp] theorem kyD_kD (k : Ky) : kyD (kD k) = some k := by cases k <;> rfl
theorem isDs_ofP {α : Type} {f : α → D} (hf : ∀ a, isD (f a) = true) : ∀ l : List α, isDs (l.map f) = true
  | [] => by simp
  | a :: l => by rw [List.map_cons, isDs_cons, hf a, isDs_ofP hf l]; rfl
end Pu

namespace Pu
open PySem PySem.Spec PyProof.Rows L2

/-! ### a pen, and a list that grows behind all -/
theorem get_end {h : HH} {o : O} {n : Nat} (e : n = h.length) : (h ++ [o])[n]? = some o := by subst e; simp
theorem set_end {h : HH} {o o' : O} {n : Nat} (e : n = h.length) : (h ++ [o]).set n o' = h ++ [o'] := by subst e; simp
theorem PenD.len {b : Int} {t h : HH} (p : PenD b t h) : h.length = t.length + 1 := by
  obtain ⟨ns, a, r, rfl, _⟩ := p; simp
theorem Pen.len {b : Int} {t h : HH} (p : Pen b t h) : h.length = t.length + 1 := by
  obtain ⟨ns, a, r, rfl, _⟩ := p; simp
theorem PenD.app {b : Int} {t h : HH} (p : PenD b t h) (u : HH) : PenD b (t ++ u) (h ++ u) := by
  obtain ⟨ns, a, r, rfl, q⟩ := p; exact ⟨ns, a, r, rfl, q⟩
theorem Pen.app {b : Int} {t h : HH} (p : Pen b t h) (u : HH) : Pen b (t ++ u) (h ++ u) := by
  obtain ⟨ns, a, r, rfl, q⟩ := p; exact ⟨ns, a, r, rfl, q⟩
theorem PenD.off {b : Int} {t u h : HH} (p : PenD b (t ++ u) h) : ∃ h1, h = h1 ++ u ∧ PenD b t h1 := by
  obtain ⟨ns, a, r, rfl, q⟩ := p; exact ⟨_, rfl, ns, a, r, rfl, q⟩
theorem Pen.off {b : Int} {t u h : HH} (p : Pen b (t ++ u) h) : ∃ h1, h = h1 ++ u ∧ Pen b t h1 := by
  obtain ⟨ns, a, r, rfl, q⟩ := p; exact ⟨_, rfl, ns, a, r, rfl, q⟩
/-- told behind: a pure value -/
theorem wp_fzP {F : Fn} {ds : List D} {h : HH} {Q : D → HH → Prop} (w : Wp (fun d h' => ∃ h1 g, h' = h1 ++ g ∧ h1.length = h.length ∧ h1.all (clO 0) = true ∧ cl 0 d = true ∧ Q d h1) noE (F ds h)) : Wp Q noE (fzF F ds h) := by
  obtain ⟨d, h', e, h1, g, rfl, hl, hp, hd, q⟩ := wp_ex.mp w
  exact wp_of (fzF_pure e hl hp hd) q
/-- told behind: a list of pure values -/
theorem wp_fzL {F : Fn} {ds : List D} {h : HH} {Q : D → HH → Prop} (w : Wp (fun d h' => ∃ h1 g i xs, d = .ref i ∧ h' = h1 ++ g ∧ h1.length = h.length ∧ h1.all (clO 0) = true ∧ h.length ≤ i ∧ h'[i]? = some (.lst xs) ∧ cls 0 xs = true ∧ Q (.lst xs) h1) noE (F ds h)) : Wp Q noE (fzF F ds h) := by
  obtain ⟨d, h', e, h1, g, i, xs, rfl, rfl, hl, hp, hi, hx, hd, q⟩ := wp_ex.mp w
  exact wp_of (fzF_mk e hl hp hi hx hd) q
theorem PenD.set {b : Int} {t h : HH} {i : Nat} {xs : List D} {o : O} (p : PenD b t h) (e : h[i]? = some (.lst xs)) : PenD b (t.set (i - 1) o) (h.set i o) := by
  obtain ⟨ns, a, r, rfl, q⟩ := p
  cases i with
  | zero => cases e
  | succ i => exact ⟨ns, a, r, rfl, q⟩
theorem Pen.set {b : Int} {t h : HH} {i : Nat} {o : O} (p : Pen b t h) (e : 1 ≤ i) : Pen b (t.set (i - 1) o) (h.set i o) := by
  obtain ⟨ns, a, r, rfl, q⟩ := p
  cases i with
  | zero => cases e
  | succ i => exact ⟨ns, a, r, rfl, q⟩
theorem all_set {t : HH} {i : Nat} {o : O} (ht : t.all (clO 0) = true) (ho : clO 0 o = true) : (t.set i o).all (clO 0) = true := by
  rw [List.all_eq_true] at ht ⊢
  intro x hx
  rcases List.mem_or_eq_of_mem_set hx with z | z
  · exact ht x z
  · rw [z]; exact ho
theorem all_app {t u : HH} (ht : t.all (clO 0) = true) (hu : u.all (clO 0) = true) : (t ++ u).all (clO 0) = true := by
  rw [List.all_append, ht, hu]; rfl
theorem view_refL {h : HH} {j : Nat} {xs : List D} (e : h[j]? = some (.lst xs)) : view h (.ref j) = .lst xs := by unfold view; dsimp only; rw [e]
theorem same_refL {h : HH} {j : Nat} {xs : List D} {b : D} (e : h[j]? = some (.lst xs)) (p : plD (.lst xs)) (r : plD b) : same? h (.ref j) b = some (eqv (.lst xs) b) := by
  unfold same?
  rw [view_refL e, view_isD r.1, p.1, r.1]
  rw [if_pos]
  simp only [Bool.true_and, Bool.and_eq_true, decide_eq_true_eq]
  exact ⟨p.2, r.2⟩
end Pu

namespace Pu
open PySem PySem.Spec PyProof.Rows L2

/-! ### the keys of a dict that grows -/
theorem dPut_keys {kvs : List (Ky × D)} {k : Ky} {d : D} : (dPut kvs k d).map (·.1) = if k ∈ kvs.map (·.1) then kvs.map (·.1) else kvs.map (·.1) ++ [k] := by
  unfold dPut
  by_cases h : k ∈ kvs.map (·.1)
  · have h2 : (kvs.any fun kv => decide (kv.1 = k)) = true := by
      obtain ⟨p, hp, rfl⟩ := List.mem_map.mp h
      exact List.any_eq_true.mpr ⟨p, hp, by simp⟩
    rw [if_pos h, if_pos h2, List.map_map]
    refine List.map_congr_left fun p _ => ?_
    show (if p.1 = k then (p.1, d) else p).1 = p.1
    split <;> rfl
  · have h2 : ¬ (kvs.any fun kv => decide (kv.1 = k)) = true := by
      intro z
      obtain ⟨p, hp, e⟩ := List.any_eq_true.mp z
      exact h (List.mem_map.mpr ⟨p, hp, by simpa using e⟩)
    rw [if_neg h, if_neg h2, List.map_append]; rfl
/-- the keys are these, each once -/
def Kset (ks : List Ky) (kvs : List (Ky × D)) : Prop := (kvs.map (·.1)).Nodup ∧ ∀ k, k ∈ kvs.map (·.1) ↔ k ∈ ks
theorem Kset.nil : Kset [] [] := ⟨List.nodup_nil, fun k => by simp⟩
theorem Kset.put {ks : List Ky} {kvs : List (Ky × D)} {k : Ky} {d : D} (s : Kset ks kvs) : Kset (ks ++ [k]) (dPut kvs k d) := by
  rw [Kset, dPut_keys]
  by_cases h : k ∈ kvs.map (·.1)
  · rw [if_pos h]
    refine ⟨s.1, fun j => ?_⟩
    rw [s.2, List.mem_append, List.mem_singleton]
    exact ⟨.inl, fun z => z.elim id fun e => e ▸ (s.2 k).mp h⟩
  · rw [if_neg h]
    refine ⟨?_, fun j => ?_⟩
    · refine List.nodup_append.mpr ⟨s.1, by simp, fun a ha b hb e => ?_⟩
      rw [List.mem_singleton] at hb
      exact h (hb ▸ e ▸ ha)
    · rw [List.mem_append, List.mem_append, List.mem_singleton, s.2]
theorem rk_perm {ks : List Ky} (nd : ks.Nodup) (hs : ∀ k ∈ ks, k ∈ all8) : ks.Perm (rk ks) := by
  have nd2 : (rk ks).Nodup := by
    have : all8.Nodup := by unfold all8; decide +kernel
    unfold rk
    exact this.filter _
  exact (List.perm_ext_iff_of_nodup nd nd2).mpr fun k => by rw [rk_mem]; exact ⟨fun h => ⟨hs k h, h⟩, fun h => h.2⟩
theorem rk_congr {ks js : List Ky} (h : ∀ k, k ∈ ks ↔ k ∈ js) : rk ks = rk js := by
  unfold rk
  exact List.filter_congr fun k _ => decide_eq_decide.mpr (h k)
theorem Kset.len {ks : List Ky} {kvs : List (Ky × D)} (s : Kset ks kvs) (hs : ∀ k ∈ ks, k ∈ all8) : kvs.length ≤ 8 := by
  have p := rk_perm s.1 fun k hk => hs k ((s.2 k).mp hk)
  have := p.length_eq
  rw [List.length_map] at this
  rw [this]; exact rk_len
theorem keyedF_all {F : Fn} {f : Ky → Int} : ∀ {ks : List Ky}, (∀ k ∈ ks, F [kD k] [] = .ok (.int (f k)) []) → keyedF F ks = some (ks.map fun k => (k, f k))
  | [], _ => rfl
  | k :: ks, h => by
    have h1 := h k (by simp)
    have h2 := keyedF_all (f := f) (ks := ks) fun j hj => h j (by simp [hj])
    unfold keyedF
    rw [← kD_toD, h1, h2]
    rfl
theorem perm_extM {α : Type} {le : α → α → Bool} : ∀ {l m : List α}, (∀ a ∈ l, ∀ b ∈ l, le a b = true → le b a = true → a = b) → l.Pairwise (fun a b => le a b = true) → m.Pairwise (fun a b => le a b = true) → l.Perm m → l = m
  | [], m, _, _, _, h => h.nil_eq
  | a :: l, [], _, _, _, h => by have := h.length_eq; simp at this
  | a :: l, b :: m, anti, h1, h2, h => by
    have h1' := List.pairwise_cons.mp h1
    have h2' := List.pairwise_cons.mp h2
    have e : a = b := by
      have m1 : a ∈ b :: m := h.mem_iff.mp (by simp)
      have m2 : b ∈ a :: l := h.mem_iff.mpr (by simp)
      rcases List.mem_cons.mp m1 with e | e
      · exact e
      · rcases List.mem_cons.mp m2 with e2 | e2
        · exact e2.symm
        · exact anti _ (by simp) _ (by simp [e2]) (h1'.1 b e2) (h2'.1 a e)
    subst e
    exact congrArg (a :: ·) (perm_extM (fun x hx y hy => anti x (by simp [hx]) y (by simp [hy])) h1'.2 h2'.2 h.cons_inv)
theorem pl8_inj {a b : Ky} (ha : a ∈ all8) (hb : b ∈ all8) (e : pl8 a = pl8 b) : a = b := by
  rcases all8_cases ha with rfl | rfl | rfl | rfl | rfl | rfl | rfl | rfl <;> rcases all8_cases hb with rfl | rfl | rfl | rfl | rfl | rfl | rfl | rfl <;>
    first | rfl | (exfalso; revert e; decide)
theorem sortK_eq {ks : List Ky} (nd : ks.Nodup) (hs : ∀ k ∈ ks, k ∈ all8) : (((ks.map fun k => (k, (pl8 k : Int))).mergeSort byKey).map fun p => toDk p.1) = (rk ks).map kD := by
  have e : (ks.map fun k => (k, (pl8 k : Int))).mergeSort byKey = (rk ks).map fun k => (k, (pl8 k : Int)) := by
    have p1 := List.mergeSort_perm (ks.map fun k => (k, (pl8 k : Int))) byKey
    refine perm_extM (le := byKey) (fun a ha b hb h1 h2 => ?_) ?_ ?_ (p1.trans ((rk_perm nd hs).map _))
    · obtain ⟨x, hx, rfl⟩ := List.mem_map.mp (p1.mem_iff.mp ha)
      obtain ⟨y, hy, rfl⟩ := List.mem_map.mp (p1.mem_iff.mp hb)
      have h1 : (pl8 x : Int) ≤ pl8 y := of_decide_eq_true h1
      have h2 : (pl8 y : Int) ≤ pl8 x := of_decide_eq_true h2
      rw [pl8_inj (hs x hx) (hs y hy) (by omega)]
    · refine List.pairwise_mergeSort (fun a b c h1 h2 => ?_) (fun a b => ?_) _
      · simp only [byKey, decide_eq_true_eq] at h1 h2 ⊢; omega
      · simp only [byKey, Bool.or_eq_true, decide_eq_true_eq]; omega
    · rw [List.pairwise_map]
      exact (Rs.rk ks).2.imp fun {a b} h => by simp only [byKey, decide_eq_true_eq]; omega
  rw [e, List.map_map]
  exact List.map_congr_left fun k _ => (kD_toD k).symm
theorem Kset.sorted {ks : List Ky} {kvs : List (Ky × D)} {F : Fn} (s : Kset ks kvs) (hs : ∀ k ∈ ks, k ∈ all8) (hF : ∀ k ∈ all8, F [kD k] [] = .ok (.int (pl8 k : Nat)) []) :
    ∃ ps, kysD (kvs.map fun p => toDk p.1) = some (kvs.map (·.1)) ∧ keyedF F (kvs.map (·.1)) = some ps ∧ ((ps.mergeSort byKey).map fun p => toDk p.1) = (rk ks).map kD := by
  have hk : ∀ k ∈ kvs.map (·.1), k ∈ all8 := fun k h => hs k ((s.2 k).mp h)
  refine ⟨_, ?_, keyedF_all (f := fun k => (pl8 k : Int)) fun k h => hF k (hk k h), ?_⟩
  · have := kysD_map (kvs.map (·.1))
    rwa [List.map_map] at this
  · rw [sortK_eq s.1 hk, rk_congr s.2]
/-! names of numbers -/
def nms4 : List String := ["k", "l", "m", "n"]
def rn (ss : List String) : List String := nms4.filter fun s => decide (s ∈ ss)
theorem rn_mem {ss : List String} {s : String} : s ∈ rn ss ↔ s ∈ nms4 ∧ s ∈ ss := by unfold rn; rw [List.mem_filter, decide_eq_true_eq]
theorem rn_len {ss : List String} : (rn ss).length ≤ 4 := List.length_filter_le _ _
theorem rn_congr {ks js : List String} (h : ∀ k, k ∈ ks ↔ k ∈ js) : rn ks = rn js := by
  unfold rn
  exact List.filter_congr fun k _ => decide_eq_decide.mpr (h k)
theorem nms4_nodup : nms4.Nodup := by unfold nms4; decide
theorem nms4_sorted : nms4.Pairwise fun a b => leS a b = true := by unfold nms4 leS; decide +kernel
theorem rn_perm {ks : List String} (nd : ks.Nodup) (hs : ∀ k ∈ ks, k ∈ nms4) : ks.Perm (rn ks) := by
  have nd2 : (rn ks).Nodup := by
    unfold rn
    exact nms4_nodup.filter _
  exact (List.perm_ext_iff_of_nodup nd nd2).mpr fun k => by rw [rn_mem]; exact ⟨fun h => ⟨hs k h, h⟩, fun h => h.2⟩
theorem sortS_rn {ks : List String} (nd : ks.Nodup) (hs : ∀ k ∈ ks, k ∈ nms4) : sortS ks = rn ks := by
  refine perm_ext (le := leS) (fun _ _ => leS_anti) (sortS_sorted ks) (List.Pairwise.filter _ nms4_sorted) ((sortR_perm ks).trans (rn_perm nd hs))
def Sset (ss : List String) (kvs : List (Ky × D)) : Prop := Kset (ss.map Sum.inr) kvs
theorem Sset.put {ks : List String} {kvs : List (Ky × D)} {k : String} {d : D} (s : Sset ks kvs) : Sset (ks ++ [k]) (dPut kvs (.inr k) d) := by
  unfold Sset at s ⊢
  rw [List.map_append]; exact Kset.put s
theorem Sset.keys {ss : List String} {kvs : List (Ky × D)} (s : Sset ss kvs) : ∃ us : List String, kvs.map (·.1) = us.map Sum.inr ∧ us.Nodup ∧ ∀ k, k ∈ us ↔ k ∈ ss := by
  have key : ∀ l : List Ky, (∀ k ∈ l, ∃ s, k = Sum.inr s) → ∃ us : List String, l = us.map Sum.inr := by
    intro l
    induction l with
    | nil => exact fun _ => ⟨[], rfl⟩
    | cons a l ih =>
      intro h
      obtain ⟨s, rfl⟩ := h a (by simp)
      obtain ⟨us, rfl⟩ := ih fun k hk => h k (by simp [hk])
      exact ⟨s :: us, rfl⟩
  obtain ⟨us, e⟩ := key (kvs.map (·.1)) fun k hk => by
    obtain ⟨t, _, rfl⟩ := List.mem_map.mp ((s.2 k).mp hk)
    exact ⟨t, rfl⟩
  refine ⟨us, e, ?_, fun k => ?_⟩
  · have := s.1
    rw [e] at this
    exact (List.pairwise_map.mp this).imp fun h z => h (by rw [z])
  · have := s.2 (.inr k)
    rw [e] at this
    simpa using this
theorem Sset.len {ss : List String} {kvs : List (Ky × D)} (s : Sset ss kvs) (hs : ∀ k ∈ ss, k ∈ nms4) : kvs.length ≤ 4 := by
  obtain ⟨us, e, nd, hm⟩ := s.keys
  have p := rn_perm nd fun k hk => hs k ((hm k).mp hk)
  have h1 := p.length_eq
  have h2 : (kvs.map (·.1)).length = us.length := by rw [e, List.length_map]
  rw [List.length_map] at h2
  rw [h2, h1]; exact rn_len
theorem Sset.sorted {ss : List String} {kvs : List (Ky × D)} (s : Sset ss kvs) (hs : ∀ k ∈ ss, k ∈ nms4) : srtD (kvs.map fun p => toDk p.1) = some ((rn ss).map D.str) := by
  obtain ⟨us, e, nd, hm⟩ := s.keys
  have hu : ∀ k ∈ us, k ∈ nms4 := fun k hk => hs k ((hm k).mp hk)
  have e2 : (kvs.map fun p => toDk p.1) = us.map D.str := by
    have : (kvs.map fun p => toDk p.1) = (kvs.map (·.1)).map toDk := by rw [List.map_map]; rfl
    rw [this, e, List.map_map]; rfl
  have hl : us.length ≤ 4 := by have := (rn_perm nd hu).length_eq; rw [this]; exact rn_len
  rw [e2, srtD_strs (by omega), sortS_rn nd hu, rn_congr hm]
/-! the parts of a deed -/
abbrev PtK := Sum Ky Pt
def ptD : PtK → D
  | .inl a => .tup [.str "b", kD a]
  | .inr n => .tup [.str "n", n.toD]
def ptsP : Pd → List PtK
  | .w1 _ a => [.inl a]
  | .wn _ a n => [.inl a, .inr n]
  | .wb _ a b => [.inl a, .inl b]
  | .cond a d => .inl a :: ptsP d
def lefts : List PtK → List Ky
  | [] => []
  | .inl a :: r => a :: lefts r
  | .inr _ :: r => lefts r
def rights : List PtK → List Pt
  | [] => []
  | .inl _ :: r => rights r
  | .inr a :: r => a :: rights r
theorem lefts_app : ∀ a b : List PtK, lefts (a ++ b) = lefts a ++ lefts b
  | [], b => rfl
  | .inl x :: r, b => by rw [List.cons_append, lefts, lefts_app r b]; rfl
  | .inr x :: r, b => by rw [List.cons_append, lefts, lefts_app r b]; rfl
theorem rights_app : ∀ a b : List PtK, rights (a ++ b) = rights a ++ rights b
  | [], b => rfl
  | .inl x :: r, b => by rw [List.cons_append, rights, rights_app r b]; rfl
  | .inr x :: r, b => by rw [List.cons_append, rights, rights_app r b]; rfl
def allP (ds : List Pd) : List PtK := ds.flatMap ptsP
/-- the boxes, the names for numbers that stand in a pattern -/
def bxsP (ds : List Pd) : List Ky := lefts (allP ds)
def nmsP (ds : List Pd) : List String := (rights (allP ds)).flatMap Pt.names
abbrev NP (w : Nat) (n : Pt) : Prop := n.ok ∧ n.ht ≤ w
/-- with names out of these -/
abbrev NS (ss : List String) (w : Nat) (n : Pt) : Prop := NP w n ∧ ∀ s ∈ n.names, s ∈ ss
def PtOk (P : Ky → Prop) (N : Pt → Prop) : PtK → Prop
  | .inl a => P a
  | .inr n => N n
theorem ptsP_lone {P N} {d : Pd} (o : d.lone P N) : (ptsP d).length ≤ 2 ∧ ∀ p ∈ ptsP d, PtOk P N p := by
  cases d with
  | w1 w a => simp [ptsP, PtOk]; exact o.2
  | wn w a n => simp [ptsP, PtOk]; exact o.2
  | wb w a n => simp [ptsP, PtOk]; exact o.2
  | cond a d => exact o.elim
theorem ptsP_ok {P N} {d : Pd} (o : d.ok P N) : (ptsP d).length ≤ 3 ∧ ∀ p ∈ ptsP d, PtOk P N p := by
  cases d with
  | cond a d =>
    have := ptsP_lone o.2
    simp [ptsP]
    exact ⟨this.1, o.1, this.2⟩
  | w1 w a => have := ptsP_lone (N := N) (d := .w1 w a) o; exact ⟨by omega, this.2⟩
  | wn w a n => have := ptsP_lone (N := N) (d := .wn w a n) o; exact ⟨by omega, this.2⟩
  | wb w a n => have := ptsP_lone (N := N) (d := .wb w a n) o; exact ⟨by omega, this.2⟩
theorem allP_ok {P N} {ds : List Pd} (o : ∀ d ∈ ds, d.ok P N) : (allP ds).length ≤ 3 * ds.length ∧ ∀ p ∈ allP ds, PtOk P N p := by
  induction ds with
  | nil => simp [allP]
  | cons d ds ih =>
    have h1 := ptsP_ok (o d (by simp))
    have h2 := ih fun x hx => o x (by simp [hx])
    unfold allP at h2 ⊢
    rw [List.flatMap_cons, List.length_append, List.length_cons]
    refine ⟨by omega, fun p hp => ?_⟩
    rcases List.mem_append.mp hp with z | z
    · exact h1.2 p z
    · exact h2.2 p z
theorem lefts_mem {a : Ky} : ∀ {l : List PtK}, a ∈ lefts l ↔ .inl a ∈ l
  | [] => by simp [lefts]
  | .inl x :: r => by simp [lefts, lefts_mem (l := r)]
  | .inr x :: r => by simp [lefts, lefts_mem (l := r)]
theorem rights_mem {a : Pt} : ∀ {l : List PtK}, a ∈ rights l ↔ .inr a ∈ l
  | [] => by simp [rights]
  | .inl x :: r => by simp [rights, rights_mem (l := r)]
  | .inr x :: r => by simp [rights, rights_mem (l := r)]
theorem bxsP_ok {N} {ds : List Pd} (o : ∀ d ∈ ds, d.ok P8 N) : ∀ k ∈ bxsP ds, k ∈ all8 := fun k hk => (allP_ok o).2 _ (lefts_mem.mp hk)
theorem nmsP_ok {P} {w : Nat} {ds : List Pd} (o : ∀ d ∈ ds, d.ok P (NP w)) : ∀ s ∈ nmsP ds, s ∈ nms4 := fun s hs => by
  obtain ⟨n, hn, h2⟩ := List.mem_flatMap.mp hs
  exact Pt.names_ok ((allP_ok o).2 _ (rights_mem.mp hn)).1 s h2
theorem cl_ptD {n : Nat} (p : PtK) : cl n (ptD p) = true := by
  cases p with
  | inl a =>
    unfold ptD cl cls cls cls
    rw [cl_kD]; unfold cl; rfl
  | inr m =>
    unfold ptD cl cls cls cls
    rw [Pt.cl_toD]; unfold cl; rfl
def txt8 : Ky → String
  | .inl i => toString i
  | .inr s => s
theorem occ8 {k : Ky} (hk : k ∈ all8) : (Builtin.Str.occurrences (Str.ofString "0123ABCD") (Str.ofString (txt8 k)) 0 (Str.ofString "0123ABCD").length 1).head? = some (pl8 k) := by
  rcases all8_cases hk with rfl | rfl | rfl | rfl | rfl | rfl | rfl | rfl <;> decide +kernel
/-! what is told behind: closed to simp -/
def FzP (h : HH) (Q : D → HH → Prop) (d : D) (h' : HH) : Prop := ∃ h1 g, h' = h1 ++ g ∧ h1.length = h.length ∧ h1.all (clO 0) = true ∧ cl 0 d = true ∧ Q d h1
def FzL (h : HH) (Q : D → HH → Prop) (d : D) (h' : HH) : Prop := ∃ h1 g i xs, d = .ref i ∧ h' = h1 ++ g ∧ h1.length = h.length ∧ h1.all (clO 0) = true ∧ h.length ≤ i ∧ h'[i]? = some (.lst xs) ∧ cls 0 xs = true ∧ Q (.lst xs) h1
theorem FzP.mk {h h1 : HH} {Q : D → HH → Prop} {d : D} {g : HH} (a : h1.length = h.length) (b : h1.all (clO 0) = true) (c : cl 0 d = true) (q : Q d h1) : FzP h Q d (h1 ++ g) := ⟨h1, g, rfl, a, b, c, q⟩
theorem FzL.mk {h h1 : HH} {Q : D → HH → Prop} {g : HH} {i : Nat} {xs : List D} (a : h1.length = h.length) (b : h1.all (clO 0) = true) (z : h.length ≤ i) (e : (h1 ++ g)[i]? = some (.lst xs)) (c : cls 0 xs = true) (q : Q (.lst xs) h1) : FzL h Q (.ref i) (h1 ++ g) :=
  ⟨h1, g, i, xs, rfl, rfl, a, b, z, e, c, q⟩
/-- the list that stands last -/
theorem FzL.end {h h1 : HH} {Q : D → HH → Prop} {i : Nat} {xs : List D} (a : h1.length = h.length) (b : h1.all (clO 0) = true) (z : i = h.length) (c : cls 0 xs = true) (q : Q (.lst xs) h1) : FzL h Q (.ref i) (h1 ++ [.lst xs]) :=
  FzL.mk a b (by omega) (get_end (by omega)) c q
theorem wp_fP {F : Fn} {ds : List D} {h : HH} {Q : D → HH → Prop} (w : Wp (FzP h Q) noE (F ds h)) : Wp Q noE (fzF F ds h) := wp_fzP w
theorem wp_fL {F : Fn} {ds : List D} {h : HH} {Q : D → HH → Prop} (w : Wp (FzL h Q) noE (F ds h)) : Wp Q noE (fzF F ds h) := wp_fzL w
@[simp] theorem cut_1_2 {α : Type} {xs : List α} : cut xs (some 1) (some 2) = (xs.drop 1).take 1 := cut_mid (i := 1) (j := 2)
@[simp] theorem cut_1_3 {α : Type} {xs : List α} : cut xs (some 1) (some 3) = (xs.drop 1).take 2 := cut_mid (i := 1) (j := 3)
@[simp] theorem atI_m1 {α : Type} {a : α} : atI [a] (-1) = some a := rfl
@[simp] theorem atI_m2 {α : Type} {a b : α} : atI [a, b] (-1) = some b := rfl
@[simp] theorem atI_m3 {α : Type} {a b c : α} : atI [a, b, c] (-1) = some c := rfl
/-- a comprehension with a test, whose parts draw -/
theorem wp_lcF {c : List (Nat × List D)} {g : Tg} {t : Et} {f : Ex} {env : En} {q : List D → HH → Prop} {e : String → HH → Prop} {DS : List D} (I : Nat → List D → HH → Prop) {h : HH} (i0 : I 0 [] h) (hn : DS.length ≤ sz) (hc : ∀ i acc h, I i acc h → chkOk h c = true) (hl : ∀ i acc h, I i acc h → acc.length ≤ i)
    (st : ∀ i d acc h, DS[i]? = some d → I i acc h → Wo (fun env1 => Wp (fun b h1 => Wi (Wp (fun y h2 => I (i + 1) (acc ++ [y]) h2) noE (f env1 h1)) (I (i + 1) acc h1) b) noE (t env1 h)) (g d env))
    (hd : ∀ acc h, I DS.length acc h → q acc h) : Wp q e (lcGo c g t f env DS [] h) := by
  have key : ∀ (ds pre acc : List D) (h : HH), DS = pre ++ ds → I pre.length acc h → Wp q e (lcGo c g t f env ds acc h) := by
    intro ds
    induction ds with
    | nil =>
      intro pre acc h e1 i1
      rw [List.append_nil] at e1
      subst e1
      exact wp_lc0.mpr ⟨hc _ _ _ i1, hd acc h i1⟩
    | cons d ds ih =>
      intro pre acc h e1 i1
      have hlen : pre.length < sz := by
        have := congrArg List.length e1
        rw [List.length_append, List.length_cons] at this
        omega
      refine wp_lc1.mpr ⟨hc _ _ _ i1, ?_⟩
      have w := st pre.length d acc h (by rw [e1]; simp) i1
      revert w
      have e2 : DS = (pre ++ [d]) ++ ds := by rw [e1]; simp
      have l2 : (pre ++ [d]).length = pre.length + 1 := by simp
      cases g d env with
      | none => exact fun w => w
      | some env1 =>
        intro w
        have w : Wp (fun b h1 => Wi (Wp (fun y h2 => I (pre.length + 1) (acc ++ [y]) h2) noE (f env1 h1)) (I (pre.length + 1) acc h1) b) noE (t env1 h) := w
        refine wp_imp w fun b h1 w => ?_
        cases b with
        | false => exact ih (pre ++ [d]) acc h1 e2 (by rw [l2]; exact w)
        | true =>
          have hl1 := hl _ _ _ i1
          have w : Wp (fun y h2 => I (pre.length + 1) (acc ++ [y]) h2) noE (f env1 h1) := w
          exact wp_imp w fun y h2 w => ⟨by omega, ih (pre ++ [d]) (acc ++ [y]) h2 e2 (by rw [l2]; exact w)⟩
  exact key DS [] [] h rfl i0
theorem isDs_strs : ∀ ss : List String, isDs (ss.map D.str) = true
  | [] => by simp
  | k :: ks => by rw [List.map_cons, isDs_cons, isDs_strs ks]; rfl
theorem deeps_strs : ∀ ss : List String, deeps (ss.map D.str) = 0
  | [] => by simp
  | k :: ks => by rw [List.map_cons, deeps_cons, deeps_strs ks]; simp
theorem any_strs (ks : List String) (k : String) : ((ks.map D.str).any fun z => eqv z (.str k)) = decide (k ∈ ks) := by
  induction ks with
  | nil => rfl
  | cons a l ih =>
    rw [List.map_cons, List.any_cons, ih, eqv_ss, Bool.eq_iff_iff]
    by_cases h : a = k
    · simp [h]
    · have : ¬ k = a := fun z => h z.symm
      simp [h, this]
theorem in_strsL {h : HH} {ks : List String} {k : String} : in? h (.str k) (.lst (ks.map D.str)) = some (decide (k ∈ ks)) := by
  rw [in_lst pl_str (isDs_strs ks) (by rw [deeps_strs]; omega), any_strs]
theorem in_strsT {h : HH} {ks : List String} {k : String} : in? h (.str k) (.tup (ks.map D.str)) = some (decide (k ∈ ks)) := by
  rw [in_tup pl_str (isDs_strs ks) (by rw [deeps_strs]; omega), any_strs]
end Pu

namespace Pu
open PySem PySem.Spec PyProof.Rows L2 PySem.SeqAt

/-! ### max, min of a list of whole numbers -/
theorem ints_reads {h : Heap} : ∀ {is : List Int} {us : List Value}, Vals (is.map V.int) us → ReadsAll h us (is.map PyData.int) []
  | [], us, r => by cases r; exact .nil
  | i :: is, us, r => by
    cases r with
    | cons r1 r2 =>
      obtain ⟨t, rfl⟩ := r1
      exact .cons (as := []) (.int i t) (ints_reads r2)
theorem ints_alike (is : List Int) : PySem.W.AlikeAll (is.map PyData.int) := by
  refine ⟨fun x hx y hy => ?_, fun x hx => ?_⟩
  · obtain ⟨_, _, rfl⟩ := List.mem_map.mp hx
    obtain ⟨_, _, rfl⟩ := List.mem_map.mp hy
    simp [PySem.W.alike]
  · obtain ⟨_, _, rfl⟩ := List.mem_map.mp hx
    intro z; cases z
theorem ints_depth : ∀ is : List Int, PyData.depthAll (is.map PyData.int) = 0
  | [] => rfl
  | i :: is => by
    have := ints_depth is
    rw [List.map_cons]
    unfold PyData.depthAll
    rw [this]
    rfl
section
variable {X : Cx}
theorem call_maxI (hc : X.calm = true) (hu : X.A.units + 65 < cLine) : CallR X (.builtin "max") fun vs H Q => ∃ (a : Addr) (i : Int) (is : List Int), vs = [V.ref a] ∧ SqL X.K H a ((i :: is).map V.int) ∧ Q (.int (is.foldl max i)) H := by
  intro pins s σ H vs us Q I r h
  obtain ⟨a, i, is, rfl, hs, q⟩ := h
  obtain ⟨its, rv, hl, _⟩ := I.list hs
  rw [Vals.ref1 r]
  refine PySem.W.max_list_data (x := .int i) (xs := is.map .int) (as := []) (I.ok.hd hc) hl.isList (by simpa using ints_reads rv) (ints_alike (i :: is)) (by
    have := ints_depth (i :: is)
    rw [List.map_cons] at this
    rw [this]; omega) fun j v h' tk bs hv hr k => ?_
  rw [PySem.W.maxD_ints] at hr
  cases hr with
  | int _ t => exact ⟨.int (is.foldl max i), H, I.kept k, ⟨t, rfl⟩, q⟩
theorem call_minI (hc : X.calm = true) (hu : X.A.units + 65 < cLine) : CallR X (.builtin "min") fun vs H Q => ∃ (a : Addr) (i : Int) (is : List Int), vs = [V.ref a] ∧ SqL X.K H a ((i :: is).map V.int) ∧ Q (.int (is.foldl min i)) H := by
  intro pins s σ H vs us Q I r h
  obtain ⟨a, i, is, rfl, hs, q⟩ := h
  obtain ⟨its, rv, hl, _⟩ := I.list hs
  rw [Vals.ref1 r]
  refine PySem.W.min_list_data (x := .int i) (xs := is.map .int) (as := []) (I.ok.hd hc) hl.isList (by simpa using ints_reads rv) (ints_alike (i :: is)) (by
    have := ints_depth (i :: is)
    rw [List.map_cons] at this
    rw [this]; omega) fun j v h' tk bs hv hr k => ?_
  rw [PySem.W.minD_ints] at hr
  cases hr with
  | int _ t => exact ⟨.int (is.foldl min i), H, I.kept k, ⟨t, rfl⟩, q⟩
def cMaxX (ds : List D) (h : HH) : R D := match ds with
  | [d] => ofO (itemsL h d) fun xs => ofO (intsD xs) fun ns => match ns with
    | n :: ms => .ok (.int (ms.foldl max n)) h
    | [] => .stuck
  | ds => cMax ds h
def cMinX (ds : List D) (h : HH) : R D := match ds with
  | [d] => ofO (itemsL h d) fun xs => ofO (intsD xs) fun ns => match ns with
    | n :: ms => .ok (.int (ms.foldl min n)) h
    | [] => .stuck
  | ds => cMin ds h
theorem c_maxX (hc : X.calm = true) (hu : X.A.units + 65 < cLine) : CallR X (.builtin "max") (rdC X cMaxX) := CallR.mono ((call_maxI hc hu).or (c_max hc)) fun xs H Q q => by
  obtain ⟨T, h, ds, r, rs, q⟩ := q
  obtain ⟨d, h', e, q⟩ := rdO_ok q
  unfold cMaxX at e
  split at e
  · rename_i d1
    obtain ⟨ys, e1, e⟩ := ofO_ok e
    obtain ⟨ns, e2, e⟩ := ofO_ok e
    obtain ⟨v, rfl, rv⟩ := rels_one rs
    obtain ⟨b, ws, rfl, sq, rr⟩ := rel_itemsL r rv e1
    rw [rels_ints rr e2] at sq
    cases ns with
    | nil => cases e
    | cons n ms =>
      cases e
      exact .inl ⟨b, n, ms, rfl, sq, q T H _ Le.refl r (rel_int_iff.mpr rfl)⟩
  · exact .inr ⟨T, h, _, r, rs, by rw [e]; exact q⟩
theorem c_minX (hc : X.calm = true) (hu : X.A.units + 65 < cLine) : CallR X (.builtin "min") (rdC X cMinX) := CallR.mono ((call_minI hc hu).or (c_min hc)) fun xs H Q q => by
  obtain ⟨T, h, ds, r, rs, q⟩ := q
  obtain ⟨d, h', e, q⟩ := rdO_ok q
  unfold cMinX at e
  split at e
  · rename_i d1
    obtain ⟨ys, e1, e⟩ := ofO_ok e
    obtain ⟨ns, e2, e⟩ := ofO_ok e
    obtain ⟨v, rfl, rv⟩ := rels_one rs
    obtain ⟨b, ws, rfl, sq, rr⟩ := rel_itemsL r rv e1
    rw [rels_ints rr e2] at sq
    cases ns with
    | nil => cases e
    | cons n ms =>
      cases e
      exact .inl ⟨b, n, ms, rfl, sq, q T H _ Le.refl r (rel_int_iff.mpr rfl)⟩
  · exact .inr ⟨T, h, _, r, rs, by rw [e]; exact q⟩
end
@[simp] theorem wp_cMaxX2 {i j : Int} {h : HH} {q : D → HH → Prop} {e : String → HH → Prop} : Wp q e (cMaxX [.int i, .int j] h) ↔ q (.int (if j > i then j else i)) h := Iff.rfl
@[simp] theorem wp_cMinX2 {i j : Int} {h : HH} {q : D → HH → Prop} {e : String → HH → Prop} : Wp q e (cMinX [.int i, .int j] h) ↔ q (.int (if j < i then j else i)) h := Iff.rfl
theorem cMaxX_l {n : Int} {ns : List Int} {h : HH} : cMaxX [.lst (D.int n :: ns.map D.int)] h = .ok (.int (ns.foldl max n)) h := by
  have := intsD_map (n :: ns)
  rw [List.map_cons] at this
  unfold cMaxX
  show ofO (intsD (D.int n :: ns.map D.int)) _ = _
  rw [this]; rfl
theorem cMinX_l {n : Int} {ns : List Int} {h : HH} : cMinX [.lst (D.int n :: ns.map D.int)] h = .ok (.int (ns.foldl min n)) h := by
  have := intsD_map (n :: ns)
  rw [List.map_cons] at this
  unfold cMinX
  show ofO (intsD (D.int n :: ns.map D.int)) _ = _
  rw [this]; rfl
/-! ### a sum of lists, fresh -/
def fAddL (f g : Ex) : Exs := fun env h => (f env h).bind fun a h1 => (g env h1).bind fun b h2 => ofO (lview h2 a) fun xs => ofO (lview h2 b) fun ys => if xs.length + ys.length ≤ sz then .ok (xs ++ ys) h2 else .stuck
theorem sf_addL {X : Cx} {W : WX} {a b : Expr} {f g : Ex} {pos : Pos} (ha : SE X W a f) (hb : SE X W b g) : SF X W (.BinOp a .Add b pos) (fAddL f g) :=
  PE.mono (pe_op op_cat ha hb) fun σ H Q hh => by
    obtain ⟨T, env, h, r1, r2, a⟩ := hh
    refine ⟨T, env, h, r1, r2, a.bind r1.mut fun d h1 T1 H1 v _ l1 q1 rv a1 => ?_⟩
    refine ⟨T1, env, h1, q1, relE_mono l1 r1.mut r2, a1.bind q1.mut fun e h2 T2 H2 u _ l2 q2 ru a2 => ?_⟩
    have hs : sz = sizeLine := by rw [sizeLine_eq]; rfl
    obtain ⟨xs, e1, a2⟩ := a2.ofO
    obtain ⟨ys, e2, a2⟩ := a2.ofO
    by_cases hz : xs.length + ys.length ≤ sz
    · rw [if_pos hz] at a2
      obtain ⟨p1, vs, rfl, s1, rv⟩ := rel_lview q2 (rel_mono l2 q1.mut d v rv) e1
      obtain ⟨p2, ws, rfl, s2, rw'⟩ := rel_lview q2 ru e2
      refine ⟨p1, p2, vs, ws, rfl, rfl, s1, s2, by rw [rels_length rv, rels_length rw', ← hs]; exact hz, fun p hp => ?_⟩
      exact a2 (T2.blk p) (upd H2 p (.lst (vs ++ ws))) _ (Le.blk hp) (q2.blk hp) ⟨p, _, rfl, upd_same, fun z => q2.mut.free hp (q2.sub p z), .inr rfl, (l1.trans r1.mut l2).was q2.mut hp, rels_mono (Le.blk hp) q2.mut _ _ (rels_append rv rw')⟩
    · rw [if_neg hz] at a2; exact a2.elim
@[simp ↓] theorem wp_fAddL {f g : Ex} {env : En} {h : HH} {qs : List D → HH → Prop} {e : String → HH → Prop} : Wp qs e (fAddL f g env h) ↔ Wp (fun a h1 => Wp (fun b h2 => Wo (fun xs => Wo (fun ys => xs.length + ys.length ≤ sz ∧ qs (xs ++ ys) h2) (lview h2 b)) (lview h2 a)) e (g env h1)) e (f env h) := by
  unfold fAddL
  rw [wp_bind]
  refine wp_congr fun d h1 => ?_
  rw [wp_bind]
  exact wp_congr fun d2 h2 => wp_wo fun xs => wp_wo fun ys => wp_if
end Pu

namespace Pu
open PySem PySem.Spec PyProof.Rows L2

/-! ### a tuple once -/
theorem tuple_mul1 (l : Addr) (items : Array Value) (n : Nat) (dd : Option Addr) (sl : Array (Option Value)) (u : Tok) :
    Meets (Builtin.«tuple.__mul__» ⟨[.ref l, .int 1 u], []⟩) (fun _ R s => s.heap.get? l = some { cls := .type "tuple", dict := dd, data := .seq items n, slots := sl } ∧ R (.ok (.ret (Value.ref l))) s) :=
  .of_wp fun prog w A R s h => by
    obtain ⟨hp, g, d, tk, os⟩ := s
    obtain ⟨hl, h⟩ := h
    have f1 := AutoSeq1.idx_int
    have c1 : (items.isEmpty || (1 : Int) == 1) = true := by rw [show ((1 : Int) == 1) = true from rfl, Bool.or_true]
    wp_walk using AutoSeq1.wpAny_loadPart' hl
    exact ⟨_, rfl, h⟩
section
variable {X : Cx}
theorem op_rep1 : OpR X (binaryOp .Mult) fun x y H Q => ∃ (l : Addr) (xs : List V), x = .ref l ∧ y = .int 1 ∧ SqT X.K H l xs ∧ Q (.ref l) H := by
  intro pins s σ H x y v u Q I rx ry h
  obtain ⟨l, xs, rfl, rfl, hT, q⟩ := h
  cases rx
  obtain ⟨t, rfl⟩ := ry
  obtain ⟨its, r, ⟨⟨cls, dd, data, sl⟩, ho, hc, n, hd⟩, hs⟩ := I.tuple hT
  simp only at hc hd
  subst hc hd
  refine wpAny_binaryOp_repeat_ref (T := "tuple") (U := "int") (by decide) ⟨_, ho, rfl⟩ (fun s' => typeIs_int s' 1 t) noFill_tuple_mul F.fills_int_mul F.slot_int_rmul repeat_tuple F.slot_int_index.lookup
    (call_meets F.slot_int_rmul (typeIs_int s 1 t) F.entry_int_rmul (F.args_int_rmul_2 _ _) (int_rmul_tuple 1 t l its.toArray n dd sl)
      ⟨ho, rfl, ⟨_, ho, rfl⟩, call_meets F.slot_tuple_mul ⟨_, ho, rfl⟩ F.entry_tuple_mul (F.args_tuple_mul_2 _ _) (tuple_mul1 l its.toArray n dd sl t) ⟨ho, ?_⟩⟩)
  exact ⟨.ref l, H, I, rfl, q⟩
def isT1 (a b : D) : Bool := match a, b with
  | .tup _, .int i => decide (i = 1)
  | _, _ => false
def opMulX (a b : D) (h : HH) : R D := if isT1 a b = true then .ok a h else opMul a b h
theorem o_mulX : OpR X (binaryOp .Mult) (rdO X opMulX) := OpR.mono (op_rep1.or o_mul) fun x y H Q q => by
  obtain ⟨T, h, a, b, r, ra, rb, q⟩ := q
  unfold opMulX at q
  by_cases hc : isT1 a b = true
  · rw [if_pos hc] at q
    unfold isT1 at hc
    split at hc
    · rename_i xs i
      have hi : i = 1 := of_decide_eq_true hc
      subst hi
      have ra' := ra
      unfold rel at ra
      obtain ⟨p1, vs, rfl, s1, rv⟩ := ra
      exact .inl ⟨p1, vs, rfl, rel_int_iff.mp rb, s1.sq, q T H _ Le.refl r ra'⟩
    · cases hc
  · rw [if_neg hc] at q
    exact .inr ⟨T, h, _, _, r, ra, rb, q⟩
end
@[simp] theorem wp_mulX1 {xs : List D} {h : HH} {q : D → HH → Prop} {e : String → HH → Prop} : Wp q e (opMulX (.tup xs) (.int 1) h) ↔ q (.tup xs) h := Iff.rfl
@[simp] theorem wp_mulXI {i j : Int} {h : HH} {q : D → HH → Prop} {e : String → HH → Prop} : Wp q e (opMulX (.int i) (.int j) h) ↔ Wp q e (opMul (.int i) (.int j) h) := Iff.rfl
theorem wp_mulXT {xs : List D} {j : Int} {h : HH} {q : D → HH → Prop} {e : String → HH → Prop} (h1 : j ≠ 1) : Wp q e (opMulX (.tup xs) (.int j) h) ↔ Wp q e (opMul (.tup xs) (.int j) h) := by
  unfold opMulX
  have : isT1 (.tup xs) (.int j) = false := decide_eq_false h1
  rw [this]; exact Iff.rfl
end Pu
namespace Pu
open PySem PySem.Spec PyProof.Rows L2 HT
/-! ### a tuple turned about -/
section
variable {prog : Program} {w : World} {A : Around} {E : Value → Shared → Prop} {s : Shared}
theorem adjust_rev (n : Nat) : Builtin.Slice.sliceAdjust none none (-1) (n : Int) = ((n : Int) - 1, -1) := by
  unfold Builtin.Slice.sliceAdjust
  have h1 : ((-1 : Int) < 0) := by omega
  simp only [h1, if_true]
theorem places_rev (n : Nat) : Builtin.Slice.slicePlaces ((n : Int) - 1) (-1) (-1) = n := by
  unfold Builtin.Slice.slicePlaces
  have h1 : ¬ ((-1 : Int) > 0) := by omega
  simp only [h1, if_false]
  rw [show (- -1 : Int) = 1 by decide, Int.ediv_one]
  split <;> omega
theorem sliceApplied_rev {sl : Addr} {n : Nat} {u : Tok} {Q : Int × Int × Nat → Shared → Prop} (hs : s.heap.IsSliceOf sl .none .none (.int (-1) u))
    (h : Q ((n : Int) - 1, -1, n) s) : wpAny (model prog w) A (Builtin.Slice.sliceApplied (.ref sl) (pure (n : Int))) Q E s := by
  obtain ⟨os, hos, hcs, hds⟩ := id hs
  unfold Builtin.Slice.sliceApplied Builtin.Slice.sliceFields
  refine wpAny_bind (wpAny_bind (wpAny_field hos hds (x := .none) rfl (wpAny_bind (wpAny_field hos hds (x := .none) rfl (wpAny_bind (wpAny_field hos hds (x := .int (-1) u) rfl (wpAny_pure ?_)))))))
  refine wpAny_bind (slicePart_int ?_)
  show wpAny _ _ (if ((-1 : Int) == 0) = true then _ else _) _ _ s
  rw [if_neg (by decide)]
  refine wpAny_bind (slicePart_none (wpAny_bind (slicePart_none (wpAny_bind (wpAny_pure ?_)))))
  show wpAny _ _ (match Builtin.Slice.sliceAdjust none none (-1) (n : Int) with | (lo, hi) => pure (lo, (-1 : Int), Builtin.Slice.slicePlaces lo hi (-1))) _ _ s
  rw [adjust_rev n]
  show wpAny _ _ (pure ((n : Int) - 1, (-1 : Int), Builtin.Slice.slicePlaces ((n : Int) - 1) (-1) (-1))) _ _ s
  rw [places_rev]
  exact wpAny_pure h
theorem pick_rev (xs : Array Value) : ((List.range xs.size).filterMap fun (m : Nat) => xs[((xs.size : Int) - 1 + (m : Int) * -1).toNat]?).toArray = xs.toList.reverse.toArray := by
  congr 1
  have e : (fun (m : Nat) => xs[((xs.size : Int) - 1 + (m : Int) * -1).toNat]?) = fun m : Nat => xs[((xs.size : Int) - 1 - (m : Int)).toNat]? := by
    funext m
    congr 1; omega
  rw [e]
  have e2 : (List.range xs.size).filterMap (fun m : Nat => xs[((xs.size : Int) - 1 - (m : Int)).toNat]?) = ((List.range xs.size).map fun k => xs.size - 1 - k).filterMap (xs[·]?) := by
    rw [List.filterMap_map]
    congr 1
    funext m
    show _ = xs[xs.size - 1 - m]?
    congr 1; omega
  rw [e2, PySem.W.krv_range, List.filterMap_reverse, PySem.W.krv_all]
theorem getItem_tuple_rev {t sl : Addr} {items : Array Value} {u : Tok} {Q : Value → Shared → Prop} (ht : IsTup s.heap t items) (hs : s.heap.IsSliceOf sl .none .none (.int (-1) u))
    (h : Q (.ref s.heap.objs.size) { s with heap := s.heap.push { cls := .type "tuple", data := .seq items.toList.reverse.toArray } })
    (hsz : items.size ≤ sizeLine) : wpAny (model prog w) A (getItem (.ref t) (.ref sl)) Q E s := by
  have htake : sizeOk (.seq items.toList.reverse.toArray) := by
    show items.toList.reverse.toArray.size ≤ sizeLine
    rw [List.size_toArray, List.length_reverse, Array.length_toList]
    omega
  obtain ⟨os, hos, hcs, hds⟩ := id hs
  have hTs : s.TypeIs (.ref sl) "slice" := ⟨os, hos, hcs⟩
  unfold getItem
  try with_reducible refine wpAny_holding ?_
  first | refine wpAny_bind (wpAny_pure ?_) | skip
  refine wpAny_bind (wpAny_sequenceKey ht.typeIs (by decide) ?_)
  refine wpAny_bind (wpAny_callSpecial?_slot (name := Str.ofString "__getitem__") ht.typeIs PyProof.Rows.slot_tuple_getitem
    (wpAny_call_entry PyProof.Rows.slot_tuple_getitem ht.typeIs entry_tuple_getitem ?_ (args_tuple_getitem _ _)))
  show wpAny _ _ (Builtin.Tuple.tupleItemsOf (.ref t) >>= _) _ _ s
  refine wpAny_bind (tupleItemsOf_ ht ?_)
  refine wpAny_bind (wpAny_typeOf hTs ?_)
  rw [if_pos (by decide)]
  refine wpAny_bind (sliceApplied_rev hs ?_)
  have hno : ¬ ((((items.size : Int) - 1) == 0 && (-1 : Int) == 1 && items.size == items.size) = true) := by
    rw [show ((-1 : Int) == 1) = false from rfl, Bool.and_false, Bool.false_and]
    exact Bool.false_ne_true
  show wpAny _ _ (if (((items.size : Int) - 1) == 0 && (-1 : Int) == 1 && items.size == items.size) = true then _ else _) _ _ s
  rw [if_neg hno, pick_rev]
  first
    | exact wpAny_bind (m := Builtin.Tuple.tupleExact _) (wpAny_newObj_type (wpAny_pure ⟨_, rfl, wpAny_pure h⟩) htake)
    | exact wpAny_bind (m := Builtin.Tuple.tupleExact _) (wpAny_newObj_type (wpAny_bind (wpAny_pure (wpAny_pure ⟨_, rfl, wpAny_pure h⟩))) htake)
    | exact wpAny_bind (wpAny_bind (m := Builtin.Tuple.tupleExact _) (wpAny_newObj_type (wpAny_pure (wpAny_pure ⟨_, rfl, wpAny_pure h⟩)) htake))
    | exact wpAny_bind (wpAny_bind (m := Builtin.Tuple.tupleExact _) (wpAny_newObj_type (wpAny_pure ⟨_, rfl, wpAny_pure h⟩) htake))
end
section
variable {X : Cx} {W : WX}
def tRevA (K : PySem.W.Frag) (te : TE) : TE := fun σ H Q => te σ H fun x H1 => ∃ a xs, x = V.ref a ∧ ((SqL K H1 a xs ∧ ∀ p, H1 p = none → Q (.ref p) (upd H1 p (.lst xs.reverse))) ∨ (SqT K H1 a xs ∧ Made H1 xs.reverse Q))
theorem pe_revA {e : Expr} {te : TE} {k : Nat} {p1 p2 p3 pos : Pos} (he : PE X e te) : PE X (.Subscript e (.Slice none none (some (.UnaryOp .USub (.Constant (.int 1) k p1) p2)) p3) pos) (tRevA X.K te) := by
  refine ⟨fun pins s σ H Q I h => ?_⟩
  refine Subscript_ (thn (he.run pins s σ H _ I h) fun v s1 ⟨x, H1, I1, r1, q1⟩ => ?_)
  obtain ⟨a, xs, ex, q⟩ := q1
  subst ex
  cases r1
  have hst : PO X (some (.UnaryOp .USub (.Constant (.int 1) k p1) p2)) (tPart (tUn (rU fun i => .int (-i)) (tC (.int 1)))) := po_some (pe_un un_neg pe_int)
  refine wpAny_Slice (thn (po_none.run pins s1 σ H1 (fun o H2 => o = none ∧ H2 = H1) I1 ⟨rfl, rfl⟩) fun vl s2 ⟨l, H2, I2, pl, el, e2⟩ => ?_)
  subst el e2
  refine thn (po_none.run pins s2 σ H2 (fun o H3 => o = none ∧ H3 = H2) I2 ⟨rfl, rfl⟩) fun vu s3 ⟨u, H3, I3, pu, eu, e3⟩ => ?_
  subst eu e3
  refine thn (hst.run pins s3 σ H3 (fun o H4 => o = some (-1) ∧ H4 = H3) I3 ⟨1, rfl, -1, rfl, rfl, rfl⟩) fun vs s4 ⟨o, H4, I4, ps, eo, e4⟩ => ?_
  subst eo e4
  have I5 : Inv X pins σ H4 { s4 with heap := s4.heap.push { cls := .type "slice", data := .fields #[vl, vu, vs] } } := I4.kept (t' := s4.toks) fun b ob q => Heap.get?_push_of_some _ q
  show wpAny (model X.prog X.w) X.A (subscriptTail e (.Slice none none (some (.UnaryOp .USub (.Constant (.int 1) k p1) p2)) p3) (.ref a) (.ref s4.heap.objs.size)) (EP X pins σ Q) X.xe { s4 with heap := s4.heap.push { cls := .type "slice", data := .fields #[vl, vu, vs] } }
  rcases q with ⟨hx, q⟩ | ⟨hx, q⟩
  · obtain ⟨its, r, ht, hz⟩ := I5.list hx
    have hlen := r.length
    refine tail_any (ops := [.ref a, .ref s4.heap.objs.size]) ht.isList.typeIs (PySem.slot_list_getitem.lookup) ?_ (by with_unfolding_all rfl)
    refine wpAny_getItem_list_slice ht.isList (Heap.IsSliceOf.new _ vl vu vs) pl pu ps (by decide) ?_ (by rw [List.size_toArray]; omega)
    rw [PySem.W.krv_pick]
    refine ⟨.ref _, _, I5.laid (t' := s4.toks) (o := .lst xs.reverse) (fun b ob q => Heap.get?_push_of_some _ q) (Nat.le_refl _) ?_, rfl, q _ (I5.hok.fresh (Nat.le_refl _))⟩
    exact ⟨by rw [List.length_reverse]; exact hz, _, 0, r.reverse, Heap.get?_push_size _ rfl⟩
  · obtain ⟨its, r, ht, hz⟩ := I5.tuple hx
    have hlen := r.length
    cases pl
    cases pu
    cases ps
    refine tail_any (ops := [.ref a, .ref s4.heap.objs.size]) ht.typeIs (PyProof.Rows.slot_tuple_getitem.lookup) ?_ (by with_unfolding_all rfl)
    refine getItem_tuple_rev ht (Heap.IsSliceOf.new _ _ _ _) ?_ (by rw [List.size_toArray]; omega)
    exact made_ok I5 r.reverse (by rw [List.length_reverse]; exact hz) q
end

section
variable {X : Cx} {W : WX}
/-- x[::-1]: a tuple, a list -/
def opRev (d : D) (h : HH) : R D := match d with
  | .tup xs => .ok (.tup xs.reverse) h
  | d => ofO (itemsL h d) fun xs => .ok (.lst xs.reverse) h
theorem se_revA {e : Expr} {f : Ex} {j : Nat} {p1 p2 p3 pos : Pos} (he : SE X W e f) : SE X W (.Subscript e (.Slice none none (some (.UnaryOp .USub (.Constant (.int 1) j p1) p2)) p3) pos) (eUn opRev f) :=
  PE.mono (pe_revA he) fun σ H Q hh => by
    obtain ⟨T, env, h, r1, r2, a⟩ := hh
    refine ⟨T, env, h, r1, r2, a.bind r1.mut fun d h1 T1 H1 v _ l1 q1 rv a1 => ?_⟩
    revert a1
    cases hd : opRev d h1 with
    | exc c h' => intro a1; exfalso; unfold opRev at hd; split at hd; cases hd; cases e2 : itemsL h1 d <;> rw [e2] at hd <;> cases hd
    | stuck => exact fun a1 => a1.elim
    | ok d' h' =>
      intro a1
      unfold opRev at hd
      split at hd
      · rename_i xs
        cases hd
        unfold rel at rv
        obtain ⟨b, ws, rfl, sq, rr⟩ := rv
        refine ⟨b, ws, rfl, .inr ⟨sq.sq, fun p o hp ho => ?_⟩⟩
        exact a1 T1 (upd H1 p (.frz o (.tup ws.reverse))) _ (Le.new hp) (q1.new hp) (rel_tup upd_same ho (rels_mono (Le.new hp) q1.mut _ _ (rels_reverse rr)))
      · obtain ⟨xs, e1, e2⟩ := ofO_ok hd
        cases e2
        obtain ⟨b, ws, rfl, sq, rr⟩ := rel_itemsL q1 rv e1
        refine ⟨b, ws, rfl, .inl ⟨sq, fun p hp => ?_⟩⟩
        exact a1 T1 (upd H1 p (.lst ws.reverse)) _ (Le.new hp) (q1.new hp) (rel_lst upd_same (q1.mut.free hp) (rels_mono (Le.new hp) q1.mut _ _ (rels_reverse rr)))
end
@[simp] theorem wp_revT {xs : List D} {h : HH} {q : D → HH → Prop} {e : String → HH → Prop} : Wp q e (opRev (.tup xs) h) ↔ q (.tup xs.reverse) h := Iff.rfl
@[simp] theorem wp_revL {xs : List D} {h : HH} {q : D → HH → Prop} {e : String → HH → Prop} : Wp q e (opRev (.lst xs) h) ↔ q (.lst xs.reverse) h := Iff.rfl
@[simp] theorem wp_revR {i : Nat} {h : HH} {q : D → HH → Prop} {e : String → HH → Prop} : Wp q e (opRev (.ref i) h) ↔ Wo (fun xs => q (.lst xs.reverse) h) (itemsL h (.ref i)) := wp_wo fun xs => Iff.rfl
end Pu

namespace Pu
open PySem PySem.Spec PyProof.Rows L2

/-! ### dict(t), t a tuple of pairs -/
section
variable {X : Cx} {pins : List (Addr × Obj)} {σ : L2.St} {H : Hp} {s : Shared}
theorem xt_plain {a : Addr} {xs : List V} (I : Inv X pins σ H s) (h : XT X.K H a xs) : ∃ its : List Value, Vals xs its ∧ PlainSeq "tuple" s.heap a its.toArray ∧ xs.length ≤ sizeLine := by
  obtain ⟨its, r, ⟨o, g, c, n, d⟩, z⟩ := I.tuple h.sq
  refine ⟨its, r, ⟨o, n, g, c, ?_, d⟩, z⟩
  rcases h with ⟨o', e, hd⟩ | ⟨o', _, _, e, _, _, _, _, hd⟩
  · obtain ⟨g', _⟩ := (show ObjOk X.prog X.w H s.heap a (.frz o' (.tup xs)) from I.hok a _ e)
    cases g.symm.trans g'
    exact hd
  · cases g.symm.trans (I.kIn a o' e)
    exact hd
/-- each pair's own key, laid out -/
theorem raw_pairs {ps : List Addr} {prs : List (Key × Value)} (hp : ∀ (j : Nat) (q : Key × Value), prs[j]? = some q → ∃ (b : Addr) (u : Value), ps[j]? = some b ∧ IsTup s.heap b #[u, q.2] ∧ keyIs q.1 u = true) :
    ∃ raw : List (Value × Value), raw.length = prs.length ∧ ∀ (j : Nat) (k v : Value), raw[j]? = some (k, v) → ∃ (c : Key) (b : Addr), prs[j]? = some (c, v) ∧ ps[j]? = some b ∧ IsTup s.heap b #[k, v] ∧ keyIs c k = true := by
  have pick : ∀ j : Nat, ∃ k : Value, ∀ q, prs[j]? = some q → ∃ b, ps[j]? = some b ∧ IsTup s.heap b #[k, q.2] ∧ keyIs q.1 k = true := fun j => by
    cases e : prs[j]? with
    | none => exact ⟨.none, fun q z => by cases z⟩
    | some q =>
      obtain ⟨b, u, h1, h2, h3⟩ := hp j q e
      exact ⟨u, fun q' z => by cases z; exact ⟨b, h1, h2, h3⟩⟩
  refine ⟨(List.range prs.length).zipWith (fun j q => ((pick j).choose, q.2)) prs, by simp, fun j k v e => ?_⟩
  rw [List.getElem?_zipWith] at e
  by_cases hj : j < prs.length
  · rw [List.getElem?_range hj, List.getElem?_eq_getElem hj] at e
    cases e
    obtain ⟨b, h1, h2, h3⟩ := (pick j).choose_spec _ (List.getElem?_eq_getElem hj)
    exact ⟨_, b, List.getElem?_eq_getElem hj, h1, h2, h3⟩
  · rw [List.getElem?_eq_none (by omega : prs.length ≤ j)] at e
    cases e2 : (List.range prs.length)[j]? <;> rw [e2] at e <;> cases e
theorem call_dictT (hcalm : X.calm = true) : CallR X (.type "dict") (fun xs H Q => ∃ (a : Addr) (ps : List Addr) (kvs : List (Key × V)), xs = [.ref a] ∧ XT X.K H a (ps.map V.ref) ∧ Paired (fun p kv => SqT X.K H p [kV kv.1, kv.2]) ps kvs ∧
    ∀ p, H p = none → Q (.ref p) (upd H p (.dK (mergeK [] kvs)))) := fun pins s σ H xs us Q I r q => by
  obtain ⟨a, ps, kvs, rfl, hq, hp, q⟩ := q
  obtain ⟨u, rfl, ru⟩ := vals1 r
  have eu : u = .ref a := ru
  subst eu
  obtain ⟨its, rv, plain, hz⟩ := xt_plain I hq
  have ei := refs_at rv
  subst ei
  obtain ⟨prs, rel, hl, hpr⟩ := pairs_of I hp
  obtain ⟨raw, rl, hr⟩ := raw_pairs hpr
  have hps : ps.length ≤ sizeLine := by rw [List.length_map] at hz; exact hz
  have items : PairItems s.heap (ps.map Value.ref).toArray (fun j => (ps[j]?).getD 0) raw := ⟨by simp [rl, hl], fun j k v e => by
    obtain ⟨c, b, _, h2, h3, _⟩ := hr j k v e
    refine ⟨by simp [h2], .inl ?_⟩
    show s.heap.IsTuple ((ps[j]?).getD 0) #[k, v]
    rw [h2]
    exact h3⟩
  refine PySem.call_dict_pairs (knd := mixKind X.prog X.w) (kvs := prs) (PairArg.tuple a (ps.map Value.ref).toArray (fun j => (ps[j]?).getD 0) raw) (I.ok.hd hcalm) ⟨plain, items⟩ ⟨rl.symm, fun i k v e => ?_⟩ (by rw [rl, hl]; exact hps) fun h' tk hd keep => ?_
  · obtain ⟨c, b, h1, _, _, h4⟩ := hr i k v e
    exact ⟨c, h1, h4⟩
  · have far : (s.heap.objs.size == sysModules) = false := beq_eq_false_iff_ne.mpr (Nat.ne_of_gt I.big)
    have few : (mergeK [] kvs).length ≤ sizeLine := Nat.le_trans (length_mergeK kvs []) (by rw [List.length_nil, Nat.zero_add, rel.length, hl]; exact hps)
    have J := I.laid (t' := tk) (h' := h') (o := .dK (mergeK [] kvs)) (fun b o e => keep b o (fun z => nomatch z) e) (Nat.le_refl _) ⟨few, far, merged [] prs, KV.merge rel .nil, hd⟩
    exact ⟨.ref s.heap.objs.size, _, J, rfl, q _ (I.hok.fresh (Nat.le_refl _))⟩
end
/-! ### dict(x), x a dict, a list or a tuple of pairs -/
def dictX (h : HH) : List D → Option (List (Ky × D))
  | [d] => match dicD h d with
    | some kvs => some kvs
    | none => match d with
      | .tup xs => (pairsD xs).map merD
      | d => ((itemsL h d).bind pairsD).map merD
  | _ => none
def eDictX (f : Exs) : Ex := fun env h => (f env h).bind fun ds h1 => ofO (dictX h1 ds) fun kvs => .ok (.dic kvs) h1
def eDictXN (f : Exs) : Ex := fun env h => (f env h).bind fun ds h1 => ofO (dictX h1 ds) fun kvs => .ok (.ref h1.length) (h1 ++ [.dic kvs])
section
variable {X : Cx} {W : WX} {k : Nat}
theorem rd_dictX {f : Exs} {fin : List (Ky × D) → HH → R D} {σ : L2.St} {H : Hp} {Q : VK}
    (hfin : ∀ T H h kvs ks p, RelH X.K T H h → H p = none → relk X.K T H kvs ks → After X.K X.mg W T H σ (rel X.K) Q (fin kvs h) → Q (.ref p) (upd H p (.dK ks)))
    (hh : rd X W (fun env h => (f env h).bind fun ds h1 => ofO (dictX h1 ds) fun kvs => fin kvs h1) σ H Q) :
    rds X W f σ H fun xs H1 => (∃ (a : Addr) (ps : List Addr) (kvs : List (Key × V)), xs = [.ref a] ∧ SqL X.K H1 a (ps.map V.ref) ∧ Paired (fun p kv => SqT X.K H1 p [kV kv.1, kv.2]) ps kvs ∧
      ∀ p, H1 p = none → Q (.ref p) (upd H1 p (.dK (mergeK [] kvs)))) ∨ (∃ (a : Addr) (ps : List Addr) (kvs : List (Key × V)), xs = [.ref a] ∧ XT X.K H1 a (ps.map V.ref) ∧ Paired (fun p kv => SqT X.K H1 p [kV kv.1, kv.2]) ps kvs ∧
      ∀ p, H1 p = none → Q (.ref p) (upd H1 p (.dK (mergeK [] kvs)))) ∨ (∃ (a : Addr) (kvs : List (Key × V)), xs = [.ref a] ∧ Rd H1 a (.dK kvs) ∧ ∀ p, H1 p = none → Q (.ref p) (upd H1 p (.dK kvs))) := by
  obtain ⟨T, env, h, r1, r2, a⟩ := hh
  refine ⟨T, env, h, r1, r2, a.bind r1.mut fun ds h1 T1 H1 vs e l1 q1 rvs a1 => ?_⟩
  obtain ⟨kvs, e1, a2⟩ := a1.ofO
  unfold dictX at e1
  split at e1
  · rename_i d
    obtain ⟨v, rfl, rv⟩ := rels_one rvs
    split at e1
    · rename_i kvs' e2
      cases e1
      obtain ⟨b, ks, rfl, s, rk⟩ := rel_dicD q1 rv e2
      exact .inr (.inr ⟨b, ks, rfl, s, fun p hn => hfin T1 H1 h1 kvs ks p q1 hn rk a2⟩)
    · split at e1
      · obtain ⟨kv0, e0, rfl⟩ := Option.map_eq_some_iff.mp e1
        unfold rel at rv
        obtain ⟨b, ws, rfl, s, rr⟩ := rv
        obtain ⟨ps, ks, rfl, hp, rk⟩ := pairs_rel rr e0
        exact .inr (.inl ⟨b, ps, ks, rfl, s, hp, fun p hn => hfin T1 H1 h1 (merD kv0) _ p q1 hn (relk_mer rk relk_nil) a2⟩)
      obtain ⟨kv0, e0, rfl⟩ := Option.map_eq_some_iff.mp e1
      obtain ⟨xs, e2, e3⟩ := Option.bind_eq_some_iff.mp e0
      obtain ⟨b, ws, rfl, s, rr⟩ := rel_itemsL q1 rv e2
      obtain ⟨ps, ks, rfl, hp, rk⟩ := pairs_rel rr e3
      exact .inl ⟨b, ps, ks, rfl, s, hp, fun p hn => hfin T1 H1 h1 (merD kv0) _ p q1 hn (relk_mer rk relk_nil) a2⟩
  · cases e1
theorem se_dictX (C : Cok X W k) {x : Str} {e : Expr} {f : Exs} {p pos : Pos} (hg : Gl X x) (hm : X.mg x = none) (hv : bootBuiltins x = some (.type "dict")) (ha : SA X W [e] f)
    (hn : x ≠ "__name__" := by decide) (hdb : (x == ("__debug__" : Str)) = false := by decide)
    (he : starEach [e] X.env = (false, eval e X.env) :: starEach [] X.env := by rfl) (hpl : (backTo pos (starEach [] X.env)).any (·.1) = false := by rfl) : SE X W (.Call (.Name x p) [e] [] pos) (eDictX f) :=
  PE.mono (pe_callTy ((call_dictP C.calm).or ((call_dictT C.calm).or call_dictD)) hg hm hv ha.pa hn hdb he hpl) fun σ H Q hh => by
    refine rd_dictX (fin := fun kvs h1 => .ok (.dic kvs) h1) (fun T H h kvs ks p q hn rk a => ?_) hh
    refine After.new (d := D.dic kvs) a q hn ?_
    unfold rel
    exact ⟨p, ks, rfl, upd_same, q.mut.free hn, relk_mono (Le.new hn) q.mut _ _ rk⟩
theorem se_dictXN (C : Cok X W k) {x : Str} {e : Expr} {f : Exs} {p pos : Pos} (hg : Gl X x) (hm : X.mg x = none) (hv : bootBuiltins x = some (.type "dict")) (ha : SA X W [e] f)
    (hn : x ≠ "__name__" := by decide) (hdb : (x == ("__debug__" : Str)) = false := by decide)
    (he : starEach [e] X.env = (false, eval e X.env) :: starEach [] X.env := by rfl) (hpl : (backTo pos (starEach [] X.env)).any (·.1) = false := by rfl) : SE X W (.Call (.Name x p) [e] [] pos) (eDictXN f) :=
  PE.mono (pe_callTy ((call_dictP C.calm).or ((call_dictT C.calm).or call_dictD)) hg hm hv ha.pa hn hdb he hpl) fun σ H Q hh => by
    refine rd_dictX (fin := fun kvs (h1 : HH) => R.ok (D.ref h1.length) (h1 ++ [O.dic kvs])) (fun T H h kvs ks p q hn rk a => ?_) hh
    have np : p ∉ T.L := fun z => q.mut.free hn (q.sub p z)
    have q2 := q.blk hn (o := .dK ks)
    have rk2 : relk X.K (T.blk p) (upd H p (.dK ks)) kvs ks := relk_mono (Le.blk hn) q.mut _ _ rk
    refine a ((T.blk p).add p) _ _ ((Le.blk hn).add hn) (q2.add (.inr rfl) np ⟨ks, upd_same, relk_add _ _ (.inr rfl) rk2⟩) ?_
    unfold rel
    exact ⟨p, rfl, by show (T.L ++ [p])[h.length]? = _; rw [← q.len, List.getElem?_append_right (Nat.le_refl _), Nat.sub_self]; rfl⟩
end
section
variable {as : Exs} {env : En} {h : HH} {q : D → HH → Prop} {e : String → HH → Prop}
@[simp ↓] theorem wp_eDictX : Wp q e (eDictX as env h) ↔ Wp (fun ds h1 => Wo (fun kvs => q (.dic kvs) h1) (dictX h1 ds)) e (as env h) := by unfold eDictX; rw [wp_bind]; exact wp_congr fun ds h1 => wp_ofO
@[simp ↓] theorem wp_eDictXN : Wp q e (eDictXN as env h) ↔ Wp (fun ds h1 => Wo (fun kvs => q (.ref h1.length) (h1 ++ [.dic kvs])) (dictX h1 ds)) e (as env h) := by unfold eDictXN; rw [wp_bind]; exact wp_congr fun ds h1 => wp_ofO
@[simp] theorem dictX_d {kvs : List (Ky × D)} : dictX h [.dic kvs] = some kvs := rfl
@[simp] theorem dictX_t {xs : List D} : dictX h [.tup xs] = (pairsD xs).map merD := rfl
@[simp] theorem dictX_l {xs : List D} : dictX h [.lst xs] = (pairsD xs).map merD := rfl
end
end Pu

namespace Pu
open PySem PySem.Spec PyProof.Rows L2

/-! ### forms, worths of number parts -/
namespace Pt
def fml (p : Pt) : List Int := [c0 p, cf "k" p, cf "l" p, cf "m" p, cf "n" p]
def fmD (p : Pt) : D := .tup (p.fml.map D.int)
/-- its worth, the names given -/
def wo (g : String → Int) : Pt → Int
  | .num i => i
  | .nm s => g s
  | .bin w a b => if w = "plus" then wo g a + wo g b else wo g a - wo g b
theorem wo_lin {g : String → Int} : ∀ p : Pt, ok p → wo g p = c0 p + (cf "k" p * g "k" + cf "l" p * g "l" + cf "m" p * g "m" + cf "n" p * g "n")
  | .num i, _ => by simp [wo, c0, cf]
  | .nm s, o => by
    simp [ok] at o
    rcases o with rfl | rfl | rfl | rfl <;> simp [wo, c0, cf]
  | .bin w a b, o => by
    have h1 : w = "plus" ∨ w = "minus" := by simpa using o.1
    have ea := wo_lin (g := g) a o.2.1
    have eb := wo_lin (g := g) b o.2.2
    rcases h1 with rfl | rfl
    · simp only [wo, c0, cf, ea, eb]; simp [Int.add_mul]; omega
    · simp only [wo, c0, cf, ea, eb]; simp [Int.sub_mul]; omega
def dl (x : String) (s : String) : Int := if s = x then 1 else 0
/-- the worths where no name, one name is 1 -/
def wos (p : Pt) : List Int := ["", "k", "l", "m", "n"].map fun x => wo (dl x) p
theorem wos_eq {p : Pt} (o : ok p) : wos p = [c0 p, c0 p + cf "k" p, c0 p + cf "l" p, c0 p + cf "m" p, c0 p + cf "n" p] := by
  unfold wos
  simp only [List.map_cons, List.map_nil, wo_lin p o]
  simp [dl]
theorem wos_iff {p q : Pt} (op : ok p) (oq : ok q) : wos p = wos q ↔ fml p = fml q := by
  rw [wos_eq op, wos_eq oq]
  unfold fml
  simp only [List.cons.injEq, and_true]
  constructor <;> (rintro ⟨h1, h2, h3, h4, h5⟩; exact ⟨by omega, by omega, by omega, by omega, by omega⟩)
end Pt
/-! ### words; what is alike -/
def wordsP : Pd → List String
  | .w1 w _ => [w]
  | .wn w _ _ => [w]
  | .wb w _ _ => [w]
  | .cond _ d => "if" :: wordsP d
def pB : PtK → PtK → Bool
  | .inl a, .inl b => decide (a = b)
  | .inr n, .inr m => decide (n.fml = m.fml)
  | _, _ => true
def adB (d e : Pd) : Bool := decide (wordsP d = wordsP e) && ((ptsP d).zip (ptsP e)).all fun p => pB p.1 p.2
/-- told flat -/
abbrev Itm := String × List Ky
def itD (i : Itm) : D := .tup [.str i.1, .lst (i.2.map kD)]
def flatP : Pd → List Itm
  | .w1 w a => [(w, [a])]
  | .wb w a b => [(w, [a, b])]
  | .wn w a n => (w, [a]) :: n.wos.map fun x => ("worth", [Sum.inl x])
  | .cond a d => ("if", [a]) :: flatP d
def flatsP (ds : List Pd) : List Itm := ds.flatMap flatP
theorem eqv_itm {a b : Itm} : eqv (itD a) (itD b) = decide (a = b) := by
  obtain ⟨s, ks⟩ := a
  obtain ⟨t, js⟩ := b
  unfold itD
  rw [eqv_tup]
  show (PyData.eqv (toP (.str s)) (toP (.str t)) && (PyData.eqv (toP (.lst (ks.map kD))) (toP (.lst (js.map kD))) && true)) = _
  have e1 : PyData.eqv (toP (.str s)) (toP (.str t)) = decide (s = t) := eqv_ss
  have e2 : PyData.eqv (toP (.lst (ks.map kD))) (toP (.lst (js.map kD))) = decide (ks = js) := by
    have := eqv_lst (xs := ks.map kD) (ys := js.map kD)
    rw [eqvAll_kys] at this
    exact this
  rw [e1, e2, Bool.and_true, Bool.eq_iff_iff]
  simp
theorem eqvAll_itms : ∀ (as bs : List Itm), PyData.eqvAll (toPs (as.map itD)) (toPs (bs.map itD)) = decide (as = bs)
  | [], [] => rfl
  | [], b :: bs => rfl
  | a :: as, [] => rfl
  | a :: as, b :: bs => by
    have ih := eqvAll_itms as bs
    have e := eqv_itm (a := a) (b := b)
    show (PyData.eqv (toP (itD a)) (toP (itD b)) && PyData.eqvAll (toPs (as.map itD)) (toPs (bs.map itD))) = _
    rw [ih]
    unfold eqv at e
    rw [e, Bool.eq_iff_iff]
    simp
theorem pl_itms (is : List Itm) : plD (.lst (is.map itD)) := by
  have h1 : ∀ is : List Itm, isDs (is.map itD) = true ∧ deeps (is.map itD) ≤ 2 := fun is => by
    induction is with
    | nil => simp
    | cons i is ih =>
      rw [List.map_cons, isDs_cons, deeps_cons]
      simp [itD, isDs_kys, deeps_kys, ih.1]
      omega
  exact ⟨by simp [h1], by simp; have := (h1 is).2; omega⟩
theorem same_itms {h : HH} {as bs : List Itm} : same? h (.lst (as.map itD)) (.lst (bs.map itD)) = some (decide (as = bs)) := by
  rw [same_pl (pl_itms as) (pl_itms bs), eqv_lst, eqvAll_itms]
theorem cl_itms (is : List Itm) : cls 0 (is.map itD) = true := cls_of fun d hd => by
  obtain ⟨i, _, rfl⟩ := List.mem_map.mp hd
  unfold itD cl cls cls cls
  unfold cl
  rw [cls_kys]; rfl
theorem strs_iff {as bs : List String} {h : HH} : same? h (.lst (as.map D.str)) (.lst (bs.map D.str)) = some (decide (as = bs)) := by
  have := same_pl (h := h) (a := .lst ((as.map Sum.inr).map kD)) (b := .lst ((bs.map Sum.inr).map kD)) ⟨by simp [isDs_kys, - List.map_map], by simp [deeps_kys, - List.map_map]⟩ ⟨by simp [isDs_kys, - List.map_map], by simp [deeps_kys, - List.map_map]⟩
  rw [eqv_lst, eqvAll_kys, List.map_map, List.map_map] at this
  rw [show (kD ∘ Sum.inr) = D.str from rfl] at this
  rw [this]
  congr 1
  refine decide_eq_decide.mpr ⟨fun h => ?_, fun h => by rw [h]⟩
  exact (List.map_inj_right fun a b e => by cases e; rfl).mp h
/-- lone words -/
def lw1 (w : String) : Prop := w = "turn" ∨ w = "left" ∨ w = "right"
def lwn (w : String) : Prop := w = "put" ∨ w = "more"
def lwb (w : String) : Prop := w = "copy" ∨ w = "sum" ∨ w = "less" ∨ w = "part"
theorem lw_ne {w v : String} : (lw1 w → lwn v → w ≠ v) ∧ (lw1 w → lwb v → w ≠ v) ∧ (lwn w → lwb v → w ≠ v) ∧ (lw1 w → w ≠ "if") ∧ (lwn w → w ≠ "if") ∧ (lwb w → w ≠ "if") := by
  refine ⟨?_, ?_, ?_, ?_, ?_, ?_⟩
  · rintro (rfl | rfl | rfl) (rfl | rfl) <;> decide
  · rintro (rfl | rfl | rfl) (rfl | rfl | rfl | rfl) <;> decide
  · rintro (rfl | rfl) (rfl | rfl | rfl | rfl) <;> decide
  · rintro (rfl | rfl | rfl) <;> decide
  · rintro (rfl | rfl) <;> decide
  · rintro (rfl | rfl | rfl | rfl) <;> decide
/-- what is told flat is told of one deed alone -/
theorem flat_dec_lone {P : Ky → Prop} {w : Nat} {d e : Pd} (od : d.lone P (NP w)) (oe : e.lone P (NP w)) {X Y : List Itm} : flatP d ++ X = flatP e ++ Y ↔ adB d e = true ∧ X = Y := by
  cases d with
  | cond a d => exact od.elim
  | w1 s a =>
    cases e with
    | cond a d => exact oe.elim
    | w1 t b => simp [flatP, adB, wordsP, ptsP, pB, and_assoc]
    | wn t b n =>
      have := (lw_ne (w := s) (v := t)).1 od.1 oe.1
      simp [flatP, adB, wordsP, this]
    | wb t b c =>
      have := (lw_ne (w := s) (v := t)).2.1 od.1 oe.1
      simp [flatP, adB, wordsP, this]
  | wn s a n =>
    cases e with
    | cond a d => exact oe.elim
    | w1 t b =>
      have := (lw_ne (w := t) (v := s)).1 oe.1 od.1
      simp [flatP, adB, wordsP, this.symm]
    | wn t b m =>
      have hw := Pt.wos_iff od.2.2.1 oe.2.2.1
      have hl : (n.wos.map fun x => (("worth", [Sum.inl x]) : Itm)).length = (m.wos.map fun x => (("worth", [Sum.inl x]) : Itm)).length := by simp [Pt.wos]
      simp only [flatP, adB, wordsP, ptsP, pB, List.cons_append, List.cons.injEq, Prod.mk.injEq, and_true]
      constructor
      · rintro ⟨⟨rfl, rfl⟩, h⟩
        obtain ⟨h1, h2⟩ := List.append_inj h hl
        have h3 : n.wos = m.wos := (List.map_inj_right fun a b e => by cases e; rfl).mp h1
        refine ⟨?_, h2⟩
        simp [hw.mp h3]
      · rintro ⟨h1, rfl⟩
        simp at h1
        obtain ⟨rfl, rfl, h3⟩ := h1
        refine ⟨⟨rfl, rfl⟩, ?_⟩
        rw [hw.mpr h3]
    | wb t b c =>
      have := (lw_ne (w := s) (v := t)).2.2.1 od.1 oe.1
      simp [flatP, adB, wordsP, this]
  | wb s a c =>
    cases e with
    | cond a d => exact oe.elim
    | w1 t b =>
      have := (lw_ne (w := t) (v := s)).2.1 oe.1 od.1
      simp [flatP, adB, wordsP, this.symm]
    | wn t b n =>
      have := (lw_ne (w := t) (v := s)).2.2.1 oe.1 od.1
      simp [flatP, adB, wordsP, this.symm]
    | wb t b c2 => simp [flatP, adB, wordsP, ptsP, pB, and_assoc]
theorem flat_dec {P : Ky → Prop} {w : Nat} {d e : Pd} (od : d.ok P (NP w)) (oe : e.ok P (NP w)) {X Y : List Itm} : flatP d ++ X = flatP e ++ Y ↔ adB d e = true ∧ X = Y := by
  have ne : ∀ {d : Pd}, d.lone P (NP w) → ∀ {a : Ky} {e' : Pd} {X Y : List Itm}, ¬ (flatP d ++ X = flatP (.cond a e') ++ Y) ∧ adB d (.cond a e') = false ∧ adB (.cond a e') d = false := fun {d} o a e' X Y => by
    have lw := fun s => lw_ne (w := s) (v := s)
    cases d with
    | cond a d => exact o.elim
    | w1 s b => have := (lw s).2.2.2.1 o.1; simp [flatP, adB, wordsP, this, this.symm]
    | wn s b n => have := (lw s).2.2.2.2.1 o.1; simp [flatP, adB, wordsP, this, this.symm]
    | wb s b c => have := (lw s).2.2.2.2.2 o.1; simp [flatP, adB, wordsP, this, this.symm]
  cases d with
  | cond a d =>
    cases e with
    | cond b e =>
      have h := flat_dec_lone od.2 oe.2 (X := X) (Y := Y)
      have hp : adB (.cond a d) (.cond b e) = (decide (a = b) && adB d e) := by
        rw [Bool.eq_iff_iff]
        simp [adB, wordsP, ptsP, pB]
        constructor <;> (rintro ⟨h1, h2, h3⟩; exact ⟨h2, h1, h3⟩)
      rw [hp]
      simp only [flatP, List.cons_append, List.cons.injEq, Prod.mk.injEq, and_true, true_and, Bool.and_eq_true, decide_eq_true_eq, h]
      simp [and_assoc]
    | w1 s b => have := ne (d := .w1 s b) oe (a := a) (e' := d) (X := Y) (Y := X); rw [this.2.2]; simp; exact fun h => (this.1 h.symm).elim
    | wn s b n => have := ne (d := .wn s b n) oe (a := a) (e' := d) (X := Y) (Y := X); rw [this.2.2]; simp; exact fun h => (this.1 h.symm).elim
    | wb s b c => have := ne (d := .wb s b c) oe (a := a) (e' := d) (X := Y) (Y := X); rw [this.2.2]; simp; exact fun h => (this.1 h.symm).elim
  | w1 s b =>
    cases e with
    | cond a e => have := ne (d := .w1 s b) od (a := a) (e' := e) (X := X) (Y := Y); rw [this.2.1]; simp; exact fun h => (this.1 h).elim
    | w1 t c => exact flat_dec_lone (P := P) (w := w) (d := .w1 s b) (e := .w1 t c) od oe
    | wn t c n => exact flat_dec_lone (P := P) (w := w) (d := .w1 s b) (e := .wn t c n) od oe
    | wb t c n => exact flat_dec_lone (P := P) (w := w) (d := .w1 s b) (e := .wb t c n) od oe
  | wn s b m =>
    cases e with
    | cond a e => have := ne (d := .wn s b m) od (a := a) (e' := e) (X := X) (Y := Y); rw [this.2.1]; simp; exact fun h => (this.1 h).elim
    | w1 t c => exact flat_dec_lone (P := P) (w := w) (d := .wn s b m) (e := .w1 t c) od oe
    | wn t c n => exact flat_dec_lone (P := P) (w := w) (d := .wn s b m) (e := .wn t c n) od oe
    | wb t c n => exact flat_dec_lone (P := P) (w := w) (d := .wn s b m) (e := .wb t c n) od oe
  | wb s b m =>
    cases e with
    | cond a e => have := ne (d := .wb s b m) od (a := a) (e' := e) (X := X) (Y := Y); rw [this.2.1]; simp; exact fun h => (this.1 h).elim
    | w1 t c => exact flat_dec_lone (P := P) (w := w) (d := .wb s b m) (e := .w1 t c) od oe
    | wn t c n => exact flat_dec_lone (P := P) (w := w) (d := .wb s b m) (e := .wn t c n) od oe
    | wb t c n => exact flat_dec_lone (P := P) (w := w) (d := .wb s b m) (e := .wb t c n) od oe
/-- patterns that are alike -/
def alikeB (ds es : List Pd) : Bool := decide (ds.length = es.length) && (ds.zip es).all fun p => adB p.1 p.2
theorem alike_flat {P : Ky → Prop} {w : Nat} : ∀ {ds es : List Pd}, (∀ d ∈ ds, d.ok P (NP w)) → (∀ d ∈ es, d.ok P (NP w)) → ds.length = es.length → (flatsP ds = flatsP es ↔ (ds.zip es).all (fun p => adB p.1 p.2) = true)
  | [], [], _, _, _ => by simp [flatsP]
  | d :: ds, e :: es, o1, o2, hl => by
    have ih := alike_flat (ds := ds) (es := es) (fun x hx => o1 x (by simp [hx])) (fun x hx => o2 x (by simp [hx])) (by simpa using hl)
    have h := flat_dec (o1 d (by simp)) (o2 e (by simp)) (X := flatsP ds) (Y := flatsP es)
    rw [List.zip_cons_cons, List.all_cons, Bool.and_eq_true, ← ih]
    exact h
theorem adB_symm {d e : Pd} : adB d e = adB e d := by
  unfold adB
  congr 1
  · exact decide_eq_decide.mpr ⟨Eq.symm, Eq.symm⟩
  · have key : ∀ (a b : List PtK), (a.zip b).all (fun p => pB p.1 p.2) = (b.zip a).all fun p => pB p.1 p.2 := by
      intro a
      induction a with
      | nil => intro b; cases b <;> rfl
      | cons x a ih =>
        intro b
        cases b with
        | nil => rfl
        | cons y b =>
          rw [List.zip_cons_cons, List.zip_cons_cons, List.all_cons, List.all_cons, ih]
          congr 1
          cases x <;> cases y <;> first | rfl | exact decide_eq_decide.mpr ⟨Eq.symm, Eq.symm⟩
    exact key _ _
theorem alikeB_symm {ds es : List Pd} : alikeB ds es = alikeB es ds := by
  unfold alikeB
  congr 1
  · exact decide_eq_decide.mpr ⟨Eq.symm, Eq.symm⟩
  · induction ds generalizing es with
    | nil => cases es <;> rfl
    | cons x a ih =>
      cases es with
      | nil => rfl
      | cons y b => rw [List.zip_cons_cons, List.zip_cons_cons, List.all_cons, List.all_cons, ih, adB_symm]
end Pu

namespace Pu
open PySem PySem.Spec PyProof.Rows L2

/-! ### dicts told by a function -/
def tb (ks : List Ky) (f : Ky → D) : List (Ky × D) := ks.map fun k => (k, f k)
def up {α : Type} (f : Ky → α) (k : Ky) (d : α) : Ky → α := fun p => if p = k then d else f p
@[simp] theorem tb_len {ks : List Ky} {f : Ky → D} : (tb ks f).length = ks.length := by simp [tb]
theorem tb_get {k : Ky} {f : Ky → D} : ∀ {ks : List Ky}, k ∈ ks → dGet (tb ks f) k = some (f k)
  | [], h => by cases h
  | a :: ks, h => by
    by_cases e : a = k
    · subst e; simp [tb, dGet]
    · have h2 : k ∈ ks := (List.mem_cons.mp h).resolve_left fun z => e z.symm
      have := tb_get (f := f) h2
      simpa [tb, dGet, List.find?_cons, e] using this
theorem up_self {α : Type} {f : Ky → α} {k : Ky} : up f k (f k) = f := by
  funext p
  unfold up
  split
  · rename_i h; rw [h]
  · rfl
theorem tb_put {k : Ky} {d : D} {ks : List Ky} {f : Ky → D} (h : k ∈ ks) : dPut (tb ks f) k d = tb ks (up f k d) := by
  unfold dPut
  rw [if_pos]
  · unfold tb
    rw [List.map_map]
    refine List.map_congr_left fun p _ => ?_
    show (if p = k then (p, d) else (p, f p)) = (p, up f k d p)
    unfold up
    split <;> rfl
  · unfold tb
    rw [List.any_map]
    exact List.any_eq_true.mpr ⟨k, h, by simp⟩
theorem tb_new {k : Ky} {d : D} {ks : List Ky} {f : Ky → D} (h : k ∉ ks) : dPut (tb ks f) k d = tb (ks ++ [k]) (up f k d) := by
  unfold dPut
  rw [if_neg]
  · unfold tb
    rw [List.map_append]
    congr 1
    · refine List.map_congr_left fun p hp => ?_
      have : ¬ p = k := fun z => h (z ▸ hp)
      simp [up, this]
    · simp [up]
  · unfold tb
    rw [List.any_map]
    intro z
    obtain ⟨p, hp, e⟩ := List.any_eq_true.mp z
    have e : p = k := by simpa using e
    exact h (e ▸ hp)
theorem tb_mer {f : Ky → D} {ks : List Ky} (nd : ks.Nodup) : merD (tb ks f) = tb ks f := by
  have key : ∀ (js pre : List Ky), (pre ++ js).Nodup → (tb js f).foldl (fun acc p => dPut acc p.1 p.2) (tb pre f) = tb (pre ++ js) f := by
    intro js
    induction js with
    | nil => intro pre _; simp [tb]
    | cons k js ih =>
      intro pre nd
      have hk : k ∉ pre := fun z => by
        have := List.nodup_append.mp nd
        exact this.2.2 k z k (by simp) rfl
      show (tb js f).foldl (fun acc p => dPut acc p.1 p.2) (dPut (tb pre f) k (f k)) = _
      rw [tb_new hk, up_self, ih (pre ++ [k]) (by simpa using nd)]
      simp
  exact key ks [] (by simpa using nd)
theorem pairsD_tb {f : Ky → D} : ∀ {ks : List Ky}, pairsD (ks.map fun k => D.tup [kD k, f k]) = some (tb ks f)
  | [] => rfl
  | .inl i :: ks => by
    have := pairsD_tb (f := f) (ks := ks)
    rw [List.map_cons, kD, pairsD_i, this]; rfl
  | .inr i :: ks => by
    have := pairsD_tb (f := f) (ks := ks)
    rw [List.map_cons, kD, pairsD_s, this]; rfl
theorem cl_tb {n : Nat} {f : Ky → D} {ks : List Ky} (h : ∀ k ∈ ks, cl n (f k) = true) : clk n (tb ks f) = true := by
  induction ks with
  | nil => unfold tb clk; rfl
  | cons k ks ih =>
    have h1 := h k (by simp)
    have h2 := ih fun x hx => h x (by simp [hx])
    unfold tb at h2 ⊢
    rw [List.map_cons, clk, h1, h2]; rfl
/-- frozen: a fresh dict of pure values is given back -/
theorem fzF_mkd {F : Fn} {ds : List D} {xs : List (Ky × D)} {hh h' g : HH} {i : Nat} (e : F ds hh = .ok (.ref i) (h' ++ g)) (hl : h'.length = hh.length) (hp : h'.all (clO 0) = true) (hi : hh.length ≤ i) (hx : (h' ++ g)[i]? = some (.dic xs)) (hd : clk 0 xs = true) : fzF F ds hh = .ok (.dic xs) h' := by
  unfold fzF
  rw [e]
  dsimp only
  have t : (h' ++ g).take hh.length = h' := by rw [← hl, List.take_left']; rfl
  have z : Pu.fz (h' ++ g) hh.length 9 (.ref i) = .dic xs := by
    unfold Pu.fz
    rw [if_neg (by omega), hx]
    dsimp only
    rw [mapk_id_of (fz_pure 8) xs hd]
  rw [z, t, if_pos ⟨by rw [List.length_append]; omega, all_pure hp, by unfold cl; exact clk_pure xs hd⟩]
def FzD (h : HH) (Q : D → HH → Prop) (d : D) (h' : HH) : Prop := ∃ h1 g i xs, d = .ref i ∧ h' = h1 ++ g ∧ h1.length = h.length ∧ h1.all (clO 0) = true ∧ h.length ≤ i ∧ h'[i]? = some (.dic xs) ∧ clk 0 xs = true ∧ Q (.dic xs) h1
theorem wp_fD {F : Fn} {ds : List D} {h : HH} {Q : D → HH → Prop} (w : Wp (FzD h Q) noE (F ds h)) : Wp Q noE (fzF F ds h) := by
  obtain ⟨d, h', e, h1, g, i, xs, rfl, rfl, hl, hp, hi, hx, hd, q⟩ := wp_ex.mp w
  exact wp_of (fzF_mkd e hl hp hi hx hd) q
/-- the dict that stands last -/
theorem FzD.end {h h1 : HH} {Q : D → HH → Prop} {i : Nat} {xs : List (Ky × D)} (a : h1.length = h.length) (b : h1.all (clO 0) = true) (z : i = h.length) (c : clk 0 xs = true) (q : Q (.dic xs) h1) : FzD h Q (.ref i) (h1 ++ [.dic xs]) :=
  ⟨h1, [.dic xs], i, xs, rfl, rfl, a, b, by omega, get_end (by omega), c, q⟩

/-! ### sums over all that was held -/
def all12 : List Ky := nms4.map Sum.inr ++ all8
def fsum (F G : List Int) (t : Int) : List Int := List.zipWith (fun a b => a + t * b) F G
def dt : List Int → List Int → Int
  | a :: as, b :: bs => a * b + dt as bs
  | _, _ => 0
theorem dt_fsum {t : Int} : ∀ {c F G : List Int}, F.length = G.length → dt c (fsum F G t) = dt c F + t * dt c G
  | [], F, G, _ => by simp [dt]
  | c :: cs, [], [], _ => by simp [dt, fsum]
  | c :: cs, a :: F, b :: G, h => by
    have ih := dt_fsum (t := t) (c := cs) (F := F) (G := G) (by simpa using h)
    show c * (a + t * b) + dt cs (fsum F G t) = c * a + dt cs F + t * (c * b + dt cs G)
    rw [ih, Int.mul_add, Int.mul_add, Int.mul_left_comm c t b]
    omega
theorem fsum_len {t : Int} {F G : List Int} (h : F.length = G.length) : (fsum F G t).length = F.length := by
  unfold fsum; rw [List.length_zipWith]; omega
def ownF (k : Ky) : List Int := (List.range 13).map fun i => if i = 5 + pl8 k then 1 else 0
def numF (n : Pt) : List Int := n.fml ++ List.replicate 8 0
def frm (f : Ky → List Int) : Pd → Ky → List Int
  | .w1 w a => up f a (fsum (f a) (f a) (if w = "turn" then -2 else 1))
  | .wn w a n => up f a (if w = "put" then numF n else fsum (f a) (numF n) 1)
  | .wb w a b => up f a (if w = "copy" then f b else fsum (f a) (f b) (if w = "sum" then 1 else -1))
  | .cond _ _ => f
def vals (g : String → Int) (f : Ky → Int) : Pd → Ky → Int
  | .w1 w a => up f a (f a * (if w = "turn" then -1 else 2))
  | .wn w a n => up f a (n.wo g + f a * (if w = "more" then 1 else 0))
  | .wb w a b => up f a (if w = "copy" then f b else if w = "sum" then f a + f b else f a - f b)
  | .cond _ _ => f
/-- deeds without right, part, if -/
def pln (P : Ky → Prop) (N : Pt → Prop) : Pd → Prop
  | .w1 w a => (w = "turn" ∨ w = "left") ∧ P a
  | .wn w a n => (w = "put" ∨ w = "more") ∧ P a ∧ N n
  | .wb w a b => (w = "copy" ∨ w = "sum" ∨ w = "less") ∧ P a ∧ P b
  | .cond _ _ => False
theorem pln_lone {P : Ky → Prop} {N : Pt → Prop} {d : Pd} (h : pln P N d) : d.lone P N := by
  cases d with
  | w1 w a => exact ⟨h.1.elim .inl fun z => .inr (.inl z), h.2⟩
  | wn w a n => exact h
  | wb w a b => exact ⟨h.1.elim .inl fun z => z.elim (fun z => .inr (.inl z)) fun z => .inr (.inr (.inl z)), h.2⟩
  | cond a d => exact h
theorem pln_ok {P : Ky → Prop} {N : Pt → Prop} {d : Pd} (h : pln P N d) : d.ok P N := Pd.ok_lone (pln_lone h)
theorem pln_mono {P P' : Ky → Prop} {N N' : Pt → Prop} (hp : ∀ k, P k → P' k) (hn : ∀ n, N n → N' n) {d : Pd} (h : pln P N d) : pln P' N' d := by
  cases d with
  | w1 w a => exact ⟨h.1, hp _ h.2⟩
  | wn w a n => exact ⟨h.1, hp _ h.2.1, hn _ h.2.2⟩
  | wb w a b => exact ⟨h.1, hp _ h.2.1, hp _ h.2.2⟩
  | cond a d => exact h
theorem numF_len {n : Pt} : (numF n).length = 13 := by simp [numF, Pt.fml]
theorem ownF_len {k : Ky} : (ownF k).length = 13 := by simp [ownF]
def cc (G : Ky → Int) : List Int := 1 :: all12.map G
theorem dt_zeros : ∀ (n : Nat) (c : List Int), dt c (List.replicate n 0) = 0
  | 0, c => by cases c <;> rfl
  | n + 1, [] => rfl
  | n + 1, c :: cs => by simp [List.replicate_succ, dt, dt_zeros n cs]
theorem dt_num {G : Ky → Int} {n : Pt} (o : n.ok) : dt (cc G) (numF n) = n.wo fun s => G (.inr s) := by
  rw [Pt.wo_lin n o]
  have := dt_zeros 8 (all8.map G)
  simp [cc, all12, nms4, numF, Pt.fml, dt, - List.reduceReplicate, Int.mul_comm]
  rw [this]
  omega
theorem dt_own {G : Ky → Int} {k : Ky} (h : k ∈ all8) : dt (cc G) (ownF k) = G k := by
  rcases all8_cases h with rfl | rfl | rfl | rfl | rfl | rfl | rfl | rfl <;> simp [cc, all12, nms4, all8, ownF, pl8, dt, List.range, List.range.loop]
theorem frm_vals {G : Ky → Int} {f : Ky → Int} {F : Ky → List Int} (hF : ∀ k ∈ all8, (F k).length = 13 ∧ dt (cc G) (F k) = f k) {w : Nat} {d : Pd} (o : pln P8 (NP w) d) :
    ∀ k ∈ all8, (frm F d k).length = 13 ∧ dt (cc G) (frm F d k) = vals (fun s => G (.inr s)) f d k := by
  have key : ∀ {a : Ky} {L : List Int} {v : Int}, L.length = 13 → dt (cc G) L = v → ∀ k ∈ all8, (up F a L k).length = 13 ∧ dt (cc G) (up F a L k) = up f a v k := fun {a L v} h1 h2 k hk => by
    unfold up
    split
    · exact ⟨h1, h2⟩
    · exact hF k hk
  cases d with
  | cond a d => exact o.elim
  | w1 w a =>
    have ha := hF a o.2
    refine key (by rw [fsum_len rfl]; exact ha.1) ?_
    rw [dt_fsum rfl, ha.2]
    split <;> omega
  | wn w2 a n =>
    have ha := hF a o.2.1
    have on : NP w n := o.2.2
    have hn := dt_num (G := G) on.1
    rcases o.1 with rfl | rfl
    · exact key (by simp [numF_len]) (by simp [hn])
    · refine key (by simp [fsum_len (ha.1.trans numF_len.symm), ha.1]) ?_
      simp [dt_fsum (ha.1.trans numF_len.symm), ha.2, hn]
      omega
  | wb w2 a b =>
    have ha := hF a o.2.1
    have hb := hF b o.2.2
    rcases o.1 with rfl | rfl | rfl
    · exact key (by simp [hb.1]) (by simp [hb.2])
    · exact key (by simp [fsum_len (ha.1.trans hb.1.symm), ha.1]) (by simp [dt_fsum (ha.1.trans hb.1.symm), ha.2, hb.2])
    · refine key (by simp [fsum_len (ha.1.trans hb.1.symm), ha.1]) ?_
      simp [dt_fsum (ha.1.trans hb.1.symm), ha.2, hb.2]
      omega
def frms (F : Ky → List Int) (ds : List Pd) : Ky → List Int := ds.foldl frm F
def valss (g : String → Int) (f : Ky → Int) (ds : List Pd) : Ky → Int := ds.foldl (vals g) f
theorem frms_vals {G : Ky → Int} {w : Nat} : ∀ {ds : List Pd} {f : Ky → Int} {F : Ky → List Int}, (∀ k ∈ all8, (F k).length = 13 ∧ dt (cc G) (F k) = f k) → (∀ d ∈ ds, pln P8 (NP w) d) →
    ∀ k ∈ all8, (frms F ds k).length = 13 ∧ dt (cc G) (frms F ds k) = valss (fun s => G (.inr s)) f ds k
  | [], f, F, h, _ => h
  | d :: ds, f, F, h, o => frms_vals (ds := ds) (F := frm F d) (f := vals (fun s => G (.inr s)) f d) (frm_vals h (o d (by simp))) fun x hx => o x (by simp [hx])
abbrev FD (F : List Int) : D := .tup (F.map D.int)
def ind (o : Ky) (p : Ky) : Int := if p = o then 1 else 0
/-- a row of the law is the form -/
theorem row_eq {F : List Int} (h : F.length = 13) : dt (cc fun _ => 0) F :: all12.map (fun o => dt (cc (ind o)) F - dt (cc fun _ => 0) F) = F := by
  rcases F with _ | ⟨x0, _ | ⟨x1, _ | ⟨x2, _ | ⟨x3, _ | ⟨x4, _ | ⟨x5, _ | ⟨x6, _ | ⟨x7, _ | ⟨x8, _ | ⟨x9, _ | ⟨x10, _ | ⟨x11, _ | ⟨x12, _ | ⟨x13, F⟩⟩⟩⟩⟩⟩⟩⟩⟩⟩⟩⟩⟩⟩ <;> simp at h
  simp [cc, all12, nms4, all8, dt, ind]
  omega
end Pu

namespace Pu
open PySem PySem.Spec PyProof.Rows L2

/-! ### comprehensions within comprehensions -/
theorem lookup_relabel {x : Str} {env : Env} : ∀ {ns : List (Str × NameKind)} {k : NameKind}, List.lookup x ns = some k →
    List.lookup x (ns.map fun (n, k) => if (k == NameKind.free && env.scope.kind == ScopeKind.function && env.kindOf n == some NameKind.cell) = true then (n, NameKind.cell) else (n, k)) = some k ∨
    (k = .free ∧ List.lookup x (ns.map fun (n, k) => if (k == NameKind.free && env.scope.kind == ScopeKind.function && env.kindOf n == some NameKind.cell) = true then (n, NameKind.cell) else (n, k)) = some .cell)
  | [], _, h => by cases h
  | (n, j) :: ns, k, h => by
    rw [List.map_cons]
    by_cases e : x == n
    · have : j = k := by rw [List.lookup_cons, e] at h; simpa using h
      subst this
      dsimp only
      split
      · rename_i hc
        refine .inr ⟨?_, ?_⟩
        · rw [Bool.and_eq_true, Bool.and_eq_true] at hc
          cases j <;> first | rfl | exact absurd hc.1.1 (by decide)
        · rw [List.lookup_cons, e]
      · refine .inl ?_
        rw [List.lookup_cons, e]
    · have e : (x == n) = false := by simpa using e
      rw [List.lookup_cons, e] at h
      have ih := lookup_relabel (env := env) h
      dsimp only
      split
      · rw [List.lookup_cons, e]; exact ih
      · rw [List.lookup_cons, e]; exact ih
theorem blkOk_in {N : List Str} {scope1 scope2 : Scope} {env : Env} {own : List (Str × Nat)} (h : BlkOk N scope1 scope2 own) : BlkOk N (relabel scope1 env) scope2 own :=
  ⟨h.kind, h.uniq, h.ix, fun y m f => by
    rcases h.free y m f with z | z
    · rcases lookup_relabel (env := env) z with w | w
      · exact .inl w
      · exact .inl w.2
    · rcases lookup_relabel (env := env) z with w | w
      · exact .inr w
      · exact .inl w.2, h.own⟩
end Pu

namespace Pu
open PySem PySem.Spec PyProof.Rows L2

/-! ### xs.count(s), a list of texts; t.index(s), a tuple of texts -/
def mCount (d : D) (ds : List D) (h : HH) : R D := match itemsL h d, ds with
  | some xs, [.str z] => ofO (strsD xs) fun ss => .ok (.int (ss.count z : Nat)) h
  | _, _ => .stuck
def eTIdx (ss : List String) (f : Exs) : Ex := fun env h => (f env h).bind fun ds h1 => match ds with
  | [.str z] => ofO (ss.findIdx? fun y => decide (y = z)) fun n => .ok (.int (n : Nat)) h1
  | _ => .stuck
/-- xs.pop(i) -/
def mPopA (d : D) (ds : List D) (h : HH) : R D := match refL h d, ds with
  | some (i, xs), [.int j] => if 0 ≤ j ∧ j < xs.length ∧ xs.length ≤ sz then ofO (xs[j.toNat]?) fun y => .ok y (h.set i (.lst (xs.eraseIdx j.toNat))) else .stuck
  | _, _ => .stuck
theorem count_map {ss : List String} {z : String} : (ss.map Str.ofString).count (Str.ofString z) = ss.count z := by
  induction ss with
  | nil => rfl
  | cons a ss ih =>
    rw [List.map_cons, List.count_cons, List.count_cons, ih]
    by_cases e : a = z
    · subst e; simp
    · have : ¬ Str.ofString a = Str.ofString z := fun h => e (ofString_inj h)
      simp [e, this]
section
variable {X : Cx} {W : WX} {k : Nat}
theorem countIn_cnt (z : Str) : ∀ ys : List Str, countIn (PyData.str z) (ys.map PyData.str) = (ys.count z : Nat)
  | [] => rfl
  | y :: ys => by
    have ih := countIn_cnt z ys
    rw [List.map_cons, countIn, ih, List.count_cons]
    have e : same (PyData.str y) (PyData.str z) = (y == z) := by
      unfold same
      simp [PyData.eqv]
    rw [e]
    split <;> simp <;> omega
theorem mt_lcountS : MtR X "list.count" (fun x xs H Q => ∃ (p : Addr) (ys : List Str) (z : Str), x = .ref p ∧ xs = [.str z] ∧ SqL X.K H p (ys.map V.str) ∧ Q (.int (ys.count z : Nat)) H) := by
  intro pins s σ H x xs v us Q I rx rv q
  obtain ⟨p, ys, z, rfl, rfl, sq, q⟩ := q
  obtain ⟨its, r, pl, hz⟩ := I.list sq
  cases rx
  cases rv with
  | cons h r2 =>
  cases r2
  obtain ⟨t, rfl⟩ := h
  refine count_list_strs pl.isList (by simpa using r.strs) ?_
  refine ⟨V.int (countIn (PyData.str z) (ys.map PyData.str)), H, I.kept fun _ _ h => h, ⟨_, rfl⟩, ?_⟩
  rw [countIn_cnt]
  exact q
theorem m_count : MtR X "list.count" (rdM X mCount) := MtR.mono mt_lcountS fun x xs H Q q => by
  obtain ⟨T, h, d, ds, r, rv, rs, q⟩ := q
  obtain ⟨d', h', e, q⟩ := rdO_ok q
  unfold mCount at e
  split at e
  · rename_i ys z e0
    obtain ⟨ss, e2, e⟩ := ofO_ok e
    cases e
    obtain ⟨u, rfl, ru⟩ := rels_one rs
    rw [rel_str_iff] at ru
    subst ru
    obtain ⟨p, vs, rfl, s, rr⟩ := rel_itemsL r rv e0
    rw [rels_txts rr e2] at s
    refine ⟨p, _, _, rfl, rfl, s, ?_⟩
    rw [count_map]
    exact q T H _ Le.refl r (rel_int_iff.mpr rfl)
  · cases e
theorem m_popA : MtR X "list.pop" (rdM X mPopA) := MtR.mono mt_popAt fun x xs H Q q => by
  obtain ⟨T, h, d, ds, r, rv, rs, q⟩ := q
  obtain ⟨d', h', e, q⟩ := rdO_ok q
  unfold mPopA at e
  split at e
  · rename_i i ys j a
    split at e
    · rename_i hc
      obtain ⟨z, e2, e⟩ := ofO_ok e
      cases e
      obtain ⟨p, vs, rfl, hp, s, rr⟩ := rel_refL r rv a
      obtain ⟨w, rfl, rw'⟩ := rels_one rs
      rw [rel_int_iff] at rw'
      subst rw'
      obtain ⟨u, e3, ru⟩ := rels_get rr e2
      have hl := rels_length rr
      have rd' : rels X.K T H (ys.eraseIdx j.toNat) (vs.eraseIdx j.toNat) := by
        rw [List.eraseIdx_eq_take_drop_succ, List.eraseIdx_eq_take_drop_succ]
        exact rels_append (rels_take _ rr) (rels_drop _ rr)
      obtain ⟨w1, w2⟩ := wr_lst r hp s rd'
      have hz : ys.length ≤ 16777216 := hc.2.2
      refine ⟨p, vs, j, j.toNat, u, rfl, rfl, s, by omega, by omega, ?_, e3, q T _ _ w1 w2 (rel_mono w1 r.mut _ _ ru)⟩
      unfold seqIndex?
      have : ((decide (0 ≤ j) && decide (j < (vs.length : Int))) : Bool) = true := by
        rw [Bool.and_eq_true, decide_eq_true_eq, decide_eq_true_eq]
        omega
      simp only [if_neg (show ¬ j < 0 by omega), this, if_true]
    · cases e
  · cases e
theorem se_tidx {x : Str} {ss : List String} {e : Expr} {f : Exs} {p apos cpos : Pos} (c : Cn X.mg X.K x (.tup (ss.map D.str))) (hg : Gl X x) (ha : SA X W [e] f)
    (hdb : (x == ("__debug__" : Str)) = false := by decide)
    (hbase : attributeBase (.Name x p) "index" X.env (eval (.Name x p) X.env) = eval (.Name x p) X.env := by rfl)
    (hfew : ((backTo cpos (starEach [e] X.env)).all (fun x => !x.1) && (backToKw cpos (keywordEach [] X.env)).all (fun x => x.1.isSome)
      && decide (([e] : List Expr).length + ([] : List Keyword).length + (if ([] : List Keyword).isEmpty then 0 else 1) < 30)) = true := by rfl)
    (hline : (apos.endLine == cpos.line) = true := by rfl) (hs : starEach [e] X.env = (false, eval e X.env) :: starEach [] X.env := by rfl) (hplain : (backTo cpos (starEach [] X.env)).any (·.1) = false := by rfl) :
    SE X W (.Call (.Attribute (.Name x p) "index" apos) [e] [] cpos) (eTIdx ss f) := by
  obtain ⟨v, u, hm, r, hd, ht⟩ := c.ex
  obtain ⟨q, o, rfl, l, hc, hn⟩ := ht _ rfl
  refine PE.mono (pe_bm PySem.F.plainAttrs_tuple PySem.F.slot_tuple_index PySem.F.type_tuple_index mt_tup_index (pe_glob hg hm r hdb) ha.pa hbase hfew hline hs hplain) fun σ H Q hh => ?_
  obtain ⟨T, env, h, r1, r2, a⟩ := hh
  refine ⟨.inr (.inl ⟨rfl, o, l, hc, hn⟩), T, env, h, r1, r2, a.bind r1.mut fun ds h2 T2 H2 us _ l2 q2 rus a2 => ?_⟩
  revert a2
  split
  · rename_i z _
    intro a2
    obtain ⟨n, e3, a2⟩ := a2.ofO
    obtain ⟨w, rfl, ru⟩ := rels_one rus
    rw [rel_str_iff] at ru
    subst ru
    have hr := hd T2 H2
    unfold rel at hr
    obtain ⟨p2, vs, e4, sq, rr⟩ := hr
    cases e4
    rw [rels_txts rr (strsD_map _)] at sq
    obtain ⟨hn2, h5, h6⟩ := List.findIdx?_eq_some_iff_getElem.mp e3
    have h5 : ss[n] = z := of_decide_eq_true h5
    refine ⟨q, ss.map Str.ofString, Str.ofString z, n, rfl, rfl, sq.sq, ?_, fun m hm e => ?_, ?_⟩
    · rw [List.getElem?_map, List.getElem?_eq_getElem hn2, h5]; rfl
    · have hm2 : m < ss.length := by omega
      have h7 := h6 m hm
      rw [List.getElem?_map, List.getElem?_eq_getElem hm2] at e
      exact h7 (decide_eq_true (ofString_inj (Option.some.inj e)))
    · exact a2 T2 H2 _ Le.refl q2 (rel_int_iff.mpr rfl)
  · exact fun a2 => a2.elim
end
section
variable {f : Exs} {env : En} {h : HH} {q : D → HH → Prop} {e : String → HH → Prop}
@[simp ↓] theorem wp_eTIdx {ss : List String} : Wp q e (eTIdx ss f env h) ↔ Wp (fun ds h1 => match ds with | [.str z] => Wo (fun n => q (.int (n : Nat)) h1) (ss.findIdx? fun y => decide (y = z)) | _ => False) e (f env h) := by
  unfold eTIdx
  rw [wp_bind]
  refine wp_congr fun ds h1 => ?_
  split
  · exact wp_ofO
  · exact Iff.rfl
@[simp] theorem wp_mPopA {j : Nat} {i : Int} : Wp q e (mPopA (.ref j) [.int i] h) ↔ Wo (lsO fun xs => (0 ≤ i ∧ i < xs.length ∧ xs.length ≤ sz) ∧ Wo (fun z => q z (h.set j (.lst (xs.eraseIdx i.toNat)))) xs[i.toNat]?) h[j]? := by
  unfold mPopA
  rw [refL_eq]
  cases h[j]? with
  | none => exact Iff.rfl
  | some o =>
    cases o with
    | lst xs =>
      show Wp q e (if 0 ≤ i ∧ i < xs.length ∧ xs.length ≤ sz then ofO (xs[i.toNat]?) fun y => .ok y (h.set j (.lst (xs.eraseIdx i.toNat))) else .stuck) ↔ _
      by_cases hc : 0 ≤ i ∧ i < xs.length ∧ xs.length ≤ sz
      · rw [if_pos hc]
        exact Iff.trans wp_ofO ⟨fun w => ⟨hc, w⟩, fun w => w.2⟩
      · rw [if_neg hc]
        exact ⟨fun w => w.elim, fun w => hc w.1⟩
    | dic kvs => exact Iff.rfl
    | lkd kvs => exact Iff.rfl
@[simp] theorem wp_mCount {xs : List D} {z : String} : Wp q e (mCount (.lst xs) [.str z] h) ↔ Wo (fun ss => q (.int (ss.count z : Nat)) h) (strsD xs) := by
  unfold mCount
  exact wp_ofO
end
end Pu

namespace Pu
open PySem PySem.Spec PyProof.Rows L2

/-! ### zip of a tuple and a list; xs * n -/
def ItzM (K : PySem.W.Frag) (a b : Addr) (n m : Nat) : It :=
  ⟨fun i H => ∃ (xs ys : List V) (c y : V), SqT K H a xs ∧ xs.length = n ∧ SqL K H b ys ∧ ys.length = m ∧ xs[i]? = some c ∧ ys[i]? = some y,
    fun i H v H' => ∃ T c y, v = .ref T ∧ H T = none ∧ H' = upd H T (.tup [c, y]) ∧ (∀ xs, SqT K H a xs → xs[i]? = some c) ∧ ∀ ys, SqL K H b ys → ys[i]? = some y,
    fun i H => ∃ xs ys : List V, SqT K H a xs ∧ xs.length = n ∧ SqL K H b ys ∧ ys.length = m ∧ (n ≤ i ∨ m ≤ i)⟩
theorem turn_zipM {P : Program} {w : World} {K : PySem.W.Frag} {elts : List Expr} {kk : Nat} {tpos : Pos} {a b z TI TO i1 i2 : Addr} {n m : Nat} (D : ZipSep2 z TI TO i1 i2 [i1, a] [i2, b]) (hb1 : a ≠ i1) (hb2 : b ≠ i2) :
    Turn P w K (.Tuple elts kk tpos) (ItzM K a b n m) [z, TI, TO, i1, i2] z (fun i h => IsZip h z TI TO .none ∧ IsTupOf2 h TI (.ref i1) (.ref i2) ∧ (∃ x y, IsTupOf2 h TO x y) ∧ h.IsTupleIter i1 a i ∧ h.IsListIter i2 b i ∧ i ≤ n ∧ i ≤ m) where
  mem := by simp
  obj := fun i h st c hc => by
    obtain ⟨hz, hTI, ⟨x, y, hTO⟩, ⟨o1, e1, _, d1⟩, ⟨o2, e2, _, d2⟩, _⟩ := st
    have e' : c = z ∨ c = TI ∨ c = TO ∨ c = i1 ∨ c = i2 := by simpa using hc
    rcases e' with q | q | q | q | q
    · rw [q]; exact ⟨_, hz, fun v q => nomatch q⟩
    · rw [q]; exact ⟨_, hTI, fun v q => nomatch q⟩
    · rw [q]; exact ⟨_, hTO, fun v q => nomatch q⟩
    · rw [q]; exact ⟨o1, e1, fun v q => by rw [d1] at q; cases q⟩
    · rw [q]; exact ⟨o2, e2, fun v q => by rw [d2] at q; cases q⟩
  keep := fun i h h' st k => by
    obtain ⟨hz, hTI, ⟨x, y, hTO⟩, h1, h2, hl⟩ := st
    exact ⟨k z (by simp) _ hz, k TI (by simp) _ hTI, ⟨x, y, k TO (by simp) _ hTO⟩, h1.at fun o q => k i1 (by simp) o q, h2.at fun o q => k i2 (by simp) o q, hl⟩
  item := by
    intro X hP hw hK hc i pins s σ H E I hf st hg
    subst hP hw hK
    obtain ⟨hz, hTI, ⟨x0, y0, hTO⟩, h1, h2, hl1, hl2⟩ := st
    obtain ⟨xs, ys, c, y, hqx, hn, hqy, hm, hx, hy⟩ := hg
    obtain ⟨its1, rv1, p1, _⟩ := I.tuple hqx
    obtain ⟨its2, rv2, p2, _⟩ := I.list hqy
    have p2 := p2.isList
    obtain ⟨u1, hu1, ru1⟩ := rv1.get hx
    obtain ⟨u2, hu2, ru2⟩ := rv2.get hy
    have hzl : z < s.heap.objs.size := Heap.lt_size hz
    have hh : X.A.in1.handled = none := I.ok.hd hc
    have D1 := Draws.tuple (prog := X.prog) (w := X.w) hh i1 a hb1 its1.toArray
    have D2 := Draws.list (prog := X.prog) (w := X.w) hh i2 b hb2 its2.toArray
    have hi1 : i < its1.toArray.size := by
      have := (List.getElem?_eq_some_iff.mp hu1).1
      simpa using this
    have hi2 : i < its2.toArray.size := by
      have := (List.getElem?_eq_some_iff.mp hu2).1
      simpa using this
    refine wpAny_pyNext_zipD2_item D D1 D2 hz hTI hTO ⟨h1, p1⟩ ⟨h2, p2⟩ hi1 hi2 fun x1 x2 h' tk P1 P2 z' TO' st1 st2 hT hsz hk => ?_
    have e1 : x1 = u1 := by
      have h3 : its1[i]? = some x1 := by simpa using P1
      rw [hu1] at h3; exact (Option.some.inj h3).symm
    subst e1
    have e2 : x2 = u2 := by
      have h3 : its2[i]? = some x2 := by simpa using P2
      rw [hu2] at h3; exact (Option.some.inj h3).symm
    subst e2
    refine ⟨_, rfl, wpAny_letOwnedTupleGo_zip (s := { s with heap := h', toks := tk }) z' fun h'' z'' sb => ?_⟩
    have hT2 : h''.get? s.heap.objs.size = some { cls := .type "tuple", data := .seq #[x1, x2] } := (sb.2 _ (Nat.ne_of_gt hzl)).trans hT
    have new : ObjOk X.prog X.w (upd H s.heap.objs.size (.tup [c, y])) h'' s.heap.objs.size (.tup [c, y]) :=
      ⟨by show 2 ≤ sizeLine; decide, [x1, x2], .cons ru1 (.cons ru2 .nil), ⟨_, hT2, rfl, _, rfl⟩⟩
    have I1 : Inv X pins σ (upd H s.heap.objs.size (.tup [c, y])) { s with heap := h'', toks := tk } :=
      I.turnedNew (t' := tk) (ch := [z, TI, TO, i1, i2]) (fun c o hb q => (sb.2 c (fun q' => hb (by simp [q']))).trans (hk c o (fun q' => hb (by simp [q'])) (fun q' => hb (by simp [q'])) (fun q' => hb (by simp [q'])) (fun q' => hb (by simp [q'])) q)) hf (Nat.le_refl _) new
    have i1z : i1 ≠ z := fun e => D.zf1 (by rw [← e]; simp)
    have i2z : i2 ≠ z := fun e => D.zf2 (by rw [← e]; simp)
    refine ⟨.ref s.heap.objs.size, _, I1, rfl, ⟨_, c, y, rfl, I.hok.fresh (Nat.le_refl _), rfl, fun l hl => by rw [I.tuple_inj hl hqx]; exact hx, fun l hl => by rw [I.list_inj hl hqy]; exact hy⟩, ⟨z'', ?_, ⟨x1, x2, ?_⟩, ?_, ?_, ?_, ?_⟩, fun c hcm => ?_⟩
    · exact (sb.2 _ D.TIz).trans (hk _ _ D.TIz D.TITO D.TIi1 D.TIi2 hTI)
    · exact (sb.2 _ D.TOz).trans TO'
    · exact st1.1.at fun o q => (sb.2 _ i1z).trans q
    · exact st2.1.at fun o q => (sb.2 _ i2z).trans q
    · have := rv1.length
      simp at hi1
      omega
    · have := rv2.length
      simp at hi2
      omega
    · have hlt : c < s.heap.objs.size := by
        have e' : c = z ∨ c = TI ∨ c = TO ∨ c = i1 ∨ c = i2 := by simpa using hcm
        rcases e' with q | q | q | q | q
        · rw [q]; exact hzl
        · rw [q]; exact Heap.lt_size hTI
        · rw [q]; exact Heap.lt_size hTO
        · rw [q]; obtain ⟨_, e1, _⟩ := h1; exact Heap.lt_size e1
        · rw [q]; obtain ⟨_, e2, _⟩ := h2; exact Heap.lt_size e2
      rw [upd_ne (Nat.ne_of_lt hlt)]
      exact (hf c hcm).1
  done := by
    intro X hP hw hK hc i pins s σ H E I hf st hg
    subst hP hw hK
    obtain ⟨hz, hTI, ⟨x0, y0, hTO⟩, h1, h2, hl1, hl2⟩ := st
    obtain ⟨xs, ys, hqx, hn, hqy, hm, hend⟩ := hg
    obtain ⟨its1, rv1, p1, _⟩ := I.tuple hqx
    obtain ⟨its2, rv2, p2, _⟩ := I.list hqy
    have p2 := p2.isList
    have l1 := rv1.length
    have l2 := rv2.length
    have hh : X.A.in1.handled = none := I.ok.hd hc
    have D1 := Draws.tuple (prog := X.prog) (w := X.w) hh i1 a hb1 its1.toArray
    have D2 := Draws.list (prog := X.prog) (w := X.w) hh i2 b hb2 its2.toArray
    exact wpAny_pyNext_zipD2_end D D1 D2 hz hTI hTO ⟨h1, p1⟩ ⟨h2, p2⟩ (by simp; omega) (by simp; omega) (by simp; omega) fun h' tk hk => ⟨rfl, I.turnedL (t' := tk) (ch := [z, TI, TO, i1, i2]) (fun c o hb q =>
      hk c o (fun q' => hb (by simp [q'])) (fun q' => hb (by simp [q'])) (fun q' => hb (by simp [q'])) (fun q' => hb (by simp [q'])) q) hf⟩
  self := fun A i s Q E st h => wpAny_pyIter_zip st.1 h
def iZipM (K : PySem.W.Frag) (ta : TA) : TI := fun σ H R => ta σ H fun vs H1 => ∃ a b xs ys, vs = [.ref a, .ref b] ∧ SqT K H1 a xs ∧ SqL K H1 b ys ∧ R (ItzM K a b xs.length ys.length) H1
theorem pi_zipM {X : Cx} {e e2 : Expr} {ta : TA} {p pos tpos : Pos} {elts : List Expr} {kk : Nat} (hg : Gl X "zip") (hm : X.mg "zip" = none) (ha : PA X [e, e2] ta)
    (hs : starEach [e, e2] X.env = (false, eval e X.env) :: starEach [e2] X.env := by rfl) (hpl : (backTo pos (starEach [e2] X.env)).any (·.1) = false := by rfl) :
    PI X (.Tuple elts kk tpos) (.Call (.Name "zip" p) [e, e2] [] pos) (iZipM X.K ta) := by
  refine ⟨fun pins s σ H R I h => ?_⟩
  refine Call_ (ld_blt I hg hm PyProof.Rows.boot_zip (PyProof.Rows.callWith_type1 (thn (ha.run pos pins s σ H _ I h) fun us s1 ⟨vs, H1, I1, r1, q1⟩ => ?_) hs hpl))
  obtain ⟨a, b, xs, ys, ex, hqx, hqy, q⟩ := q1
  subst ex
  cases r1 with
  | cons r rr =>
    cases rr with
    | cons r' rr =>
      cases rr
      cases r
      cases r'
      have fresh5 : ∀ c, c ∈ [s1.heap.objs.size + 4, s1.heap.objs.size + 2, s1.heap.objs.size + 3, s1.heap.objs.size, s1.heap.objs.size + 1] → FpOk X pins H1 c := fun c hcm => by
        have e' : c = s1.heap.objs.size + 4 ∨ c = s1.heap.objs.size + 2 ∨ c = s1.heap.objs.size + 3 ∨ c = s1.heap.objs.size ∨ c = s1.heap.objs.size + 1 := by simpa using hcm
        have hle : s1.heap.objs.size ≤ c := by
          rcases e' with z | z | z | z | z
          · rw [z]; exact Nat.le_add_right _ _
          · rw [z]; exact Nat.le_add_right _ _
          · rw [z]; exact Nat.le_add_right _ _
          · rw [z]; exact Nat.le_refl _
          · rw [z]; exact Nat.le_add_right _ _
        exact I1.fpOk hle (I1.hok.fresh hle)
      obtain ⟨its1, rv1, p1, _⟩ := I1.tuple hqx
      obtain ⟨its2, rv2, p2, _⟩ := I1.list hqy
      have p2 := p2.isList
      have hal : a < s1.heap.objs.size := by obtain ⟨_, q, _⟩ := id p1; exact Heap.lt_size q
      have hbl : b < s1.heap.objs.size := by obtain ⟨_, q, _⟩ := id p2; exact Heap.lt_size q
      refine zip_begins2 (begins_tuple a its1.toArray) (begins_list b its2.toArray) p1 p2 fun h' hz hTI hTO h1 h2 hsz hk => wpAny_pyIter_zip hz ?_
      have I2 : Inv X pins σ H1 { s1 with heap := h' } := I1.kept (t' := s1.toks) hk
      exact ⟨s1.heap.objs.size + 4, [s1.heap.objs.size + 4, s1.heap.objs.size + 2, s1.heap.objs.size + 3, s1.heap.objs.size, s1.heap.objs.size + 1], _, _, H1, rfl, I2,
        turn_zipM (zip_sep2 (fp1 := [a]) (fp2 := [b]) (fun c h => by rw [List.mem_singleton.mp h]; exact hal) (fun c h => by rw [List.mem_singleton.mp h]; exact hbl)) (Nat.ne_of_lt hal) (Nat.ne_of_lt (Nat.lt_succ_of_lt hbl)),
        ⟨hz, hTI, ⟨_, _, hTO⟩, ⟨_, h1, rfl, rfl⟩, ⟨_, h2, rfl, rfl⟩, Nat.zero_le _, Nat.zero_le _⟩, fresh5, q⟩
def iZipY (f : Exs) : Ei := fun env h => match f env h with
  | .ok [.tup xs, .lst ys] h1 => .ok ⟨zipD xs ys, []⟩ h1
  | _ => iZipX f env h
def zpY (h : HH) (ds : List D) : Option IT := match ds with
  | [.tup xs, .lst ys] => some ⟨zipD xs ys, []⟩
  | ds => zpX h ds
def opMulY (a b : D) (h : HH) : R D := match a, b with
  | .lst xs, .int k => if 0 ≤ k ∧ k ≤ 1000 ∧ xs.length ≤ 1000 then .ok (.lst (List.replicate k.toNat xs).flatten) h else .stuck
  | a, b => opMulX a b h
section
variable {X : Cx} {W : WX}
theorem wk_zipM {K : PySem.W.Frag} {a b : Addr} {n m : Nat} : Walk (ItzM K a b n m) (min n m) (fun H => (∃ vs, vs.length = n ∧ SqT K H a vs) ∧ ∃ vs, vs.length = m ∧ SqL K H b vs)
    (fun i H v H' => ∃ T x y, v = .ref T ∧ H T = none ∧ H' = upd H T (.tup [x, y]) ∧ (∀ xs, SqT K H a xs → xs[i]? = some x) ∧ ∀ ys, SqL K H b ys → ys[i]? = some y) :=
  ⟨fun i _ hi ⟨⟨vs, e, q⟩, ws, e', q'⟩ => ⟨vs, ws, vs[i]'(by omega), ws[i]'(by omega), q, e, q', e', List.getElem?_eq_getElem _, List.getElem?_eq_getElem _⟩,
    fun _ ⟨⟨vs, e, q⟩, ws, e', q'⟩ => ⟨vs, ws, q, e, q', e', by omega⟩, fun _ _ _ _ _ _ y => y⟩
theorem si_zipY {e1 e2 : Expr} {f : Exs} {p pos tpos : Pos} {elts : List Expr} {kk : Nat} (hg : Gl X "zip") (hm : X.mg "zip" = none) (ha : SA X W [e1, e2] f)
    (hs : starEach [e1, e2] X.env = (false, eval e1 X.env) :: starEach [e2] X.env := by rfl) (hpl : (backTo pos (starEach [e2] X.env)).any (·.1) = false := by rfl) :
    SI X W (.Tuple elts kk tpos) (.Call (.Name "zip" p) [e1, e2] [] pos) (iZipY f) := PI.or2 (pi_zipM hg hm ha.pa hs hpl) (si_zipX hg hm ha hs hpl) fun σ H QR hh => by
  obtain ⟨T, env, h, r1, r2, a⟩ := hh
  by_cases key : ∃ xs ys h1, f env h = .ok [.tup xs, .lst ys] h1
  · obtain ⟨xs, ys, h1, e⟩ := key
    left
    refine ⟨T, env, h, r1, r2, ?_⟩
    have e2 : iZipY f env h = (f env h).bind fun ds h1 => .ok ⟨zipD xs ys, []⟩ h1 := by unfold iZipY; rw [e]; rfl
    rw [e2] at a
    refine a.bind r1.mut fun ds h2 T1 H1 vs e' l1 q1 rvs a1 => ?_
    rw [e] at e'
    cases e'
    obtain ⟨v, u, rfl, rv, ru⟩ := rels_two rvs
    obtain ⟨p1, rfl, s1⟩ := tup_stay q1 rv
    obtain ⟨p2, rfl, s2⟩ := itemsL_stay q1 ru (xs := ys) rfl
    obtain ⟨vs1, t1, w1⟩ := s1 T1 H1 Le.refl
    obtain ⟨vs2, t2, w2⟩ := s2 T1 H1 _ Le.refl q1 rfl
    have hl1 : vs1.length = xs.length := rels_length w1
    have hl2 : vs2.length = ys.length := rels_length w2
    refine ⟨p1, p2, vs1, vs2, rfl, t1, t2, After.done a1 q1 ?_⟩
    refine ⟨_, _, by rw [zipD_len, ← hl1, ← hl2]; exact wk_zipM, fun T3 H3 h3 l3 r3 hc => ?_, fun i H3 x H' hi y T3 h3 l3 r3 hc => ?_⟩
    · obtain ⟨ws1, t1, r1⟩ := s1 T3 H3 l3
      obtain ⟨ws2, t2, r2⟩ := s2 T3 H3 h3 l3 r3 rfl
      exact ⟨⟨ws1, by rw [rels_length r1, hl1], t1⟩, ws2, by rw [rels_length r2, hl2], t2⟩
    · obtain ⟨ws1, t1, w1⟩ := s1 T3 H3 l3
      obtain ⟨ws2, t2, w2⟩ := s2 T3 H3 h3 l3 r3 rfl
      obtain ⟨T', x', y', rfl, hp, rfl, y1, y2⟩ := y
      obtain ⟨d1, g1, k1⟩ := rels_back w1 (y1 _ t1)
      obtain ⟨d2, g2, k2⟩ := rels_back w2 (y2 _ t2)
      obtain ⟨z1, z2, z3⟩ := Le.tup r3 hp (rels_cons k1 (rels_cons k2 rels_nil)) rfl
      exact ⟨_, zipD_get g1 g2, z1, z2, z3⟩
  · right
    have e2 : iZipY f env h = iZipX f env h := by
      unfold iZipY
      split
      · rename_i e; exact absurd ⟨_, _, _, e⟩ key
      · rfl
    exact ⟨T, env, h, r1, r2, by rw [← e2]; exact a⟩
theorem o_mulY : OpR X (binaryOp .Mult) (rdO X opMulY) := OpR.mono (op_rep.or o_mulX) fun x y H Q q => by
  obtain ⟨T, h, a, b, r, ra, rb, q⟩ := q
  by_cases hc : ∃ xs k, a = .lst xs ∧ b = .int k
  · obtain ⟨xs, k, rfl, rfl⟩ := hc
    obtain ⟨d, h', e, q⟩ := rdO_ok q
    unfold opMulY at e
    dsimp only at e
    split at e
    · rename_i hz
      cases e
      unfold rel at ra
      obtain ⟨p, vs, rfl, s, n, rv⟩ := ra
      have hl := rels_length rv
      have hm : vs.length * k.toNat ≤ 1000 * 1000 := Nat.mul_le_mul (by omega) (by omega)
      refine .inl ⟨p, k, vs, rfl, rel_int_iff.mp rb, s, by omega, by omega, by rw [sizeLine_eq]; omega, fun p2 hp => ?_⟩
      exact q T (upd H p2 (.lst (List.replicate k.toNat vs).flatten)) _ (Le.new hp) (r.new hp) (rel_lst upd_same (r.mut.free hp) (rels_mono (Le.new hp) r.mut _ _ (rels_rep rv _)))
    · cases e
  · have e2 : opMulY a b h = opMulX a b h := by
      unfold opMulY
      split
      · rename_i xs k; exact absurd ⟨_, _, rfl, rfl⟩ hc
      · rfl
    rw [e2] at q
    exact .inr ⟨T, h, _, _, r, ra, rb, q⟩
end
section
variable {f : Exs} {env : En} {h : HH} {q : D → HH → Prop} {e : String → HH → Prop}
@[simp ↓] theorem wp_iZipY {qi : IT → HH → Prop} : Wp qi e (iZipY f env h) ↔ Wp (fun ds h1 => Wo (fun x => qi x h1) (zpY h1 ds)) e (f env h) := by
  unfold iZipY
  split
  · rename_i xs ys h1 e1
    rw [e1]; rfl
  · rename_i hc
    rw [wp_iZipX]
    cases e1 : f env h with
    | ok ds h1 =>
      have : zpY h1 ds = zpX h1 ds := by
        unfold zpY
        split
        · exact absurd e1 (hc _ _ _)
        · rfl
      show Wo _ (zpX h1 ds) ↔ Wo _ (zpY h1 ds)
      rw [this]
    | exc c h1 => exact Iff.rfl
    | stuck => exact Iff.rfl
@[simp] theorem zpY_tl {xs ys : List D} : zpY h [.tup xs, .lst ys] = some ⟨zipD xs ys, []⟩ := rfl
@[simp] theorem zpY_tt {xs ys : List D} : zpY h [.tup xs, .tup ys] = some ⟨zipD xs ys, []⟩ := rfl
@[simp] theorem zpY_ll {xs ys : List D} : zpY h [.lst xs, .lst ys] = some ⟨zipD xs ys, []⟩ := rfl
@[simp] theorem zpY_st {s : String} {ys : List D} : zpY h [.str s, .tup ys] = some ⟨zipD (chsD s) ys, []⟩ := rfl
@[simp] theorem wp_mulYI {i j : Int} : Wp q e (opMulY (.int i) (.int j) h) ↔ Wp q e (opMul (.int i) (.int j) h) := Iff.rfl
@[simp] theorem wp_mulYT {xs : List D} {j : Int} : Wp q e (opMulY (.tup xs) (.int j) h) ↔ Wp q e (opMulX (.tup xs) (.int j) h) := Iff.rfl
@[simp] theorem wp_mulYL {xs : List D} {k : Int} : Wp q e (opMulY (.lst xs) (.int k) h) ↔ (0 ≤ k ∧ k ≤ 1000 ∧ xs.length ≤ 1000) ∧ q (.lst (List.replicate k.toNat xs).flatten) h := by
  show Wp q e (if 0 ≤ k ∧ k ≤ 1000 ∧ xs.length ≤ 1000 then .ok (.lst (List.replicate k.toNat xs).flatten) h else .stuck) ↔ _
  split
  · rename_i hz; exact ⟨fun w => ⟨hz, w⟩, fun w => w.2⟩
  · rename_i hz; exact ⟨fun w => w.elim, fun w => hz w.1⟩
end
end Pu

namespace Pu
open PySem PySem.Spec PyProof.Rows L2

/-! ### a caught exception, tracked from its catching on -/
theorem ext_ok {P : Program} {w : World} {H : Hp} {h : Heap} {a : Addr} {C : Value} {oe : Obj} {vs : Array Value} (e : h.get? a = some oe) (z : Zc C none oe) (d : oe.data = .fields vs) : ObjOk P w H h a (ExT C a) :=
  ⟨⟨oe, vs, e, z, d⟩, ⟨oe, e⟩, fun _ _ ⟨o, v, q, r⟩ k => ⟨o, v, k o q, r⟩⟩
section
variable {X : Cx} {pins : List (Addr × Obj)} {σ σ2 : L2.St} {H : Hp} {s sI : Shared} {a : Addr}
theorem inv_track {o : HO} (I : Inv X pins σ H s) (J : Inv X pins σ2 H sI) (hn : sI.heap.get? a = none) (na : H a = none) (new : ObjOk X.prog X.w (upd H a o) s.heap a o) (hx : ∀ b, b ∉ X.ex) : Inv X pins σ (upd H a o) s := by
  have ne : ∀ b u, sI.heap.get? b = some u → b ≠ a := fun b u e z => by rw [z, hn] at e; cases e
  have neK : ∀ b u, H b = some u → b ≠ a := fun b u e z => by rw [z, na] at e; cases e
  refine ⟨I.ok, I.os, I.bare, ⟨I.base.keep, I.base.slot, fun b u e n hb => ?_, I.base.there, fun b xs e => ?_, fun b u xs e => ?_, fun b ps e => ?_⟩, I.loc, I.cell, ?_, fun y c e => ?_, fun p hp => ?_, fun b u e => ?_, I.len⟩
  · obtain ⟨u', q⟩ := J.base.there b u e hb
    rw [upd_ne (ne b _ q)]
    exact I.base.free b u e n hb
  · have q := I.base.tups b xs e
    rw [upd_ne (neK b _ q)]; exact q
  · have q := I.base.frzs b u xs e
    rw [upd_ne (neK b _ q)]; exact q
  · obtain ⟨m, q⟩ := I.base.tbls b ps e
    exact ⟨m, by rw [upd_ne (neK b _ q)]; exact q⟩
  · obtain ⟨m, ⟨o', es, ep, ho, _⟩, _⟩ := id J.loc
    rw [upd_ne (ne _ _ ho)]
    exact I.free
  · obtain ⟨v, o', ho, _⟩ := J.cell y c e
    rw [upd_ne (ne _ _ ho)]
    exact I.freeC y c e
  · obtain ⟨e1, n1, n2, n3, n4⟩ := I.pin p hp
    obtain ⟨e2, _⟩ := J.pin p hp
    exact ⟨e1, by rw [upd_ne (ne _ _ e2)]; exact n1, n2, n3, n4⟩
  · by_cases hb : b = a
    · subst hb
      rw [upd_same] at e
      cases e
      exact new
    · rw [upd_ne hb] at e
      exact (I.hok b u e).stay (fun c v _ q => q) (fun c q => by rw [upd_ne (neK c _ q)]; exact q) fun c xs q => by rw [upd_ne (neK c _ q)]; exact q
theorem inv_suite (I : Inv X pins σ H s) (a : Addr) : Inv (X.suite a (X.pn ++ pins)) [] σ H s :=
  ⟨I.ok.suite _ _, I.os, I.bare, I.base, I.loc, I.cell, I.free, I.freeC, fun p hp => I.pin p (by rw [List.append_nil] at hp; exact hp), I.hok, I.len⟩
theorem inv_unsuite {pn' : List (Addr × Obj)} (I : Inv (X.suite a (X.pn ++ pins)) pn' σ H s) (ok : X.Ok) : Inv X pins σ H s :=
  ⟨ok, I.os, I.bare, I.base, I.loc, I.cell, I.free, I.freeC, fun p hp => I.pin p (List.mem_append_left _ hp), I.hok, I.len⟩
end
/-- slot i held the exception as the clause's own name, slot j is the name that keeps it -/
def heldAt (i j : Nat) (σ : L2.St) (a : Addr) : L2.St := ((σ.set i (some (.ref a))).set j (some (.ref a))).set i none
/-- what a try with one clause that but keeps what it caught wishes of an exception of its body -/
def wHold (K : PySem.W.Frag) (c : Value) (i j : Nat) (Wout : WX) (D : Ends) : WX := fun cls d σ H =>
  ∃ b, PySem.W.exmOne K cls c = some b ∧ (b = true → d = none ∧ ∀ a, H a = none → D.nx (heldAt i j σ a) (upd H a (ExT cls a))) ∧ (b = false → Wout cls d σ H)
abbrev keepS (n y : Str) (np yp ap : Pos) : Stmt := .Assign [.Name y yp] (.Name n np) ap
abbrev keepH (x n y : Str) (xp np yp ap hp : Pos) : ExceptHandler := .ExceptHandler (some (.Name x xp)) (some n) [keepS n y np yp ap] hp
/-- an exception's address is no frame's -/
theorem fly_off {B h : Heap} {l : List Env} {a : Addr} {Z : Obj → Prop} (f : HandSPX.FlyingZ B l a Z h) : a ∉ frs l := fun hm => by
  obtain ⟨oe, vs, g, _, hd⟩ := f.there
  obtain ⟨_, o', g', hn⟩ := f.2.2.1.mem hm
  cases g.symm.trans g'
  exact hn _ hd
/-- the names' places -/
structure HoldN (X : Cx) (i j : Nat) (n y : Str) : Prop where
  st : X.stack = X.env :: X.outer
  fr : X.env.frame = some X.env.locals
  ex : X.ex = []
  nd : X.N.Nodup
  i_ : X.N[i]? = some n
  n_ : X.env.kindOf n = some .local
  j_ : X.N[j]? = some y
  y_ : X.env.kindOf y = some .local
  d1 : (n == ("__debug__" : Str)) = false
  d2 : (n == ("__classdict__" : Str)) = false
section
variable {X : Cx} {x n y : Str} {c : Value} {i j : Nat} {np yp ap xp hp : Pos} {pins : List (Addr × Obj)} {σ : L2.St} {H : Hp} {s : Shared} {a : Addr} {D : Ends}
/-- the suite: what was caught is kept, the clause's name goes -/
theorem hold_suite {E1 E2 : Value → Shared → Prop} (N : HoldN X i j n y) (hsw : swapsWith (.Name n np) (some (.Name y yp)) ap.line X.env = pure false) (I : Inv X pins σ H s) (q : D.nx (heldAt i j σ a) H) :
    wpAny (model X.prog X.w) (X.A.mark (some (.ref a))) (storeName X.env n (.ref a)) (fun _ s1 => wpAny (model X.prog X.w) (X.A.mark (some (.ref a))) (execs [keepS n y np yp ap] X.env)
      (fun f s2 => wpAny (model X.prog X.w) X.A (do bindName X.env n .none; unbindBehindTheSuite X.env n hp) (fun _ s3 => SP X pins D f s3) X.xe s2) E2 s1) E1 s := by
  let Y : Cx := X.suite a (X.pn ++ pins)
  have here : (σ.set i (some (V.ref a)))[i]? = some (some (V.ref a)) := List.getElem?_set_self (by rw [I.len]; exact (List.getElem?_eq_some_iff.mp N.i_).1)
  have asg := ps_set (X := Y) (i := j) (pos := ap) N.nd N.j_ (.inl N.y_) (pe_var (X := Y) (i := i) N.i_ (.inl N.n_) N.d1 N.d2) hsw (.inr N.y_)
  refine wpAny_mono (store_ok (X := Y) (v := .ref a) (Q := fun _ s1 => wpAny (model X.prog X.w) (X.A.mark (some (.ref a))) (execs [keepS n y np yp ap] X.env)
      (fun f s2 => wpAny (model X.prog X.w) X.A (do bindName X.env n .none; unbindBehindTheSuite X.env n hp) (fun _ s3 => SP X pins D f s3) X.xe s2) E2 s1) (inv_suite I a) N.nd N.i_ (.inl N.n_) rfl (fun s1 I1 => ?_) (.inr N.n_)) (fun _ _ z => z) fun _ _ z => z
  have run := (pss_one asg).run [] s1 _ _ { nx := fun τ G => τ = (σ.set i (some (V.ref a))).set j (some (.ref a)) ∧ G = H, rt := fun _ _ => False } I1 ⟨_, here, rfl, rfl⟩
  refine wpAny_mono run (fun f s2 e => ?_) fun _ _ z => z.elim
  match f, e with
  | .next, ⟨τ, G, I2, e1, e2⟩ =>
    subst e1 e2
    exact gone_ok (inv_unsuite I2 I.ok) N.nd N.i_ N.n_ fun s3 I3 => ⟨_, _, I3, q⟩
  | .brk, ⟨_, _, _, z⟩ => exact z.elim
  | .cont, ⟨_, _, _, z⟩ => exact z.elim
  | .ret _, ⟨_, _, _, _, _, z⟩ => exact z.elim
/-- another class: it flies on -/
theorem hold_pass {Wout : WX} {B : Heap} {sI : Shared} {cls : Value} {d : Option Addr} (N : HoldN X i j n y) (tk : Takes X Wout) (J : Inv X pins σ H sI) (nb : ∀ b o, sI.heap.get? b = some o → b ∉ frs X.stack → B.get? b = some o)
    (fl : HandSPX.FlyingZ B X.stack a (Zc cls d) s.heap) (up : sI.heap.UpToSlots s.heap) (na : H a = none) (os : s.os = sI.os) (ag : AllBare s.gens) (w : Wout cls d σ H) :
    wpAny (model X.prog X.w) X.A (handleBy (.ref a) X.env []) (SP X pins D) X.xe s := by
  have away : wpAny (model X.prog X.w) X.A (setFlight (.ref a) X.env.frame) (fun _ s4 => wpAny (model X.prog X.w) X.A (throw (.ref a) : Sem Flow) (SP X pins D) X.xe s4) X.xe s := by
    rw [N.fr]
    exact HandSPX.setFlight_upZ fl fun h4 held more => wpAny_throw (tk _ _ ⟨a, B, sI, pins, σ, H, cls, d, rfl, J, nb, up.trans more, .inr (.inr held), na, os, ag, w⟩)
  obtain ⟨_, vs, T, _, _, g, _, hv, h1, _⟩ := fl.2.2.2
  have nn : (Value.ref T == Value.none) = false := rfl
  refine wpAny_handleBy_nil ?_
  unfold PySem.passOn
  refine wpAny_bind (wpAny_field g hv h1 ?_)
  rw [nn, if_neg Bool.false_ne_true]
  first
    | exact wpAny_bind (wpAny_pure (wpAny_bind away))
    | exact wpAny_bind away
/-- the clause at work, from where the exception has landed in this frame -/
theorem hold_clause {Wout : WX} {B : Heap} {sI : Shared} {cls : Value} {d : Option Addr} (N : HoldN X i j n y) (hc : Names X x c) (hsw : swapsWith (.Name n np) (some (.Name y yp)) ap.line X.env = pure false) (tk : Takes X Wout) (J : Inv X pins σ H sI)
    (nb : ∀ b o, sI.heap.get? b = some o → b ∉ frs X.stack → B.get? b = some o) (fl : HandSPX.FlyingZ B X.stack a (Zc cls d) s.heap) (up : sI.heap.UpToSlots s.heap) (na : H a = none) (os : s.os = sI.os) (ag : AllBare s.gens) (w : wHold X.K c i j Wout D cls d σ H) :
    wpAny (model X.prog X.w) X.A (handleBy (.ref a) X.env [keepH x n y xp np yp ap hp]) (SP X pins D) X.xe s := by
  have off := fly_off fl
  have nL : a ≠ X.env.locals := fun z => off (by rw [N.st]; exact List.mem_filterMap.mpr ⟨_, List.mem_cons_self, by rw [N.fr, z]⟩)
  have new : sI.heap.get? a = none := Option.eq_none_iff_forall_ne_some.mpr fun o q => by
    cases fl.2.1.symm.trans (nb a o q off)
  have land : ∀ {h4 : Heap}, HandSPX.FlyingZ B X.stack a (Zc cls d) h4 → s.heap.UpToSlots h4 → Inv X pins σ H { s with heap := h4 } := fun f u => J.landed nb f.1 (up.trans u) os ag
  have I0 : Inv X pins σ H s := J.landed nb fl.1 up os ag
  obtain ⟨b, e, yes, no⟩ := w
  obtain ⟨o3, _, g3, z3, _⟩ := fl.there
  have type : PySem.W.Looks (model X.prog X.w) s.heap (typeOf (.ref a)) cls := fun A Q E s1 k q => wpAny_typeOf_ref (k _ _ g3) (by rw [z3.1]; exact q)
  have look := PySem.W.exm_one (M := model X.prog X.w) I0.kIn type e
  have named : ∀ {Q : Value → Shared → Prop} {E : Value → Shared → Prop}, Q c s → wpAny (model X.prog X.w) (X.A.mark (some (.ref a))) (eval (.Name x xp) X.env) Q E s := fun q =>
    match hc with
    | ⟨g, db, .inl m⟩ => ld_glob (X := X.suite a (X.pn ++ pins)) (inv_suite I0 a) g m q db
    | ⟨g, db, .inr ⟨m, v, nn⟩⟩ => ld_blt (X := X.suite a (X.pn ++ pins)) (inv_suite I0 a) g m v q nn db
  refine wpAny_handleBy_cons (codeAny_handlers_test (named (look.here ?_))) (fun z => nomatch z)
  cases b
  · exact hold_pass N tk J nb fl up na os ag (no rfl)
  · obtain ⟨hd, q⟩ := yes rfl
    subst hd
    rw [N.st] at fl
    refine codeAny_handlers_suite_as (HandSPX.lands_againZ fl fun h4 f4 u4 => ?_)
    obtain ⟨o4, _, g4, z4, v4⟩ := f4.there
    exact hold_suite N hsw (inv_track (land (by rw [N.st]; exact f4) u4) J new na (ext_ok g4 z4 v4) fun b z => by rw [N.ex] at z; exact nomatch z) (q a na)
theorem ps_try_hold {body : List Stmt} {pos : Pos} {tb : WX → TS} {Wout : WX} (N : HoldN X i j n y) (hc : Names X x c) (hsw : swapsWith (.Name n np) (some (.Name y yp)) ap.line X.env = pure false) (tk : Takes X Wout)
    (hb : ∀ (W : WX) (pn : List (Addr × Obj)) (xe : Value → Shared → Prop), Takes (X.tr pn xe) W → PassesOwn (model X.prog X.w) X.A X.env xe → PSs (X.tr pn xe) body (tb W)) :
    PS X (.Try body [keepH x n y xp np yp ap hp] [] [] pos) (fun D σ H => tb (wHold X.K c i j Wout D) D σ H) :=
  ⟨fun pins s σ H D I w => wpAny_Try_except (wpAny_mono ((hb (wHold X.K c i j Wout D) (X.pn ++ pins) _ (fun u s1 air => by
      obtain ⟨a, B, sI, p', τ, G, cls, d, rfl, J', nb, up, sky, na, os, ag, q⟩ := air
      have sky : Sky B (X.env :: X.outer) a (Zc cls d) X.env.locals s1.heap := by rw [← N.st]; exact sky
      refine Sky.land Zc.steady (by rw [I.ok.frames, N.st]) N.fr sky fun h3 f3 u3 => ?_
      exact hold_clause (s := { s1 with heap := h3 }) N hc hsw tk (J'.ofTry I.ok) nb (by rw [N.st]; exact f3) (up.trans u3) na os ag q) PassesOwn.looking).run [] s σ H D (I.toTry _) w)
    (fun f s1 e => match f, e with
      | .next, ⟨_, _, J, q⟩ => wpAny_execs_nil ⟨_, _, J.ofTry I.ok, q⟩
      | .brk, ⟨_, _, J, q⟩ => ⟨_, _, J.ofTry I.ok, q⟩
      | .cont, ⟨_, _, J, q⟩ => ⟨_, _, J.ofTry I.ok, q⟩
      | .ret _, ⟨_, _, _, J, r, q⟩ => ⟨_, _, _, J.ofTry I.ok, r, q⟩) fun _ _ z => z)⟩
end
end Pu

namespace Pu
open PySem PySem.Spec PyProof.Rows L2

/-! ### raise; try: .. except X as n: y = n; isinstance of what was caught -/
def subX (c n : String) : Bool := decide (c = n) || (decide (n = "RuleError") || decide (n = "ValueError"))
/-- an own class of exceptions -/
structure Xc (mg : Str → Option Value) (K : PySem.W.Frag) (c : String) (C : Addr) : Prop where
  gC : mg (Str.ofString c) = some (.ref C)
  nC : PySem.W.nsIn K mainGlobals (Str.ofString c) = some (some (.ref C))
  xC : PySem.W.excIn K C [.type "ValueError", .type "Exception", .type "BaseException", .type "object"] "ValueError.__new__" = true
  kC : PySem.W.keepIn K (.ref C) = true
  tC : PySem.W.typeIn K (.ref C) = some (.type "type")
  is : ExcC K C
def Xs (mg : Str → Option Value) (K : PySem.W.Frag) (R : Addr) (cs : List String) : Prop := mg (Str.ofString "RuleError") = some (.ref R) ∧ ∀ c ∈ cs, ∃ C, Xc mg K c C ∧ PySem.W.exmOne K (.ref C) (.ref R) = some true
structure Xn (mg : Str → Option Value) (K : PySem.W.Frag) (cs : List String) (n : String) (v : V) (cv : Value) : Prop where
  cls : ClsV v cv
  at_ : mg (Str.ofString n) = some cv ∨ (mg (Str.ofString n) = none ∧ bootBuiltins (Str.ofString n) = some cv)
  no : PySem.W.kitOne K (.type "NoneType") cv = some false
  ys : ∀ c ∈ cs, ∀ A, PySem.W.nsIn K mainGlobals (Str.ofString c) = some (some (.ref A)) → PySem.W.kitOne K (.ref A) cv = some (subX c n)
def sRaise (c : String) : Sx := fun env h => .exc c env h
def sTry (i j : Nat) (cs : List String) (b : Sx) : Sx := fun env h => match b env h with
  | .exc c env' h' => if c ∈ cs then .next ((env'.set j (some (.xc c))).set i none) h' else .stuck
  | r => r
def eIsX (cs ns : List String) (f : Ex) : Ex := fun env h => (f env h).bind fun d h1 => match d with
  | .xc c => if c ∈ cs then .ok (.bl (ns.any (subX c))) h1 else .stuck
  | .non => .ok (.bl false) h1
  | _ => .stuck
theorem relE_unset {K : PySem.W.Frag} {T : Tk} {H : Hp} {env : En} {σ : L2.St} (e : relE K T H env σ) (i : Nat) : relE K T H (env.set i none) (σ.set i none) := by
  refine ⟨by rw [List.length_set, List.length_set]; exact e.1, fun j d h => ?_⟩
  by_cases hj : i = j
  · subst hj
    by_cases hl : i < env.length
    · rw [List.getElem?_set_self hl] at h; cases h
    · rw [List.getElem?_eq_none (by rw [List.length_set]; omega)] at h; cases h
  · rw [List.getElem?_set_ne hj] at h ⊢
    exact e.2 j d h
theorem relE_gone {K : PySem.W.Frag} {T : Tk} {H : Hp} {env : En} {σ : L2.St} {i : Nat} {v : V} (e : relE K T H env (σ.set i (some v))) : relE K T H (env.set i none) (σ.set i none) := by
  have := relE_unset e i
  rwa [List.set_set] at this
section
variable {X : Cx} {W : WX} {k : Nat}
theorem ss_raise (C : Cok X W k) {c : String} {A : Addr} {x y : Str} {j : Nat} {p p2 pos pos2 : Pos} (f : Xc X.mg X.K c A) (hg : Gl X x) (hx : x = Str.ofString c := by rfl) (hdb : (x == ("__debug__" : Str)) = false := by decide) :
    SS X W (.Raise (some (.Call (.Name x p) [.Constant (.str y) j p2] [] pos)) none pos2) (sRaise c) := PS.mono (ps_raise C.calm C.tk (pmk_own PySem.F.excBase_ValueError f.xC (by rw [hx]; exact f.gC) f.kC (raises_own f.is.hs f.tC) hg hdb)) fun E σ H hh => by
  obtain ⟨T, env, h, r1, r2, a⟩ := hh
  exact a _ T H σ f.gC Le.refl r1 r2
theorem ss_try {cs : List String} {R : Addr} {x n y : Str} {i j : Nat} {body : List Stmt} {np np2 yp ap pos pos' : Pos} {f : Sx} (C : Cok X W k) (hN : X.N.Nodup) (F : Xs X.mg X.K R cs) (hg : Gl X x) (hi : X.N[i]? = some n) (hln : X.env.kindOf n = some .local) (hj : X.N[j]? = some y) (hly : X.env.kindOf y = some .local)
    (hb : ∀ (W : WX) (pn : List (Addr × Obj)) (xe : Value → Shared → Prop), Cok (X.tr pn xe) W k → SB (X.tr pn xe) W body f)
    (hx : x = Str.ofString "RuleError" := by rfl) (hs : X.stack = X.env :: X.outer := by rfl) (hf : X.env.frame = some X.env.locals := by rfl) (hex : X.ex = [] := by rfl) (hdb : (x == ("__debug__" : Str)) = false := by decide)
    (hd1 : (n == ("__debug__" : Str)) = false := by decide) (hd2 : (n == ("__classdict__" : Str)) = false := by decide) (hsw : swapsWith (.Name n np2) (some (.Name y yp)) ap.line X.env = pure false := by rfl) :
    SS X W (.Try body [.ExceptHandler (some (.Name x np)) (some n) [.Assign [.Name y yp] (.Name n np2) ap] pos'] [] [] pos) (sTry i j cs f) :=
  PS.mono (ps_try_hold (X := X) (c := .ref R) (tb := fun W' => rdSt X W' f) (Wout := W) ⟨hs, hf, hex, hN, hi, hln, hj, hly, hd1, hd2⟩ ⟨hg, hdb, .inl (by rw [hx]; exact F.1)⟩ hsw C.tk fun W' pn xe tk po => hb W' pn xe ⟨C.calm, tk, po, C.hr, C.gd⟩) fun E σ H hh => by
    obtain ⟨T, env, h, r1, r2, a⟩ := hh
    refine ⟨T, env, h, r1, r2, ?_⟩
    revert a
    unfold sTry
    cases f env h with
    | next env' h' => exact fun a => a
    | ret d h' => exact fun a => a
    | brk env' h' => exact fun a => a
    | cont env' h' => exact fun a => a
    | stuck => exact fun a => a
    | exc c env' h' =>
      dsimp only
      split
      · rename_i hc
        intro a C' T' H' σ' hm l rr re
        obtain ⟨A, xc, em⟩ := F.2 c hc
        have e := hm.symm.trans xc.gC
        cases e
        refine ⟨true, em, fun _ => ⟨rfl, fun b hbn => ?_⟩, fun z => by cases z⟩
        refine a T' (upd H' b (ExT (.ref A) b)) _ (l.trans r1.mut (Le.new hbn)) (rr.new hbn) ?_
        unfold heldAt
        have e1 := relE_mono (Le.new (o := ExT (.ref A) b) hbn) rr.mut re
        have rv : rel X.K T' (upd H' b (ExT (.ref A) b)) (.xc c) (.ref b) := by
          unfold rel
          exact ⟨b, .ref A, rfl, xc.nC, upd_same⟩
        have e2 := relE_set (relE_unset e1 i) rv j
        by_cases hij : i = j
        · subst hij
          have e3 := relE_unset e2 i
          simp only [List.set_set] at e3 ⊢
          exact e3
        · have e3 := relE_unset e2 i
          rw [List.set_comm _ _ hij] at e3
          rw [List.set_comm (l := σ') _ _ hij] at e3
          simp only [List.set_set] at e3
          rw [List.set_comm (l := σ') _ _ hij]
          simp only [List.set_set]
          exact e3
      · exact fun a => a.elim
/-- isinstance(e, c), e a caught exception -/
def rIsX (K : PySem.W.Frag) : List V → Hp → VK → Prop := fun xs H Q => ∃ (a A : Addr) (c : V) (cv : Value) (b : Bool), xs = [.ref a, c] ∧ H a = some (ExT (.ref A) a) ∧ ExcC K A ∧ ClsV c cv ∧ PySem.W.kitOne K (.ref A) cv = some b ∧ Q (.bl b) H
def rIsXT (K : PySem.W.Frag) : List V → Hp → VK → Prop := fun xs H Q => ∃ (a A tp : Addr) (cs : List V) (us : List Value) (b : Bool), xs = [.ref a, .ref tp] ∧ H tp = some (.tup cs) ∧ Paired ClsV cs us ∧ H a = some (ExT (.ref A) a) ∧ ExcC K A ∧ PySem.W.kitAny K (.ref A) us = some b ∧ Q (.bl b) H
theorem inst_of {pins : List (Addr × Obj)} {σ : L2.St} {H : Hp} {s : Shared} {a A : Addr} (I : Inv X pins σ H s) (e : H a = some (ExT (.ref A) a)) : ∃ oe, PySem.W.InstAt s.heap a oe A none := by
  obtain ⟨⟨oe, vs, hget, hz, hv⟩, _, _⟩ := (show ObjOk X.prog X.w H s.heap a (ExT (.ref A) a) from I.hok a _ e)
  obtain ⟨oc, od, oda, osl⟩ := oe
  obtain ⟨h1, h2⟩ := hz
  dsimp only at h1 h2 hv
  subst h1 h2 hv
  exact ⟨_, hget, rfl, rfl, trivial⟩
theorem call_isX : CallR X (.builtin "isinstance") (rIsX X.K) := by
  intro pins s σ H xs us Q I r h
  obtain ⟨a, A, c, cv, b, rfl, he, C, k, e, q⟩ := h
  obtain ⟨u1, u2, rfl, r1, r2⟩ := vals2 r
  cases (show u1 = Value.ref a from r1)
  have e2 := k.eq r2
  subst e2
  obtain ⟨oe, J⟩ := inst_of I he
  exact PySem.W.kia_one (PySem.W.handS_kitx_exc C.hg C.hk C.hs C.hd C.ha C.hn C.ht C.hm) I.kIn J e (fun z => nomatch z) fun tk => ⟨.bl b, H, I.tok tk, rfl, q⟩
theorem call_isXT : CallR X (.builtin "isinstance") (rIsXT X.K) := by
  intro pins s σ H xs us Q I r h
  obtain ⟨a, A, tp, cs, ws, b, rfl, hT, k, he, C, e, q⟩ := h
  obtain ⟨u1, u2, rfl, r1, r2⟩ := vals2 r
  cases (show u1 = Value.ref a from r1)
  cases (show u2 = Value.ref tp from r2)
  obtain ⟨oe, J⟩ := inst_of I he
  obtain ⟨_, its, rv, o, h1, h2, n, h3⟩ := (show ObjOk X.prog X.w H s.heap tp (.tup cs) from I.hok tp _ hT)
  have e3 := ClsV.all k rv
  subst e3
  obtain ⟨oc, od, dt, sl⟩ := o
  simp only at h2 h3
  subst h2 h3
  exact PySem.W.kia_tup (PySem.W.handS_kitx_exc C.hg C.hk C.hs C.hd C.ha C.hn C.ht C.hm) I.kIn J h1 e (fun z => nomatch z) fun tk => ⟨.bl b, H, I.tok tk, rfl, q⟩
theorem clsV_rel {v : V} {u : Value} (k : ClsV v u) : RelV v u := by cases k <;> rfl
theorem pe_cls {cs : List String} {n : String} {v : V} {cv : Value} {x : Str} {p : Pos} (N : Xn X.mg X.K cs n v cv) (hg : Gl X x) (hx : x = Str.ofString n := by rfl) (hn : x ≠ "__name__" := by decide) (hdb : (x == ("__debug__" : Str)) = false := by decide) : PE X (.Name x p) (tC v) := by
  rcases N.at_ with h | ⟨h1, h2⟩
  · exact pe_glob hg (by rw [hx]; exact h) (clsV_rel N.cls) hdb
  · exact pe_bltn hg (by rw [hx]; exact h1) (by rw [hx]; exact h2) (clsV_rel N.cls) hn hdb
/-- class names, one behind the other -/
def Xl (X : Cx) (cs : List String) (es : List Expr) (ns : List String) : Prop := ∃ vs us, PA X es (fun _ H Q => Q vs H) ∧ Paired ClsV vs us ∧ PySem.W.kitAny X.K (.type "NoneType") us = some false ∧
  (∀ c ∈ cs, ∀ A, PySem.W.nsIn X.K mainGlobals (Str.ofString c) = some (some (.ref A)) → PySem.W.kitAny X.K (.ref A) us = some (ns.any (subX c))) ∧ vs.length ≤ es.length
theorem xl_nil {cs : List String} : Xl X cs [] [] := ⟨[], [], PA.mono pa_nil fun _ _ _ h => h, .nil, rfl, fun _ _ _ _ => rfl, Nat.le_refl _⟩
theorem xl_cons {cs : List String} {n : String} {v : V} {cv : Value} {x : Str} {p : Pos} {es : List Expr} {ns : List String} (N : Xn X.mg X.K cs n v cv) (hg : Gl X x) (r : Xl X cs es ns) (hx : x = Str.ofString n := by rfl) (hn : x ≠ "__name__" := by decide) (hdb : (x == ("__debug__" : Str)) = false := by decide)
    (hs : starEach (.Name x p :: es) X.env = (false, eval (.Name x p) X.env) :: starEach es X.env := by rfl) : Xl X cs (.Name x p :: es) (n :: ns) := by
  obtain ⟨vs, us, pa, pd, k0, k1, hl⟩ := r
  refine ⟨v :: vs, cv :: us, PA.mono (pa_cons (pe_cls N hg hx hn hdb) pa hs) fun _ _ _ h => h, .cons N.cls pd, ?_, fun c hc A hA => ?_, by simp; omega⟩
  · exact kitAny_cons N.no (fun _ => k0) fun z => by cases z
  · have h1 := N.ys c hc A hA
    rw [List.any_cons]
    refine kitAny_cons h1 (fun z => ?_) fun z => by rw [z]; rfl
    rw [z, Bool.false_or]
    exact k1 c hc A hA
theorem se_isX {cs : List String} {R : Addr} {x n : Str} {nm : String} {v : V} {cv : Value} {e : Expr} {f : Ex} {p p2 pos : Pos} (F : Xs X.mg X.K R cs) (hg : Gl X x) (hm : X.mg x = none) (hv : bootBuiltins x = some (.builtin "isinstance")) (he : SE X W e f) (N : Xn X.mg X.K cs nm v cv) (hgn : Gl X n)
    (hx : n = Str.ofString nm := by rfl) (hn1 : n ≠ "__name__" := by decide) (hdb1 : (n == ("__debug__" : Str)) = false := by decide) (hn : x ≠ "__name__" := by decide) (hdb : (x == ("__debug__" : Str)) = false := by decide)
    (hs1 : starEach [e, .Name n p2] X.env = (false, eval e X.env) :: starEach [.Name n p2] X.env := by rfl) (hs2 : starEach [.Name n p2] X.env = (false, eval (.Name n p2) X.env) :: starEach [] X.env := by rfl) (hpl : (backTo pos (starEach [.Name n p2] X.env)).any (·.1) = false := by rfl) :
    SE X W (.Call (.Name x p) [e, .Name n p2] [] pos) (eIsX cs [nm] f) :=
  PE.mono (pe_callB (call_isX.or call_isi) hg hm hv (pa_cons he (pa_cons (pe_cls N hgn hx hn1 hdb1) pa_nil hs2) hs1) hn hdb hs1 hpl) fun σ H Q hh => by
    obtain ⟨T, env, h, r1, r2, a⟩ := hh
    refine ⟨T, env, h, r1, r2, a.bind r1.mut fun d h2 T2 H2 u _ l2 q2 ru a2 => ?_⟩
    revert a2
    split
    · rename_i c _
      split
      · rename_i hc
        intro a2
        obtain ⟨A, xc, _⟩ := F.2 c hc
        unfold rel at ru
        obtain ⟨b, C, rfl, e1, e2⟩ := ru
        rw [xc.nC] at e1
        cases e1
        refine .inl ⟨b, A, v, cv, _, rfl, e2, xc.is, N.cls, N.ys c hc A xc.nC, a2 T2 H2 _ Le.refl q2 (rel_bl_iff.mpr ?_)⟩
        simp
      · exact fun a2 => a2.elim
    · intro a2
      rw [rel_non_iff] at ru
      subst ru
      exact .inr ⟨.non, v, _, cv, false, rfl, N.cls, .base .non, N.no, a2 T2 H2 _ Le.refl q2 (rel_bl_iff.mpr rfl)⟩
    · exact fun a2 => a2.elim
theorem se_isXT {cs : List String} {R : Addr} {x : Str} {ns : List String} {es : List Expr} {e : Expr} {f : Ex} {x1} {p p2 pos : Pos} (F : Xs X.mg X.K R cs) (hg : Gl X x) (hm : X.mg x = none) (hv : bootBuiltins x = some (.builtin "isinstance")) (he : SE X W e f) (L : Xl X cs es ns)
    (hz : es.length ≤ 1000 := by decide) (hn : x ≠ "__name__" := by decide) (hdb : (x == ("__debug__" : Str)) = false := by decide)
    (hs1 : starEach [e, .Tuple es x1 p2] X.env = (false, eval e X.env) :: starEach [.Tuple es x1 p2] X.env := by rfl) (hs2 : starEach [.Tuple es x1 p2] X.env = (false, eval (.Tuple es x1 p2) X.env) :: starEach [] X.env := by rfl) (hpl : (backTo pos (starEach [.Tuple es x1 p2] X.env)).any (·.1) = false := by rfl) :
    SE X W (.Call (.Name x p) [e, .Tuple es x1 p2] [] pos) (eIsX cs ns f) := by
  obtain ⟨vs, us, pa, pd, k0, k1, hl⟩ := L
  refine PE.mono (pe_callB (call_isXT.or call_isiT) hg hm hv (pa_cons he (pa_cons (pe_tup pa) pa_nil hs2) hs1) hn hdb hs1 hpl) fun σ H Q hh => ?_
  obtain ⟨T, env, h, r1, r2, a⟩ := hh
  refine ⟨T, env, h, r1, r2, a.bind r1.mut fun d h2 T2 H2 u _ l2 q2 ru a2 => ?_⟩
  refine ⟨by rw [sizeLine_eq]; omega, fun tp htp => ?_⟩
  revert a2
  split
  · rename_i c _
    split
    · rename_i hc
      intro a2
      obtain ⟨A, xc, _⟩ := F.2 c hc
      unfold rel at ru
      obtain ⟨b, C, rfl, e1, e2⟩ := ru
      rw [xc.nC] at e1
      cases e1
      exact .inl ⟨b, A, tp, vs, us, _, rfl, upd_same, pd, by rw [upd_ne (ne_of_none e2 htp)]; exact e2, xc.is, k1 c hc A xc.nC, a2 T2 _ _ (Le.new htp) (q2.new htp) (rel_bl_iff.mpr rfl)⟩
    · exact fun a2 => a2.elim
  · intro a2
    rw [rel_non_iff] at ru
    subst ru
    exact .inr ⟨.non, tp, vs, _, us, false, rfl, upd_same, pd, .base .non, k0, a2 T2 _ _ (Le.new htp) (q2.new htp) (rel_bl_iff.mpr rfl)⟩
  · exact fun a2 => a2.elim
end
/-! ### facts of the classes -/
theorem xc_mk {K : PySem.W.Frag} {h : Heap} {mg : Str → Option Value} {c : String} {C : Addr} (X : K.In h) (G : h.Ns mainGlobals mg) (n : PySem.W.nsIn K mainGlobals (Str.ofString c) = some (some (.ref C)))
    (x : PySem.W.excIn K C [.type "ValueError", .type "Exception", .type "BaseException", .type "object"] "ValueError.__new__" = true) (k : PySem.W.keepIn K (.ref C) = true) (t : PySem.W.typeIn K (.ref C) = some (.type "type")) (is : ExcC K C) : Xc mg K c C :=
  ⟨PySem.W.mg_of X G n, n, x, k, t, is⟩
theorem xs_nil {mg : Str → Option Value} {K : PySem.W.Frag} {R : Addr} (h : mg (Str.ofString "RuleError") = some (.ref R)) : Xs mg K R [] := ⟨h, fun c hc => nomatch hc⟩
theorem xs_cons {mg : Str → Option Value} {K : PySem.W.Frag} {R C : Addr} {c : String} {cs : List String} (x : Xc mg K c C) (e : PySem.W.exmOne K (.ref C) (.ref R) = some true) (r : Xs mg K R cs) : Xs mg K R (c :: cs) := ⟨r.1, fun d hd => by
  rcases List.mem_cons.mp hd with rfl | hd
  · exact ⟨C, x, e⟩
  · exact r.2 d hd⟩
def Ys (K : PySem.W.Frag) (cs : List String) (n : String) (cv : Value) : Prop := ∀ c ∈ cs, ∀ A, PySem.W.nsIn K mainGlobals (Str.ofString c) = some (some (.ref A)) → PySem.W.kitOne K (.ref A) cv = some (subX c n)
theorem ys_nil {K : PySem.W.Frag} {n : String} {cv : Value} : Ys K [] n cv := fun c hc => nomatch hc
theorem ys_cons {K : PySem.W.Frag} {n c : String} {cv : Value} {C : Addr} {b : Bool} {cs : List String} (e : PySem.W.nsIn K mainGlobals (Str.ofString c) = some (some (.ref C))) (k : PySem.W.kitOne K (.ref C) cv = some b) (r : Ys K cs n cv) (hb : b = subX c n := by decide) : Ys K (c :: cs) n cv := fun d hd A hA => by
  rcases List.mem_cons.mp hd with rfl | hd
  · rw [e] at hA
    cases hA
    rw [← hb]; exact k
  · exact r d hd A hA
theorem kit_ref {K : PySem.W.Frag} {t : Value} {B : Addr} {b : Bool} (h1 : PySem.W.isClsIn K B = true) (h2 : PySem.W.typeIn K (.ref B) = some (.type "type")) (h3 : PySem.W.subIn K t (.ref B) = some b) (hn : b = false → (t == .ref B) = false) : PySem.W.kitOne K t (.ref B) = some b := by
  unfold PySem.W.kitOne
  split
  · rename_i h
    cases b with
    | true => rfl
    | false => rw [hn rfl] at h; cases h
  · show (if ((PySem.W.clsIn K B).isSome && PySem.W.typeIn K (.ref B) == some (.type "type")) = true then PySem.W.subIn K t (.ref B) else none) = some b
    have h1 : (PySem.W.clsIn K B).isSome = true := h1
    rw [h1, h2, if_pos (by rfl)]
    exact h3
theorem kit_val {K : PySem.W.Frag} {A : Addr} (h : PySem.W.subIn K (.ref A) (.type "ValueError") = some true) : PySem.W.kitOne K (.ref A) (.type "ValueError") = some true := by
  unfold PySem.W.kitOne
  rw [if_neg (fun z => by cases (beq_iff_eq.mp z))]
  show (if PySem.W.kitMeta "ValueError" = true then PySem.W.subIn K (.ref A) (.type "ValueError") else none) = some true
  rw [if_pos (by decide +kernel)]
  exact h
theorem xn_own {K : PySem.W.Frag} {h : Heap} {mg : Str → Option Value} {cs : List String} {n : String} {B : Addr} (X : K.In h) (G : h.Ns mainGlobals mg) (e : PySem.W.nsIn K mainGlobals (Str.ofString n) = some (some (.ref B))) (h1 : PySem.W.isClsIn K B = true) (h2 : PySem.W.typeIn K (.ref B) = some (.type "type"))
    (h3 : PySem.W.subIn K (.type "NoneType") (.ref B) = some false) (y : Ys K cs n (.ref B)) : Xn mg K cs n (.ref B) (.ref B) :=
  ⟨.own B, .inl (PySem.W.mg_of X G e), kit_ref h1 h2 h3 fun _ => rfl, y⟩
theorem xn_val {K : PySem.W.Frag} {h : Heap} {mg : Str → Option Value} {cs : List String} (X : K.In h) (G : h.Ns mainGlobals mg) (e : PySem.W.nsIn K mainGlobals (Str.ofString "ValueError") = some none) (y : Ys K cs "ValueError" (.type "ValueError")) : Xn mg K cs "ValueError" (.ty "ValueError") (.type "ValueError") :=
  ⟨.ty "ValueError", .inr ⟨PySem.W.mg_none_of X G e, rfl⟩, kit_ty (by decide +kernel), y⟩
theorem ref_ne {A B : Addr} (h : (A == B) = false) : (Value.ref A == Value.ref B) = false := by
  rw [Bool.eq_false_iff]
  intro z
  cases (beq_iff_eq.mp z)
  rw [beq_self_eq_true] at h
  cases h
/-! ### what these come to -/
def Wx (cs ns : List String) (q : D → HH → Prop) (d : D) (h : HH) : Prop := match d with
  | .xc c => c ∈ cs ∧ q (.bl (ns.any (subX c))) h
  | .non => q (.bl false) h
  | _ => False
section
variable {q : D → HH → Prop} {e : String → HH → Prop} {h : HH} {env : En} {f : Ex} {K : Ks} {cs ns : List String} {c : String} {i j k : Nat}
@[simp] theorem wx_xc : Wx cs ns q (.xc c) h ↔ c ∈ cs ∧ q (.bl (ns.any (subX c))) h := Iff.rfl
@[simp] theorem wx_non : Wx cs ns q .non h ↔ q (.bl false) h := Iff.rfl
@[simp ↓] theorem wp_eIsX : Wp q e (eIsX cs ns f env h) ↔ Wp (fun d h1 => Wx cs ns q d h1) e (f env h) := by
  unfold eIsX
  rw [wp_bind]
  refine wp_congr fun d h1 => ?_
  cases d with
  | xc c =>
    show Wp q e (if c ∈ cs then .ok (.bl (ns.any (subX c))) h1 else .stuck) ↔ _
    rw [wp_if]; rfl
  | _ => exact Iff.rfl
@[simp ↓] theorem wb_sRaise : Wb K (sRaise c env h) ↔ K.ex c h := Iff.rfl
@[simp ↓] theorem wb_sTrySet : Wb K (sTry i j cs (sSet k f) env h) ↔ Wp (fun d h1 => K.nx (env.set k (some d)) h1) (fun c h1 => c ∈ cs ∧ K.nx ((env.set j (some (.xc c))).set i none) h1) (f env h) := by
  unfold sTry sSet
  cases f env h with
  | ok d h1 => exact Iff.rfl
  | stuck => exact Iff.rfl
  | exc c h1 =>
    show Wb K (if c ∈ cs then .next ((env.set j (some (.xc c))).set i none) h1 else .stuck) ↔ c ∈ cs ∧ _
    rw [wb_ite]
    by_cases hc : c ∈ cs <;> simp [hc]
@[simp ↓] theorem wb_sTryEx : Wb K (sTry i j cs (sEx f) env h) ↔ Wp (fun _ h1 => K.nx env h1) (fun c h1 => c ∈ cs ∧ K.nx ((env.set j (some (.xc c))).set i none) h1) (f env h) := by
  unfold sTry sEx
  cases f env h with
  | ok d h1 => exact Iff.rfl
  | stuck => exact Iff.rfl
  | exc c h1 =>
    show Wb K (if c ∈ cs then .next ((env.set j (some (.xc c))).set i none) h1 else .stuck) ↔ c ∈ cs ∧ _
    rw [wb_ite]
    by_cases hc : c ∈ cs <;> simp [hc]
end
end Pu

namespace Pu
open PySem PySem.Spec PyProof.Rows L2

/-! ### fillings: names, what they stand for; deeds filled -/
def bxF (g : Ky → Int) : Ky → Int
  | .inl i => i
  | .inr s => g (.inr s)
abbrev gNm (g : Ky → Int) : String → Int := fun s => g (.inr s)
def fillP (g : Ky → Int) (top : Int) : Pd → Pd
  | .w1 w a => .w1 w (.inl (bxF g a))
  | .wn w a n => .wn w (.inl (bxF g a)) (.num (n.wo (gNm g) % top))
  | .wb w a b => .wb w (.inl (bxF g a)) (.inl (bxF g b))
  | .cond a d => .cond (.inl (bxF g a)) (fillP g top d)
/-- a filling as told: pairs -/
def filD (ks : List Ky) (g : Ky → Int) : D := .tup (ks.map fun k => .tup [kD k, .int (g k)])
/-- and as a dict -/
abbrev givD (ks : List Ky) (g : Ky → Int) : D := .dic (tb ks fun k => .int (g k))
theorem dict_filD {ks : List Ky} {g : Ky → Int} {h : HH} (nd : ks.Nodup) : dictX h [filD ks g] = some (tb ks fun k => .int (g k)) := by
  unfold filD
  rw [dictX_t, pairsD_tb, Option.map_some, tb_mer nd]
namespace Pt
theorem cf_b {s : String} : ∀ p : Pt, ok p → -(2 ^ ht p : Nat) ≤ cf s p ∧ cf s p ≤ (2 ^ ht p : Nat)
  | .num i, _ => by simp [cf, ht]
  | .nm t, _ => by
    simp only [cf, ht]
    split <;> simp
  | .bin w a b, o => by
    have h1 := cf_b (s := s) a o.2.1
    have h2 := cf_b (s := s) b o.2.2
    have h3 : 2 ^ ht a ≤ 2 ^ max (ht a) (ht b) := Nat.pow_le_pow_right (by decide) (by omega)
    have h4 : 2 ^ ht b ≤ 2 ^ max (ht a) (ht b) := Nat.pow_le_pow_right (by decide) (by omega)
    simp only [cf, ht, Nat.pow_succ]
    split <;> omega
theorem cf_names {s : String} : ∀ p : Pt, cf s p ≠ 0 → s ∈ names p
  | .num i, h => by simp [cf] at h
  | .nm t, h => by
    simp only [cf] at h
    split at h
    · rename_i e
      simp [names, e]
    · simp at h
  | .bin w a b, h => by
    simp only [cf] at h
    rw [names, List.mem_append]
    by_cases h1 : cf s a = 0
    · by_cases h2 : cf s b = 0
      · rw [h1, h2] at h
        split at h <;> simp at h
      · exact .inr (cf_names b h2)
    · exact .inl (cf_names a h1)
end Pt
/-- the deed's parts stand among the names -/
def ptIn (ks : List Ky) : PtK → Prop
  | .inl k => isSK k = true → k ∈ ks
  | .inr n => ∀ s ∈ n.names, Sum.inr s ∈ ks
def deedIn (ks : List Ky) (d : Pd) : Prop := ∀ p ∈ ptsP d, ptIn ks p
/-- written rows: boxes, numbers -/
def wrD : D → Bool
  | .int _ => true
  | .str _ => true
  | _ => false
end Pu

namespace Pu
open PySem PySem.Spec PyProof.Rows L2
open Builtin
section
variable {prog : Program} {w : World} {A : Around} {E : Value → Shared → Prop} {s : Shared}
theorem next_rg {it : Addr} {x left step : Int} {Q : Value → Shared → Prop} (hit : IsRangeIter s.heap it x left step) (hleft : 0 < left)
    (hQ : ∀ h', IsRangeIter h' it (x + step) (left - 1) step → Heap.SameBut it s.heap h' → Q (.int x s.toks) { s with heap := h', toks := s.toks + 1 }) :
    wpAny (model prog w) A (Builtin.SmallTypes.nextOf (.ref it)) Q E s := by
  have hT : s.TypeIs (.ref it) "range_iterator" := ⟨_, hit, rfl⟩
  unfold Builtin.SmallTypes.nextOf
  refine wpAny_bind (wpAny_callSpecial?_slot hT F.slot_range_iterator_next (call_meets F.slot_range_iterator_next hT F.entry_range_iterator_next (F.args_range_iterator_next_1 _) (AutoRange.range_iterator___next___range_iterator_1 it x left step (by omega)) ⟨hit, ?_⟩))
  exact wpAny_pure (hQ _ (Heap.get?_update_self _ (Heap.get?_update_self _ hit rfl) rfl) ((Heap.SameBut.update ..).trans (Heap.SameBut.update ..)))
theorem next_rg_end {it : Addr} {x left step : Int} {Q : Value → Shared → Prop} (hh : A.handled = none) (hit : IsRangeIter s.heap it x left step) (hleft : left ≤ 0)
    (hE : ∀ h' e, Heap.ExtBut it s.heap h' → (∃ o, h'.get? e = some o ∧ o.cls = .type "StopIteration") → E (.ref e) { s with heap := h' }) :
    wpAny (model prog w) A (Builtin.SmallTypes.nextOf (.ref it)) Q E s := by
  have hT : s.TypeIs (.ref it) "range_iterator" := ⟨_, hit, rfl⟩
  unfold Builtin.SmallTypes.nextOf
  refine wpAny_bind (wpAny_callSpecial?_slot hT F.slot_range_iterator_next (wpAny_call_entry F.slot_range_iterator_next hT F.entry_range_iterator_next ?_ (F.args_range_iterator_next_1 _)))
  unfold Builtin.«range_iterator.__next__»
  wp_walk
  unfold raiseNew
  refine wpAny_bind (wpAny_handled ?_)
  rw [show A.in1.handled = none from hh]
  refine wpAny_bind (wpAny_pure (wpAny_throw (hE _ _ ?_ ⟨_, Heap.get?_push_size _ rfl, rfl⟩)))
  exact ((Heap.ExtBut.refl it s.heap).push _).push _
end
theorem draws_rg {prog : Program} {w : World} {A : Around} (hh : A.handled = none) (it : Addr) (a c : Int) (n : Nat) :
    PySem.Draws prog w A it [it] n (fun i v => ∃ t, v = .int (a + (i : Nat) * c) t) (fun i h => IsRangeIter h it (a + (i : Nat) * c) ((n : Int) - (i : Nat)) c) where
  live := fun _ _ st => ⟨_, st⟩
  frame := fun _ _ _ st k => k it (by simp) _ st
  item := fun i s Q E hi st q => next_rg st (by omega) fun h' e sb => q _ h' _ ⟨_, rfl⟩ (by
    have e1 : a + ((i + 1 : Nat) : Int) * c = a + (i : Nat) * c + c := by
      rw [Int.natCast_add, Int.add_mul]
      simp [Int.add_assoc]
    have e2 : (n : Int) - ((i + 1 : Nat) : Int) = (n : Int) - (i : Nat) - 1 := by omega
    rw [e1, e2]
    exact e) sb
  done := fun s Q E st e => next_rg_end hh st (by omega) e
theorem begins_rg (r : Addr) (a b c : Int) (t u v : Tok) (hs : Builtin.Range.small a b c = true) : Begins (.ref r) { cls := .type "range_iterator", data := .fields #[rawInt a, rawInt (Builtin.Range.rangeSize a b c), rawInt c] } fun h => IsRange h r a b c t u v where
  iter := fun prog w A E s Q x h => wpAny_pyIter_range x hs h
  keeps := fun h h' x k => k _ _ x
  free := rfl
/-! ### zip of a tuple and a range -/
def ItzR (K : PySem.W.Frag) (a : Addr) (lo : Int) (n m : Nat) : It :=
  ⟨fun i H => ∃ (xs : List V) (c : V), SqT K H a xs ∧ xs.length = n ∧ xs[i]? = some c ∧ i < m,
    fun i H v H' => ∃ T c, v = .ref T ∧ H T = none ∧ H' = upd H T (.tup [c, .int (lo + (i : Nat))]) ∧ ∀ xs, SqT K H a xs → xs[i]? = some c,
    fun i H => ∃ xs : List V, SqT K H a xs ∧ xs.length = n ∧ (n ≤ i ∨ m ≤ i)⟩
theorem turn_zipR {P : Program} {w : World} {K : PySem.W.Frag} {elts : List Expr} {kk : Nat} {tpos : Pos} {a z TI TO i1 i2 : Addr} {lo : Int} {n m : Nat} (D : ZipSep2 z TI TO i1 i2 [i1, a] [i2]) (hb1 : a ≠ i1) :
    Turn P w K (.Tuple elts kk tpos) (ItzR K a lo n m) [z, TI, TO, i1, i2] z (fun i h => IsZip h z TI TO .none ∧ IsTupOf2 h TI (.ref i1) (.ref i2) ∧ (∃ x y, IsTupOf2 h TO x y) ∧ h.IsTupleIter i1 a i ∧ IsRangeIter h i2 (lo + (i : Nat) * 1) ((m : Int) - (i : Nat)) 1 ∧ i ≤ n ∧ i ≤ m) where
  mem := by simp
  obj := fun i h st c hc => by
    obtain ⟨hz, hTI, ⟨x, y, hTO⟩, ⟨o1, e1, _, d1⟩, h2, _⟩ := st
    have e' : c = z ∨ c = TI ∨ c = TO ∨ c = i1 ∨ c = i2 := by simpa using hc
    rcases e' with q | q | q | q | q
    · rw [q]; exact ⟨_, hz, fun v q => nomatch q⟩
    · rw [q]; exact ⟨_, hTI, fun v q => nomatch q⟩
    · rw [q]; exact ⟨_, hTO, fun v q => nomatch q⟩
    · rw [q]; exact ⟨o1, e1, fun v q => by rw [d1] at q; cases q⟩
    · rw [q]; exact ⟨_, h2, fun v q => nomatch q⟩
  keep := fun i h h' st k => by
    obtain ⟨hz, hTI, ⟨x, y, hTO⟩, h1, h2, hl⟩ := st
    exact ⟨k z (by simp) _ hz, k TI (by simp) _ hTI, ⟨x, y, k TO (by simp) _ hTO⟩, h1.at fun o q => k i1 (by simp) o q, k i2 (by simp) _ h2, hl⟩
  item := by
    intro X hP hw hK hc i pins s σ H E I hf st hg
    subst hP hw hK
    obtain ⟨hz, hTI, ⟨x0, y0, hTO⟩, h1, h2, hl1, hl2⟩ := st
    obtain ⟨xs, c, hqx, hn, hx, hm⟩ := hg
    obtain ⟨its1, rv1, p1, _⟩ := I.tuple hqx
    obtain ⟨u1, hu1, ru1⟩ := rv1.get hx
    have hzl : z < s.heap.objs.size := Heap.lt_size hz
    have hh : X.A.in1.handled = none := I.ok.hd hc
    have hi1 : i < its1.toArray.size := by
      have := (List.getElem?_eq_some_iff.mp hu1).1
      simpa using this
    refine wpAny_pyNext_zipD2_item D (Draws.tuple (prog := X.prog) (w := X.w) hh i1 a hb1 its1.toArray) (draws_rg (prog := X.prog) (w := X.w) hh i2 lo 1 m) hz hTI hTO ⟨h1, p1⟩ h2 hi1 hm fun x1 x2 h' tk P1 P2 z' TO' st1 st2 hT hsz hk => ?_
    have e1 : x1 = u1 := by
      have h3 : its1[i]? = some x1 := by simpa using P1
      rw [hu1] at h3; exact (Option.some.inj h3).symm
    subst e1
    obtain ⟨t, rfl⟩ := P2
    refine ⟨_, rfl, wpAny_letOwnedTupleGo_zip (s := { s with heap := h', toks := tk }) z' fun h'' z'' sb => ?_⟩
    have hT2 : h''.get? s.heap.objs.size = some { cls := .type "tuple", data := .seq #[x1, .int (lo + (i : Nat) * 1) t] } := (sb.2 _ (Nat.ne_of_gt hzl)).trans hT
    have new : ObjOk X.prog X.w (upd H s.heap.objs.size (.tup [c, .int (lo + (i : Nat))])) h'' s.heap.objs.size (.tup [c, .int (lo + (i : Nat))]) :=
      ⟨by show 2 ≤ sizeLine; decide, [x1, .int (lo + (i : Nat) * 1) t], .cons ru1 (.cons ⟨t, by rw [Int.mul_one]⟩ .nil), ⟨_, hT2, rfl, _, rfl⟩⟩
    have I1 : Inv X pins σ (upd H s.heap.objs.size (.tup [c, .int (lo + (i : Nat))])) { s with heap := h'', toks := tk } :=
      I.turnedNew (t' := tk) (ch := [z, TI, TO, i1, i2]) (fun c o hb q => (sb.2 c (fun q' => hb (by simp [q']))).trans (hk c o (fun q' => hb (by simp [q'])) (fun q' => hb (by simp [q'])) (fun q' => hb (by simp [q'])) (fun q' => hb (by simp [q'])) q)) hf (Nat.le_refl _) new
    have i1z : i1 ≠ z := fun e => D.zf1 (by rw [← e]; simp)
    have i2z : i2 ≠ z := fun e => D.zf2 (by rw [← e]; simp)
    refine ⟨.ref s.heap.objs.size, _, I1, rfl, ⟨_, c, rfl, I.hok.fresh (Nat.le_refl _), rfl, fun l hl => by rw [I.tuple_inj hl hqx]; exact hx⟩, ⟨z'', ?_, ⟨x1, .int (lo + (i : Nat) * 1) t, ?_⟩, ?_, ?_, ?_, hm⟩, fun c hcm => ?_⟩
    · exact (sb.2 _ D.TIz).trans (hk _ _ D.TIz D.TITO D.TIi1 D.TIi2 hTI)
    · exact (sb.2 _ D.TOz).trans TO'
    · exact st1.1.at fun o q => (sb.2 _ i1z).trans q
    · exact (sb.2 _ i2z).trans st2
    · have := rv1.length
      simp at hi1
      omega
    · have hlt : c < s.heap.objs.size := by
        have e' : c = z ∨ c = TI ∨ c = TO ∨ c = i1 ∨ c = i2 := by simpa using hcm
        rcases e' with q | q | q | q | q
        · rw [q]; exact hzl
        · rw [q]; exact Heap.lt_size hTI
        · rw [q]; exact Heap.lt_size hTO
        · rw [q]; obtain ⟨_, e1, _⟩ := h1; exact Heap.lt_size e1
        · rw [q]; exact Heap.lt_size h2
      rw [upd_ne (Nat.ne_of_lt hlt)]
      exact (hf c hcm).1
  done := by
    intro X hP hw hK hc i pins s σ H E I hf st hg
    subst hP hw hK
    obtain ⟨hz, hTI, ⟨x0, y0, hTO⟩, h1, h2, hl1, hl2⟩ := st
    obtain ⟨xs, hqx, hn, hend⟩ := hg
    obtain ⟨its1, rv1, p1, _⟩ := I.tuple hqx
    have l1 := rv1.length
    have hh : X.A.in1.handled = none := I.ok.hd hc
    exact wpAny_pyNext_zipD2_end D (Draws.tuple (prog := X.prog) (w := X.w) hh i1 a hb1 its1.toArray) (draws_rg (prog := X.prog) (w := X.w) hh i2 lo 1 m) hz hTI hTO ⟨h1, p1⟩ h2 (by simp; omega) (by omega) (by simp; omega) fun h' tk hk => ⟨rfl, I.turnedL (t' := tk) (ch := [z, TI, TO, i1, i2]) (fun c o hb q =>
      hk c o (fun q' => hb (by simp [q'])) (fun q' => hb (by simp [q'])) (fun q' => hb (by simp [q'])) (fun q' => hb (by simp [q'])) q) hf⟩
  self := fun A i s Q E st h => wpAny_pyIter_zip st.1 h
def iZipR0 (K : PySem.W.Frag) (ta : TA) : TI := fun σ H R => ta σ H fun vs H1 => ∃ a r xs lo hi, vs = [.ref a, .ref r] ∧ SqT K H1 a xs ∧ H1 r = some (.rng lo hi) ∧ (-(2 ^ 62) ≤ lo ∧ lo < 2 ^ 62 ∧ -(2 ^ 62) ≤ hi ∧ hi < 2 ^ 62) ∧ R (ItzR K a lo xs.length (hi - lo).toNat) H1
theorem pi_zipR {X : Cx} {e e2 : Expr} {ta : TA} {p pos tpos : Pos} {elts : List Expr} {kk : Nat} (hg : Gl X "zip") (hm : X.mg "zip" = none) (ha : PA X [e, e2] ta)
    (hs : starEach [e, e2] X.env = (false, eval e X.env) :: starEach [e2] X.env := by rfl) (hpl : (backTo pos (starEach [e2] X.env)).any (·.1) = false := by rfl) :
    PI X (.Tuple elts kk tpos) (.Call (.Name "zip" p) [e, e2] [] pos) (iZipR0 X.K ta) := by
  refine ⟨fun pins s σ H R I h => ?_⟩
  refine Call_ (ld_blt I hg hm PyProof.Rows.boot_zip (PyProof.Rows.callWith_type1 (thn (ha.run pos pins s σ H _ I h) fun us s1 ⟨vs, H1, I1, r1, q1⟩ => ?_) hs hpl))
  obtain ⟨a, r, xs, lo, hi, ex, hqx, hr, ⟨b1, b2, b3, b4⟩, q⟩ := q1
  subst ex
  cases r1 with
  | cons r1 rr =>
    cases rr with
    | cons r1' rr =>
      cases rr
      cases r1
      cases r1'
      have fresh5 : ∀ c, c ∈ [s1.heap.objs.size + 4, s1.heap.objs.size + 2, s1.heap.objs.size + 3, s1.heap.objs.size, s1.heap.objs.size + 1] → FpOk X pins H1 c := fun c hcm => by
        have e' : c = s1.heap.objs.size + 4 ∨ c = s1.heap.objs.size + 2 ∨ c = s1.heap.objs.size + 3 ∨ c = s1.heap.objs.size ∨ c = s1.heap.objs.size + 1 := by simpa using hcm
        have hle : s1.heap.objs.size ≤ c := by omega
        exact I1.fpOk hle (I1.hok.fresh hle)
      obtain ⟨its1, rv1, p1, _⟩ := I1.tuple hqx
      obtain ⟨t, u, v, ho⟩ := I1.hok r _ hr
      have hal : a < s1.heap.objs.size := by obtain ⟨_, q, _⟩ := id p1; exact Heap.lt_size q
      refine zip_begins2 (begins_tuple a its1.toArray) (begins_rg r lo hi 1 t u v (PySem.small_one b1 b2 b3 b4)) p1 ho fun h' hz hTI hTO h1 h2 hsz hk => wpAny_pyIter_zip hz ?_
      have I2 : Inv X pins σ H1 { s1 with heap := h' } := I1.kept (t' := s1.toks) hk
      refine ⟨s1.heap.objs.size + 4, [s1.heap.objs.size + 4, s1.heap.objs.size + 2, s1.heap.objs.size + 3, s1.heap.objs.size, s1.heap.objs.size + 1], _, _, H1, rfl, I2,
        turn_zipR (zip_sep2 (fp1 := [a]) (fp2 := []) (fun c h => by rw [List.mem_singleton.mp h]; exact hal) (fun c h => by cases h)) (Nat.ne_of_lt hal),
        ⟨hz, hTI, ⟨_, _, hTO⟩, ⟨_, h1, rfl, rfl⟩, ?_, Nat.zero_le _, Nat.zero_le _⟩, fresh5, q⟩
      rw [show lo + ((0 : Nat) : Int) * 1 = lo by simp, show (((hi - lo).toNat : Nat) : Int) - ((0 : Nat) : Int) = Builtin.Range.rangeSize lo hi 1 by rw [PyProof.Rows.rangeSize_nat]; simp]
      exact h2
def iZipR (f : Ex) (g : Exs) : Ei := fun env h => (f env h).bind fun d h1 => (g env h1).bind fun es h2 => match d, es with
  | .tup xs, [.int i, .int j] => if (inB i && inB j) = true then .ok ⟨zipD xs (intsL i (j - i).toNat), []⟩ h2 else .stuck
  | _, _ => .stuck
section
variable {X : Cx} {W : WX}
theorem wk_zipR {K : PySem.W.Frag} {a : Addr} {lo : Int} {n m : Nat} : Walk (ItzR K a lo n m) (min n m) (fun H => ∃ vs, vs.length = n ∧ SqT K H a vs)
    (fun i H v H' => ∃ T x, v = .ref T ∧ H T = none ∧ H' = upd H T (.tup [x, .int (lo + (i : Nat))]) ∧ ∀ xs, SqT K H a xs → xs[i]? = some x) :=
  ⟨fun i _ hi ⟨vs, e, q⟩ => ⟨vs, vs[i]'(by omega), q, e, List.getElem?_eq_getElem _, by omega⟩,
    fun _ ⟨vs, e, q⟩ => ⟨vs, q, e, by omega⟩, fun _ _ _ _ _ _ y => y⟩
theorem si_zipR {e1 a b : Expr} {f : Ex} {g : Exs} {p p2 pos pos2 tpos : Pos} {elts : List Expr} {kk : Nat} (hg : Gl X "zip") (hm : X.mg "zip" = none) (hg2 : Gl X "range") (hm2 : X.mg "range" = none) (he : SE X W e1 f) (ha : SA X W [a, b] g)
    (hs : starEach [e1, .Call (.Name "range" p2) [a, b] [] pos2] X.env = (false, eval e1 X.env) :: starEach [.Call (.Name "range" p2) [a, b] [] pos2] X.env := by rfl) (hpl : (backTo pos (starEach [.Call (.Name "range" p2) [a, b] [] pos2] X.env)).any (·.1) = false := by rfl)
    (hs1 : starEach [.Call (.Name "range" p2) [a, b] [] pos2] X.env = (false, eval (.Call (.Name "range" p2) [a, b] [] pos2) X.env) :: starEach [] X.env := by rfl)
    (hs2 : starEach [a, b] X.env = (false, eval a X.env) :: starEach [b] X.env := by rfl) (hpl2 : (backTo pos2 (starEach [b] X.env)).any (·.1) = false := by rfl) :
    SI X W (.Tuple elts kk tpos) (.Call (.Name "zip" p) [e1, .Call (.Name "range" p2) [a, b] [] pos2] [] pos) (iZipR f g) := by
  refine PI.mono (pi_zipR hg hm (pa_cons he (pa_cons (pe_callTy cr_range2 hg2 hm2 boot_range ha.pa (by decide) (by decide) hs2 hpl2) pa_nil hs1) hs) hs hpl) fun σ H R hh => ?_
  obtain ⟨T, env, h, r1, r2, A⟩ := hh
  refine ⟨T, env, h, r1, r2, A.bind r1.mut fun d h1 T1 H1 v e l1 q1 rv A1 => ?_⟩
  refine ⟨T1, env, h1, q1, relE_mono l1 r1.mut r2, A1.bind q1.mut fun ds h2 T2 H2 vs e' l2 q2 rvs A2 => ?_⟩
  split at A2
  · rename_i xs i j
    split at A2
    · rename_i hb
      rw [Bool.and_eq_true] at hb
      obtain ⟨v1, v2, rfl, w1, w2⟩ := rels_two rvs
      rw [rel_int_iff] at w1 w2
      subst w1 w2
      refine ⟨i, j, rfl, fun r hr => ?_⟩
      have A3 := A2.later (Le.new (o := .rng i j) hr) q2.mut
      have q3 := q2.new (o := .rng i j) hr
      have rv2 := rel_mono (l2.trans q1.mut (Le.new (o := .rng i j) hr)) q1.mut _ _ rv
      obtain ⟨p1, rfl, s1⟩ := tup_stay q3 rv2
      obtain ⟨vs1, t1, w3⟩ := s1 T2 _ Le.refl
      have hl1 : vs1.length = xs.length := rels_length w3
      refine ⟨p1, r, vs1, i, j, rfl, t1, upd_same, ⟨(inB_iff hb.1).1, (inB_iff hb.1).2, (inB_iff hb.2).1, (inB_iff hb.2).2⟩, A3.done q3 ?_⟩
      have hil : (intsL i (j - i).toNat).length = (j - i).toNat := by unfold intsL; simp
      refine ⟨_, _, by rw [zipD_len, ← hl1, hil]; exact wk_zipR, fun T3 H3 h3 l3 r3 hc => ?_, fun k H3 x H' hi y T3 h3 l3 r3 hc => ?_⟩
      · obtain ⟨ws1, t1, r1⟩ := s1 T3 H3 l3
        exact ⟨ws1, by rw [rels_length r1, hl1], t1⟩
      · obtain ⟨ws1, t1, w1⟩ := s1 T3 H3 l3
        obtain ⟨T', x', rfl, hp, rfl, y1⟩ := y
        obtain ⟨d1, g1, k1⟩ := rels_back w1 (y1 _ t1)
        rw [zipD_len, hil] at hi
        have g2 : (intsL i (j - i).toNat)[k]? = some (.int (i + (k : Nat))) := by
          unfold intsL
          rw [List.getElem?_map, List.getElem?_range (by omega)]
          rfl
        obtain ⟨z1, z2, z3⟩ := Le.tup r3 hp (rels_cons k1 (rels_cons (rel_int_iff.mpr rfl) rels_nil)) rfl
        exact ⟨_, zipD_get g1 g2, z1, z2, z3⟩
    · exact A2.elim
  · exact A2.elim
end
section
variable {f : Ex} {g : Exs} {env : En} {h : HH} {e : String → HH → Prop} {qi : IT → HH → Prop}
def zpR (d : D) (es : List D) : Option IT := match d, es with
  | .tup xs, [.int i, .int j] => if (inB i && inB j) = true then some ⟨zipD xs (intsL i (j - i).toNat), []⟩ else none
  | _, _ => none
@[simp ↓] theorem wp_iZipR : Wp qi e (iZipR f g env h) ↔ Wp (fun d h1 => Wp (fun es h2 => Wo (fun x => qi x h2) (zpR d es)) e (g env h1)) e (f env h) := by
  unfold iZipR
  rw [wp_bind]
  refine wp_congr fun d h1 => ?_
  rw [wp_bind]
  refine wp_congr fun es h2 => ?_
  unfold zpR
  split
  · split
    · exact Iff.rfl
    · exact Iff.rfl
  · exact Iff.rfl
end
end Pu

namespace Pu
open PySem PySem.Spec PyProof.Rows L2

/-! ### for k in d, d a dict that changes: it stands still while the loop runs -/
def unS (j : Nat) (kvs : List (Ky × D)) : S → S
  | .next env h => .next env (h.set j (.dic kvs))
  | .ret d h => .ret d (h.set j (.dic kvs))
  | .brk env h => .brk env (h.set j (.dic kvs))
  | .cont env h => .cont env (h.set j (.dic kvs))
  | .exc c env h => .exc c env h
  | .stuck => .stuck
def sForD (i : Nat) (g : Tg) (fb : Sx) : Sx := fun env h => match env[i]? with
  | some (some (.ref j)) => match h[j]? with
    | some (.dic kvs) => unS j kvs (forGo [] g fb (kvs.map fun p => kD p.1) env (h.set j (.lkd kvs)))
    | _ => .stuck
  | _ => .stuck
section
variable {K : PySem.W.Frag} {mg : Str → Option Value} {W : WX} {T T' : Tk} {H H' : Hp} {h : HH}
theorem Le.unlk {d : Addr} {od : Obj} {vs : List (Key × V)} (l : Le T (upd H d (.frz od (.dK vs))) T' H') (hd : H d = some (.dK vs)) (hl : d ∈ T.L) : Le T H T' (upd H' d (.dK vs)) := by
  have ne : ∀ a, a ≠ d → upd H d (.frz od (.dK vs)) a = H a := fun a n => upd_ne n
  have free : ∀ a, upd H d (.frz od (.dK vs)) a = none → H a = none := fun a e => by
    by_cases z : a = d
    · rw [z, upd_same] at e; cases e
    · rwa [ne a z] at e
  refine ⟨l.pre, l.more, fun a q => (l.fresh a q).imp id (free a), fun a q => (l.freshL a q).imp id (free a), fun a o e n ht => ?_, fun a ps e n => ?_, l.tq, fun a q xs e => ?_⟩
  · have z : a ≠ d := fun z => n (z ▸ hl)
    rw [upd_ne z]
    exact l.keep a o (by rw [ne a z]; exact e) n ht
  · have z : a ≠ d := fun z => n (z ▸ hl)
    rw [upd_ne z]
    exact l.kt a ps (by rw [ne a z]; exact e) n
  · have z : a ≠ d := fun z => by rw [z, hd] at e; cases e
    rw [upd_ne z]
    exact l.lk a q xs (by rw [ne a z]; exact e)
/-- the ends of what runs while d stands still -/
def lkE (d : Addr) (od : Obj) (u : HO) (D : Ends) : Ends :=
  ⟨fun σ' H' => H' d = some (.frz od u) ∧ D.nx σ' (upd H' d u), fun v H' => H' d = some (.frz od u) ∧ D.rt v (upd H' d u), fun σ' H' => H' d = some (.frz od u) ∧ D.bk σ' (upd H' d u), fun σ' H' => H' d = some (.frz od u) ∧ D.ct σ' (upd H' d u)⟩
theorem unS_after {E : Ends} {j : Nat} {kvs : List (Ky × D)} {s : S} {d : Addr} {od : Obj} {vs : List (Key × V)} (a : AfterS K mg W T H E (unS j kvs s)) (m : Mu T H) (hd : H d = some (.dK vs)) (hj : T.L[j]? = some d) (rk : relk K T H kvs vs) :
    AfterS K mg W T (upd H d (.frz od (.dK vs))) (lkE d od (.dK vs) E) s := by
  have hl : d ∈ T.L := List.mem_of_getElem? hj
  have st : ∀ {T' H'}, Le T (upd H d (.frz od (.dK vs))) T' H' → H' d = some (.frz od (.dK vs)) := fun l => l.lk d od vs upd_same
  have rh : ∀ {T' H' h'}, Le T (upd H d (.frz od (.dK vs))) T' H' → RelH K T' H' h' → RelH K T' (upd H' d (.dK vs)) (h'.set j (.dic kvs)) := fun l r =>
    r.wr (l.get hj) LD.dK ⟨vs, upd_same, relk_mono (l.unlk hd hl) m _ _ rk⟩
  have bl : ∀ {T' H' h'}, Le T (upd H d (.frz od (.dK vs))) T' H' → RelH K T' H' h' → T'.B d := fun l r => r.sub d (List.mem_of_getElem? (l.get hj))
  cases s with
  | next env h' => exact fun T' H' σ l r e => ⟨st l, a T' _ σ (l.unlk hd hl) (rh l r) (relE_bw r.mut (bl l r) e)⟩
  | brk env h' => exact fun T' H' σ l r e => ⟨st l, a T' _ σ (l.unlk hd hl) (rh l r) (relE_bw r.mut (bl l r) e)⟩
  | cont env h' => exact fun T' H' σ l r e => ⟨st l, a T' _ σ (l.unlk hd hl) (rh l r) (relE_bw r.mut (bl l r) e)⟩
  | ret x h' => exact fun T' H' v l r q => ⟨st l, a T' _ v (l.unlk hd hl) (rh l r) (rel_bw r.mut (bl l r) x v q)⟩
  | exc c env h' => exact fun C T' H' σ hm l r e => a C T' H' σ hm ((Le.wr hl (by intro _ _ z; rw [hd] at z; cases z)).trans m l) r e
  | stuck => exact a
theorem rel_kD (k : Ky) : rel K T H (kD k) (toV k) := by
  cases k with
  | inl i => exact rel_int_iff.mpr rfl
  | inr s => unfold kD rel; rfl
end
section
variable {X : Cx} {W : WX} {k : Nat}
theorem ss_forD (C : Cok X W k) {tg : Expr} {x : Str} {i : Nat} {body : List Stmt} {g : Tg} {fb : Sx} {vs : List Nat} {p pos : Pos} (hN : X.N[i]? = some x) (hv : Vis X.env.scope x) (hg : SG X tg vs g) (hb : SB X W body fb)
    (hs : ∀ y, foldedSetIterable (.Name x p) X.env y = pure y := by intro _; rfl) (hd : (x == ("__debug__" : Str)) = false := by decide) (hcd : (x == ("__classdict__" : Str)) = false := by decide) :
    SS X W (.For tg (.Name x p) body [] pos) (sForD i g fb) := PS.mono (ps_lock (ps_for C.po C.calm (pi_keys (pe_var hN hv hd hcd)) hg hb hs)) fun E σ H hh => by
  obtain ⟨T, env, h, r1, r2, a⟩ := hh
  unfold sForD at a
  split at a
  · rename_i j e1
    split at a
    · rename_i kvs e2
      obtain ⟨v, e3, q⟩ := r2.2 i _ e1
      unfold rel at q
      obtain ⟨d, rfl, hj⟩ := q
      obtain ⟨d', hj', ks, hd, rk⟩ := r1.at_ j _ e2
      rw [hj] at hj'
      cases hj'
      have hl : d ∈ T.L := List.mem_of_getElem? hj
      have nf : ∀ q xs, H d ≠ some (.frz q (.dK xs)) := by intro _ _ z; rw [hd] at z; cases z
      refine ⟨d, .dK ks, hd, trivial, fun od => ?_⟩
      have b := unS_after (od := od) a r1.mut hd hj rk
      have lw : Le T H T (upd H d (.frz od (.dK ks))) := Le.wr hl nf
      have rw1 : RelH X.K T (upd H d (.frz od (.dK ks))) (h.set j (.lkd kvs)) := r1.wr hj LD.lk ⟨ks, ⟨od, upd_same⟩, relk_mono lw r1.mut _ _ rk⟩
      have kl : (kvs.map fun p => kD p.1).length = ks.length := by rw [List.length_map, relk_length rk]
      refine ⟨.ref d, e3, d, od, rfl, .inl ⟨ks, upd_same, ?_⟩⟩
      refine for_it walk_keys (fun i σ H2 => ∃ T2 env2 h2, RelH X.K T2 H2 h2 ∧ relE X.K T2 H2 env2 σ ∧ Le T (upd H d (.frz od (.dK ks))) T2 H2 ∧ AfterS X.K X.mg W T2 H2 (lkE d od (.dK ks) E) (forGo [] g fb ((kvs.map fun p => kD p.1).drop i) env2 h2)) ?_ ?_ ?_ ?_
      · exact ⟨T, env, _, rw1, relE_mono lw r1.mut r2, Le.refl, by rw [List.drop_zero]; exact b⟩
      · rintro i σ H hi ⟨T2, env2, h2, r, e, l, a⟩
        exact l.lk d od ks upd_same
      · rintro i x σ H2 H3 hi ⟨T2, env2, h2, r, e, l, a⟩ ⟨rfl, k, v, hk, rfl⟩
        have hi2 : i < (kvs.map fun p => kD p.1).length := by rw [kl]; exact hi
        rw [List.drop_eq_getElem_cons hi2] at a
        unfold forGo at a
        rw [if_pos (show chkOk h2 [] = true from rfl)] at a
        obtain ⟨env1, e1, a⟩ := a.ofOS
        have hik : i < kvs.length := by rw [List.length_map] at hi2; exact hi2
        have ek : kV k = toV kvs[i].1 := by
          have := congrArg (fun l => l[i]?) (relk_keys rk)
          simp only [List.getElem?_map, hk, Option.map_some, List.getElem?_eq_getElem hik] at this
          exact Option.some.inj this
        have rd : rel X.K T2 H3 (kvs.map fun p => kD p.1)[i] (kV k) := by
          rw [List.getElem_map, ek]; exact rel_kD _
        refine ⟨T2, env2, h2, _, env1, r, e, rd, e1, fun σ' r3 _ => ⟨T2, env1, h2, r, r3, ?_⟩⟩
        revert a
        cases fb env1 h2 with
        | next env' h' => exact fun a T' H2 σ2 l4 r4 e4 => ⟨T', env', h', r4, e4, l.trans rw1.mut l4, AfterS.later (r := forGo [] g fb ((kvs.map fun p => kD p.1).drop (i + 1)) env' h') a l4 r.mut⟩
        | cont env' h' => exact fun a T' H2 σ2 l4 r4 e4 => ⟨T', env', h', r4, e4, l.trans rw1.mut l4, AfterS.later (r := forGo [] g fb ((kvs.map fun p => kD p.1).drop (i + 1)) env' h') a l4 r.mut⟩
        | brk env' h' => exact fun a => a
        | ret d h' => exact fun a => a
        | exc c env' h' => exact fun a => a
        | stuck => exact fun a => a
      · rintro σ H2 ⟨T2, env2, h2, r, e, l, a⟩
        rw [← kl, List.drop_length] at a
        unfold forGo at a
        rw [if_pos (show chkOk h2 [] = true from rfl)] at a
        exact a.next r e
    · exact a.elim
  · exact a.elim
end
/-! ### what it comes to -/
def Kun (j : Nat) (kvs : List (Ky × D)) (K : Ks) : Ks := ⟨fun env h => K.nx env (h.set j (.dic kvs)), fun d h => K.rt d (h.set j (.dic kvs)), fun env h => K.bk env (h.set j (.dic kvs)), fun env h => K.ct env (h.set j (.dic kvs)), K.ex⟩
theorem wb_unS {j : Nat} {kvs : List (Ky × D)} {K : Ks} {s : S} : Wb K (unS j kvs s) ↔ Wb (Kun j kvs K) s := by cases s <;> exact Iff.rfl
theorem wb_sForD {i j : Nat} {g : Tg} {fb : Sx} {env : En} {h : HH} {kvs : List (Ky × D)} {K : Ks} (e1 : env[i]? = some (some (.ref j))) (e2 : h[j]? = some (.dic kvs)) :
    Wb K (sForD i g fb env h) ↔ Wb (Kun j kvs K) (forGo [] g fb (kvs.map fun p => kD p.1) env (h.set j (.lkd kvs))) := by
  unfold sForD
  rw [e1]
  dsimp only
  rw [e2]
  exact wb_unS
/-- told behind, or an exception ahead of all that is made -/
theorem wp_fE {F : Fn} {ds : List D} {h : HH} {Q : D → HH → Prop} {E : String → HH → Prop} (hh : h.all (clO 0) = true) (w : Wp (FzP h Q) (fun c h' => h' = h ∧ E c h) (F ds h)) : Wp Q E (fzF F ds h) := by
  revert w
  unfold fzF
  cases F ds h with
  | ok d h' =>
    rintro ⟨h1, g, rfl, hl, hp, hd, q⟩
    have ht : (h1 ++ g).take h.length = h1 := by rw [List.take_append_of_le_length (by omega), ← hl, List.take_length]
    have w := wp_of (q := Q) (e := E) (fzF_pure (F := fun _ _ => .ok d (h1 ++ g)) (ds := ds) rfl hl hp hd) q
    unfold fzF at w
    exact w
  | exc c h' =>
    rintro ⟨rfl, q⟩
    dsimp only
    rw [if_pos ⟨Nat.le_refl _, by rw [List.take_length]; exact all_pure hh⟩, List.take_length]
    exact q
  | stuck => exact fun w => w
end Pu

namespace K21
open PySem PySem.Spec PyProof.Rows L2 Pu
def topS (i : Nat) : Stmt := PySem.Challenge.pw_rowlets_k21_rules_that_are_not_plain.main.body.getD i (.Pass ⟨0, 0, 0, 0⟩)
structure Bt (mg : Str → Option Value) : Prop where
  abs : mg "abs" = none
  all : mg "all" = none
  any : mg "any" = none
  bool : mg "bool" = none
  dict : mg "dict" = none
  int : mg "int" = none
  isinstance : mg "isinstance" = none
  len : mg "len" = none
  list : mg "list" = none
  max : mg "max" = none
  range : mg "range" = none
  sorted : mg "sorted" = none
  str : mg "str" = none
  tuple : mg "tuple" = none
  zip : mg "zip" = none
@[reducible] def kv_KINDS : List (String × D) := [("put", (D.str "bn")), ("copy", (D.str "bb")), ("sum", (D.str "bb")), ("more", (D.str "bn")), ("less", (D.str "bb")), ("turn", (D.str "b")), ("left", (D.str "b")), ("right", (D.str "b")), ("part", (D.str "bb"))]
abbrev xcs : List String := ["NoFit", "NotPlain"]
abbrev st_box_place : Stmt := topS 18
theorem sc_box_place : FnScope ["part"] ["part"] (defScope st_box_place) := ⟨rfl, rfl, rfl, by decide +kernel, rfl, by decide +kernel, by decide +kernel⟩
def b_box_place : Sx := (sRet (eM cS mSIdx (eC (D.str "0123ABCD")) (aCons (eCall cStr (aCons (eV 0) aNil)) aNil)))
def r_box_place : Fn := runF 1 (b_box_place)
theorem d_box_place {P : Program} {w : World} {K : PySem.W.Frag} {mg : Str → Option Value} {base : Heap} {k : Nat} (B : Bt mg) {f : Addr} {fd : FuncData} (F : Fun K "box_place" "box_place" st_box_place f fd) (Cn_BOXES_AND_NAMES : Cn mg K "BOXES_AND_NAMES" (D.str "0123ABCD")) : FnG P w K mg base (k + 1) f fd ["part"] (r_box_place) :=
  fnG_of F sc_box_place fun cdv A outer s H E C => by
  unfold b_box_place
  exact (sb_one (ss_ret (se_mS PySem.F.slot_str_index PySem.F.type_str_index m_sidx (Cn_BOXES_AND_NAMES.se rfl) (sa_cons (se_callTy c_str rfl B.str bt_str (sa_cons (se_var (i := 0) rfl (Or.inl rfl)) sa_nil)) sa_nil))))
abbrev st_form : Stmt := topS 19
theorem sc_form : FnScope ["part", "one", "other", "name", "first", "second"] ["part"] (defScope st_form) := ⟨rfl, rfl, rfl, by decide +kernel, rfl, by decide +kernel, by decide +kernel⟩
def b_form (c_form : Fn) : Sx := (sSeq (sIf (tV (eCall cIsi (aCons (eV 0) (aCons (eC (D.ty "str")) aNil)))) (sRet (eOp opAdd (eTup (aCons (eC (D.int 0)) aNil)) (eCall cTup (aCons (eVal (fLc (iSeq (eC (D.tup [(D.str "k"), (D.str "l"), (D.str "m"), (D.str "n")]))) (gN 3) tYesD (eCall cInt (aCons (eOp opEq (eV 0) (eV 3)) aNil)) [3])) aNil)))) sNil)
  (sSeq (sIf (tNotP (tV (eCall cIsi (aCons (eV 0) (aCons (eC (D.ty "tuple")) aNil))))) (sRet (eTup (aCons (eV 0) (aCons (eC (D.int 0)) (aCons (eC (D.int 0)) (aCons (eC (D.int 0)) (aCons (eC (D.int 0)) aNil))))))) sNil)
  (sSeq (sSet 1 (eFn c_form (aCons (eOp opIxA (eV 0) (eC (D.int 1))) aNil)))
  (sSeq (sSet 2 (eFn c_form (aCons (eOp opIxA (eV 0) (eC (D.int 2))) aNil)))
  (sSeq (sIf (tB (eOp opEq (eOp opIxA (eV 0) (eC (D.int 0))) (eC (D.str "plus")))) (sRet (eCall cTup (aCons (eVal (fLc (iZipY (aCons (eV 1) (aCons (eV 2) aNil))) (gT 2 (gsCons (gN 4) (gsCons (gN 5) gsNil'))) tYesD (eOp opAdd (eV 4) (eV 5)) [4, 5])) aNil))) sNil)
  (sRet (eCall cTup (aCons (eVal (fLc (iZipY (aCons (eV 1) (aCons (eV 2) aNil))) (gT 2 (gsCons (gN 4) (gsCons (gN 5) gsNil'))) tYesD (eOp opSub (eV 4) (eV 5)) [4, 5])) aNil))))))))
def r_form (c_form : Fn) : Fn := runF 6 (b_form c_form)
theorem d_form {P : Program} {w : World} {K : PySem.W.Frag} {mg : Str → Option Value} {base : Heap} {k : Nat} (B : Bt mg) {f : Addr} {fd : FuncData} (F : Fun K "form" "form" st_form f fd) {c_form : Fn} (T_form : Fd K mg "form" ["part"] st_form f fd) (G_form : FnG P w K mg base k f fd ["part"] c_form) (Cn_NUMBER_NAMES : Cn mg K "NUMBER_NAMES" (D.tup [(D.str "k"), (D.str "l"), (D.str "m"), (D.str "n")])) : FnG P w K mg base (k + 1) f fd ["part"] (r_form c_form) :=
  fnG_of F sc_form fun cdv A outer s H E C => by
  unfold b_form
  exact (sb_cons (ss_if (st_val (se_callB c_isi rfl B.isinstance bt_isinstance (sa_cons (se_var (i := 0) rfl (Or.inr (Or.inl rfl))) (sa_cons (se_ty rfl B.str bt_str) sa_nil)))) (sb_one (ss_ret (se_op o_add (se_tup (sa_cons se_int sa_nil)) (se_callTy c_tup rfl B.tuple bt_tuple (sa_cons (se_val (sf_lc C (own := [("name", 3)]) sc_form.nd (si_seq (Cn_NUMBER_NAMES.se rfl)) (blkOk_by (N := ["part", "one", "other", "name", "first", "second"]) (sc := defScope st_form) (own := [("name", 3)]) (by decide +kernel)) (fun s1 H1 A1 cl1 fp1 => (sg_name (i := 3) sc_form.nd rfl (Or.inl rfl))) (fun s1 H1 A1 cl1 fp1 => spt_nil) (fun s1 H1 A1 cl1 fp1 => have C1 := C.blk s1 H1 _ _ fp1; (se_callTy c_int rfl B.int bt_int (sa_cons (se_cmp (o_eq C1.hu65) (se_var (i := 0) rfl (Or.inr (Or.inl rfl))) (se_var (i := 3) rfl (Or.inl rfl))) sa_nil))))) sa_nil))))) sb_nil)
    (sb_cons (ss_if (st_not (st_val (se_callB c_isi rfl B.isinstance bt_isinstance (sa_cons (se_var (i := 0) rfl (Or.inr (Or.inl rfl))) (sa_cons (se_ty rfl B.tuple bt_tuple) sa_nil))))) (sb_one (ss_ret (se_tup (sa_cons (se_var (i := 0) rfl (Or.inr (Or.inl rfl))) (sa_cons se_int (sa_cons se_int (sa_cons se_int (sa_cons se_int sa_nil)))))))) sb_nil)
    (sb_cons (ss_set (i := 1) sc_form.nd rfl (Or.inl rfl) (se_fn C G_form (Nat.le_refl _) rfl T_form.mg T_form.fu.kp T_form.bi (sa_cons (se_ixA C (se_var (i := 0) rfl (Or.inr (Or.inl rfl))) se_int) sa_nil)))
    (sb_cons (ss_set (i := 2) sc_form.nd rfl (Or.inl rfl) (se_fn C G_form (Nat.le_refl _) rfl T_form.mg T_form.fu.kp T_form.bi (sa_cons (se_ixA C (se_var (i := 0) rfl (Or.inr (Or.inl rfl))) se_int) sa_nil)))
    (sb_cons (ss_if (st_cmp (o_eq C.hu65) (se_ixA C (se_var (i := 0) rfl (Or.inr (Or.inl rfl))) se_int) (se_str (x := "plus"))) (sb_one (ss_ret (se_callTy c_tup rfl B.tuple bt_tuple (sa_cons (se_val (sf_lc C (own := [("first", 4), ("second", 5)]) sc_form.nd (si_zipY rfl B.zip (sa_cons (se_var (i := 1) rfl (Or.inl rfl)) (sa_cons (se_var (i := 2) rfl (Or.inl rfl)) sa_nil))) (blkOk_by (N := ["part", "one", "other", "name", "first", "second"]) (sc := defScope st_form) (own := [("first", 4), ("second", 5)]) (by decide +kernel)) (fun s1 H1 A1 cl1 fp1 => (sg_tup rfl (sgs_cons (sg_name (i := 4) sc_form.nd rfl (Or.inl rfl)) (sgs_cons (sg_name (i := 5) sc_form.nd rfl (Or.inl rfl)) sgs_nil)))) (fun s1 H1 A1 cl1 fp1 => spt_nil) (fun s1 H1 A1 cl1 fp1 => (se_op o_add (se_var (i := 4) rfl (Or.inl rfl)) (se_var (i := 5) rfl (Or.inl rfl)))))) sa_nil)))) sb_nil)
    (sb_one (ss_ret (se_callTy c_tup rfl B.tuple bt_tuple (sa_cons (se_val (sf_lc C (own := [("first", 4), ("second", 5)]) sc_form.nd (si_zipY rfl B.zip (sa_cons (se_var (i := 1) rfl (Or.inl rfl)) (sa_cons (se_var (i := 2) rfl (Or.inl rfl)) sa_nil))) (blkOk_by (N := ["part", "one", "other", "name", "first", "second"]) (sc := defScope st_form) (own := [("first", 4), ("second", 5)]) (by decide +kernel)) (fun s1 H1 A1 cl1 fp1 => (sg_tup rfl (sgs_cons (sg_name (i := 4) sc_form.nd rfl (Or.inl rfl)) (sgs_cons (sg_name (i := 5) sc_form.nd rfl (Or.inl rfl)) sgs_nil)))) (fun s1 H1 A1 cl1 fp1 => spt_nil) (fun s1 H1 A1 cl1 fp1 => (se_op o_sub (se_var (i := 4) rfl (Or.inl rfl)) (se_var (i := 5) rfl (Or.inl rfl)))))) sa_nil)))))))))
abbrev st_parts_in : Stmt := topS 22
theorem sc_parts_in : FnScope ["deed", "kind", "part"] ["deed"] (defScope st_parts_in) := ⟨rfl, rfl, rfl, by decide +kernel, rfl, by decide +kernel, by decide +kernel⟩
def b_parts_in (c_parts_in : Fn) : Sx := (sSeq (sIf (tB (eOp opEq (eOp opIxA (eV 0) (eC (D.int 0))) (eC (D.str "if")))) (sRet (eOp opAdd (eVal (aCons (eTup (aCons (eC (D.str "b")) (aCons (eOp opIxA (eV 0) (eC (D.int 1))) aNil))) aNil)) (eFn c_parts_in (aCons (eOp opIxA (eV 0) (eC (D.int 2))) aNil)))) sNil)
  (sRet (eVal (fLc (iZipY (aCons (eUn (kGet kv_KINDS) (eOp opIxA (eV 0) (eC (D.int 0)))) (aCons (eSl (eV 0) (oSo (eC (D.int 1))) oNo) aNil))) (gT 2 (gsCons (gN 1) (gsCons (gN 2) gsNil'))) tYesD (eTup (aCons (eV 1) (aCons (eV 2) aNil))) [1, 2]))))
def r_parts_in (c_parts_in : Fn) : Fn := runF 3 (b_parts_in c_parts_in)
theorem d_parts_in {P : Program} {w : World} {K : PySem.W.Frag} {mg : Str → Option Value} {base : Heap} {k : Nat} (B : Bt mg) {f : Addr} {fd : FuncData} (F : Fun K "parts_in" "parts_in" st_parts_in f fd) {c_parts_in : Fn} (T_parts_in : Fd K mg "parts_in" ["deed"] st_parts_in f fd) (G_parts_in : FnG P w K mg base k f fd ["deed"] c_parts_in) (KD_KINDS : KCn K w mg "KINDS" kv_KINDS) : FnG P w K mg base (k + 1) f fd ["deed"] (r_parts_in c_parts_in) :=
  fnG_of F sc_parts_in fun cdv A outer s H E C => by
  unfold b_parts_in
  exact (sb_cons (ss_if (st_cmp (o_eq C.hu65) (se_ixA C (se_var (i := 0) rfl (Or.inl rfl)) se_int) (se_str (x := "if"))) (sb_one (ss_ret (se_op o_add (se_val (sf_lst (sa_cons (se_tup (sa_cons (se_str (x := "b")) (sa_cons (se_ixA C (se_var (i := 0) rfl (Or.inl rfl)) se_int) sa_nil))) sa_nil))) (se_fn C G_parts_in (Nat.le_refl _) rfl T_parts_in.mg T_parts_in.fu.kp T_parts_in.bi (sa_cons (se_ixA C (se_var (i := 0) rfl (Or.inl rfl)) se_int) sa_nil))))) sb_nil)
    (sb_one (ss_ret (se_val (sf_lc C (own := [("kind", 1), ("part", 2)]) sc_parts_in.nd (si_zipY rfl B.zip (sa_cons (se_kget KD_KINDS rfl (se_ixA C (se_var (i := 0) rfl (Or.inl rfl)) se_int)) (sa_cons (se_sl (se_var (i := 0) rfl (Or.inl rfl)) (so_so se_int) so_no) sa_nil))) (blkOk_by (N := ["deed", "kind", "part"]) (sc := defScope st_parts_in) (own := [("kind", 1), ("part", 2)]) (by decide +kernel)) (fun s1 H1 A1 cl1 fp1 => (sg_tup rfl (sgs_cons (sg_name (i := 1) sc_parts_in.nd rfl (Or.inl rfl)) (sgs_cons (sg_name (i := 2) sc_parts_in.nd rfl (Or.inl rfl)) sgs_nil)))) (fun s1 H1 A1 cl1 fp1 => spt_nil) (fun s1 H1 A1 cl1 fp1 => (se_tup (sa_cons (se_var (i := 1) rfl (Or.inl rfl)) (sa_cons (se_var (i := 2) rfl (Or.inl rfl)) sa_nil)))))))))
abbrev st_all_parts_in : Stmt := topS 23
theorem sc_all_parts_in : FnScope ["pattern", "found", "deed"] ["pattern"] (defScope st_all_parts_in) := ⟨rfl, rfl, rfl, by decide +kernel, rfl, by decide +kernel, by decide +kernel⟩
def b_all_parts_in (c_parts_in : Fn) : Sx := (sSeq (sSet 1 (eNew aNil))
  (sSeq (sFor (iSeq (eV 0)) (gN 2) (sEx (eM cL mExt (eV 1) (aCons (eFn c_parts_in (aCons (eV 2) aNil)) aNil))))
  (sRet (eV 1))))
def r_all_parts_in (c_parts_in : Fn) : Fn := runF 3 (b_all_parts_in c_parts_in)
theorem d_all_parts_in {P : Program} {w : World} {K : PySem.W.Frag} {mg : Str → Option Value} {base : Heap} {k : Nat} (B : Bt mg) {f : Addr} {fd : FuncData} (F : Fun K "all_parts_in" "all_parts_in" st_all_parts_in f fd) {f_parts_in : Addr} {fd_parts_in : FuncData} {c_parts_in : Fn} (T_parts_in : Fd K mg "parts_in" ["deed"] st_parts_in f_parts_in fd_parts_in) (G_parts_in : FnG P w K mg base k f_parts_in fd_parts_in ["deed"] c_parts_in) : FnG P w K mg base (k + 1) f fd ["pattern"] (r_all_parts_in c_parts_in) :=
  fnG_of F sc_all_parts_in fun cdv A outer s H E C => by
  unfold b_all_parts_in
  exact (sb_cons (ss_set (i := 1) sc_all_parts_in.nd rfl (Or.inl rfl) (se_new (sf_lst sa_nil)))
    (sb_cons (ss_for C (si_seq (se_var (i := 0) rfl (Or.inl rfl))) (sg_name (i := 2) sc_all_parts_in.nd rfl (Or.inl rfl)) (sb_one (ss_ex (se_mL PySem.F.slot_list_extend PySem.F.type_list_extend m_ext (se_var (i := 1) rfl (Or.inl rfl)) (sa_cons (se_fn C G_parts_in (Nat.le_refl _) rfl T_parts_in.mg T_parts_in.fu.kp T_parts_in.bi (sa_cons (se_var (i := 2) rfl (Or.inl rfl)) sa_nil)) sa_nil)))))
    (sb_one (ss_ret (se_var (i := 1) rfl (Or.inl rfl))))))
abbrev st_words_in : Stmt := topS 24
theorem sc_words_in : FnScope ["deed"] ["deed"] (defScope st_words_in) := ⟨rfl, rfl, rfl, by decide +kernel, rfl, by decide +kernel, by decide +kernel⟩
def b_words_in (c_words_in : Fn) : Sx := (sSeq (sIf (tB (eOp opEq (eOp opIxA (eV 0) (eC (D.int 0))) (eC (D.str "if")))) (sRet (eOp opAdd (eVal (aCons (eC (D.str "if")) aNil)) (eFn c_words_in (aCons (eOp opIxA (eV 0) (eC (D.int 2))) aNil)))) sNil)
  (sRet (eVal (aCons (eOp opIxA (eV 0) (eC (D.int 0))) aNil))))
def r_words_in (c_words_in : Fn) : Fn := runF 1 (b_words_in c_words_in)
theorem d_words_in {P : Program} {w : World} {K : PySem.W.Frag} {mg : Str → Option Value} {base : Heap} {k : Nat} (B : Bt mg) {f : Addr} {fd : FuncData} (F : Fun K "words_in" "words_in" st_words_in f fd) {c_words_in : Fn} (T_words_in : Fd K mg "words_in" ["deed"] st_words_in f fd) (G_words_in : FnG P w K mg base k f fd ["deed"] c_words_in) : FnG P w K mg base (k + 1) f fd ["deed"] (r_words_in c_words_in) :=
  fnG_of F sc_words_in fun cdv A outer s H E C => by
  unfold b_words_in
  exact (sb_cons (ss_if (st_cmp (o_eq C.hu65) (se_ixA C (se_var (i := 0) rfl (Or.inl rfl)) se_int) (se_str (x := "if"))) (sb_one (ss_ret (se_op o_add (se_val (sf_lst (sa_cons (se_str (x := "if")) sa_nil))) (se_fn C G_words_in (Nat.le_refl _) rfl T_words_in.mg T_words_in.fu.kp T_words_in.bi (sa_cons (se_ixA C (se_var (i := 0) rfl (Or.inl rfl)) se_int) sa_nil))))) sb_nil)
    (sb_one (ss_ret (se_val (sf_lst (sa_cons (se_ixA C (se_var (i := 0) rfl (Or.inl rfl)) se_int) sa_nil))))))
abbrev st_box_parts : Stmt := topS 25
theorem sc_box_parts : FnScope ["pattern", "found", "kind", "part"] ["pattern"] (defScope st_box_parts) := ⟨rfl, rfl, rfl, by decide +kernel, rfl, by decide +kernel, by decide +kernel⟩
def b_box_parts (c_all_parts_in : Fn) (c_box_place : Fn) : Sx := (sSeq (sSet 1 (eDicN []))
  (sSeq (sFor (iSeq (eFn c_all_parts_in (aCons (eV 0) aNil))) (gT 2 (gsCons (gN 2) (gsCons (gN 3) gsNil'))) (sIf (tB (eOp opEq (eV 2) (eC (D.str "b")))) (sPut (eV 1) (eV 3) (eC (D.bl true))) sNil))
  (sRet (eCall cTup (aCons (eVal (fSortK c_box_place (aCons (eVal (fCall cLstX (aCons (eV 1) aNil))) aNil))) aNil)))))
def r_box_parts (c_all_parts_in : Fn) (c_box_place : Fn) : Fn := runF 4 (b_box_parts c_all_parts_in c_box_place)
theorem d_box_parts {P : Program} {w : World} {K : PySem.W.Frag} {mg : Str → Option Value} {base : Heap} {k : Nat} (B : Bt mg) {f : Addr} {fd : FuncData} (F : Fun K "box_parts" "box_parts" st_box_parts f fd) {f_all_parts_in : Addr} {fd_all_parts_in : FuncData} {c_all_parts_in : Fn} (T_all_parts_in : Fd K mg "all_parts_in" ["pattern"] st_all_parts_in f_all_parts_in fd_all_parts_in) (G_all_parts_in : FnG P w K mg base k f_all_parts_in fd_all_parts_in ["pattern"] c_all_parts_in) {f_box_place : Addr} {fd_box_place : FuncData} {c_box_place : Fn} (T_box_place : Fd K mg "box_place" ["part"] st_box_place f_box_place fd_box_place) (G_box_place : FnG P w K mg base (k - 2) f_box_place fd_box_place ["part"] c_box_place) (two : 2 ≤ k) : FnG P w K mg base (k + 1) f fd ["pattern"] (r_box_parts c_all_parts_in c_box_place) :=
  fnG_of F sc_box_parts fun cdv A outer s H E C => by
  unfold b_box_parts
  exact (sb_cons (ss_set (i := 1) sc_box_parts.nd rfl (Or.inl rfl) se_dicN0)
    (sb_cons (ss_for C (si_seq (se_fn C G_all_parts_in (Nat.le_refl _) rfl T_all_parts_in.mg T_all_parts_in.fu.kp T_all_parts_in.bi (sa_cons (se_var (i := 0) rfl (Or.inl rfl)) sa_nil))) (sg_tup rfl (sgs_cons (sg_name (i := 2) sc_box_parts.nd rfl (Or.inl rfl)) (sgs_cons (sg_name (i := 3) sc_box_parts.nd rfl (Or.inl rfl)) sgs_nil))) (sb_one (ss_if (st_cmp (o_eq C.hu65) (se_var (i := 2) rfl (Or.inl rfl)) (se_str (x := "b"))) (sb_one (ss_put se_bl (pg_sub (se_var (i := 1) rfl (Or.inl rfl)) (se_var (i := 3) rfl (Or.inl rfl)) (set_any C.hu1)))) sb_nil)))
    (sb_one (ss_ret (se_callTy c_tup rfl B.tuple bt_tuple (sa_cons (se_val (sf_sortK C G_box_place (by omega) rfl T_box_place.mg T_box_place.bi rfl B.sorted (sa_cons (se_val (sf_listX C rfl B.list bt_list (sa_cons (se_var (i := 1) rfl (Or.inl rfl)) sa_nil))) sa_nil))) sa_nil))))))
abbrev st_names_of_part : Stmt := topS 26
theorem sc_names_of_part : FnScope ["part"] ["part"] (defScope st_names_of_part) := ⟨rfl, rfl, rfl, by decide +kernel, rfl, by decide +kernel, by decide +kernel⟩
def b_names_of_part (c_names_of_part : Fn) : Sx := (sSeq (sIf (tV (eCall cIsi (aCons (eV 0) (aCons (eC (D.ty "str")) aNil)))) (sRet (eVal (aCons (eV 0) aNil))) sNil)
  (sSeq (sIf (tV (eCall cIsi (aCons (eV 0) (aCons (eC (D.ty "tuple")) aNil)))) (sRet (eOp opAdd (eFn c_names_of_part (aCons (eOp opIxA (eV 0) (eC (D.int 1))) aNil)) (eFn c_names_of_part (aCons (eOp opIxA (eV 0) (eC (D.int 2))) aNil)))) sNil)
  (sRet (eVal aNil))))
def r_names_of_part (c_names_of_part : Fn) : Fn := runF 1 (b_names_of_part c_names_of_part)
theorem d_names_of_part {P : Program} {w : World} {K : PySem.W.Frag} {mg : Str → Option Value} {base : Heap} {k : Nat} (B : Bt mg) {f : Addr} {fd : FuncData} (F : Fun K "names_of_part" "names_of_part" st_names_of_part f fd) {c_names_of_part : Fn} (T_names_of_part : Fd K mg "names_of_part" ["part"] st_names_of_part f fd) (G_names_of_part : FnG P w K mg base k f fd ["part"] c_names_of_part) : FnG P w K mg base (k + 1) f fd ["part"] (r_names_of_part c_names_of_part) :=
  fnG_of F sc_names_of_part fun cdv A outer s H E C => by
  unfold b_names_of_part
  exact (sb_cons (ss_if (st_val (se_callB c_isi rfl B.isinstance bt_isinstance (sa_cons (se_var (i := 0) rfl (Or.inl rfl)) (sa_cons (se_ty rfl B.str bt_str) sa_nil)))) (sb_one (ss_ret (se_val (sf_lst (sa_cons (se_var (i := 0) rfl (Or.inl rfl)) sa_nil))))) sb_nil)
    (sb_cons (ss_if (st_val (se_callB c_isi rfl B.isinstance bt_isinstance (sa_cons (se_var (i := 0) rfl (Or.inl rfl)) (sa_cons (se_ty rfl B.tuple bt_tuple) sa_nil)))) (sb_one (ss_ret (se_op o_add (se_fn C G_names_of_part (Nat.le_refl _) rfl T_names_of_part.mg T_names_of_part.fu.kp T_names_of_part.bi (sa_cons (se_ixA C (se_var (i := 0) rfl (Or.inl rfl)) se_int) sa_nil)) (se_fn C G_names_of_part (Nat.le_refl _) rfl T_names_of_part.mg T_names_of_part.fu.kp T_names_of_part.bi (sa_cons (se_ixA C (se_var (i := 0) rfl (Or.inl rfl)) se_int) sa_nil))))) sb_nil)
    (sb_one (ss_ret (se_val (sf_lst sa_nil))))))
abbrev st_number_names : Stmt := topS 27
theorem sc_number_names : FnScope ["pattern", "found", "kind", "part", "name"] ["pattern"] (defScope st_number_names) := ⟨rfl, rfl, rfl, by decide +kernel, rfl, by decide +kernel, by decide +kernel⟩
def b_number_names (c_all_parts_in : Fn) (c_names_of_part : Fn) : Sx := (sSeq (sSet 1 (eDicN []))
  (sSeq (sFor (iSeq (eFn c_all_parts_in (aCons (eV 0) aNil))) (gT 2 (gsCons (gN 2) (gsCons (gN 3) gsNil'))) (sIf (tB (eOp opEq (eV 2) (eC (D.str "n")))) (sFor (iSeq (eFn c_names_of_part (aCons (eV 3) aNil))) (gN 4) (sPut (eV 1) (eV 4) (eC (D.bl true)))) sNil))
  (sRet (eCall cTup (aCons (eVal (fSortX (aCons (eVal (fCall cLstX (aCons (eV 1) aNil))) aNil))) aNil)))))
def r_number_names (c_all_parts_in : Fn) (c_names_of_part : Fn) : Fn := runF 5 (b_number_names c_all_parts_in c_names_of_part)
theorem d_number_names {P : Program} {w : World} {K : PySem.W.Frag} {mg : Str → Option Value} {base : Heap} {k : Nat} (B : Bt mg) {f : Addr} {fd : FuncData} (F : Fun K "number_names" "number_names" st_number_names f fd) {f_all_parts_in : Addr} {fd_all_parts_in : FuncData} {c_all_parts_in : Fn} (T_all_parts_in : Fd K mg "all_parts_in" ["pattern"] st_all_parts_in f_all_parts_in fd_all_parts_in) (G_all_parts_in : FnG P w K mg base k f_all_parts_in fd_all_parts_in ["pattern"] c_all_parts_in) {f_names_of_part : Addr} {fd_names_of_part : FuncData} {c_names_of_part : Fn} (T_names_of_part : Fd K mg "names_of_part" ["part"] st_names_of_part f_names_of_part fd_names_of_part) (G_names_of_part : FnG P w K mg base k f_names_of_part fd_names_of_part ["part"] c_names_of_part) : FnG P w K mg base (k + 1) f fd ["pattern"] (r_number_names c_all_parts_in c_names_of_part) :=
  fnG_of F sc_number_names fun cdv A outer s H E C => by
  unfold b_number_names
  exact (sb_cons (ss_set (i := 1) sc_number_names.nd rfl (Or.inl rfl) se_dicN0)
    (sb_cons (ss_for C (si_seq (se_fn C G_all_parts_in (Nat.le_refl _) rfl T_all_parts_in.mg T_all_parts_in.fu.kp T_all_parts_in.bi (sa_cons (se_var (i := 0) rfl (Or.inl rfl)) sa_nil))) (sg_tup rfl (sgs_cons (sg_name (i := 2) sc_number_names.nd rfl (Or.inl rfl)) (sgs_cons (sg_name (i := 3) sc_number_names.nd rfl (Or.inl rfl)) sgs_nil))) (sb_one (ss_if (st_cmp (o_eq C.hu65) (se_var (i := 2) rfl (Or.inl rfl)) (se_str (x := "n"))) (sb_one (ss_for C (si_seq (se_fn C G_names_of_part (Nat.le_refl _) rfl T_names_of_part.mg T_names_of_part.fu.kp T_names_of_part.bi (sa_cons (se_var (i := 3) rfl (Or.inl rfl)) sa_nil))) (sg_name (i := 4) sc_number_names.nd rfl (Or.inl rfl)) (sb_one (ss_put se_bl (pg_sub (se_var (i := 1) rfl (Or.inl rfl)) (se_var (i := 4) rfl (Or.inl rfl)) (set_any C.hu1)))))) sb_nil)))
    (sb_one (ss_ret (se_callTy c_tup rfl B.tuple bt_tuple (sa_cons (se_val (sf_sortX C rfl B.sorted (sa_cons (se_val (sf_listX C rfl B.list bt_list (sa_cons (se_var (i := 1) rfl (Or.inl rfl)) sa_nil))) sa_nil))) sa_nil))))))
abbrev st_box_names : Stmt := topS 29
theorem sc_box_names : FnScope ["pattern", "part"] ["pattern"] (defScope st_box_names) := ⟨rfl, rfl, rfl, by decide +kernel, rfl, by decide +kernel, by decide +kernel⟩
def b_box_names (c_box_parts : Fn) : Sx := (sRet (eVal (fLc (iSeq (eFn c_box_parts (aCons (eV 0) aNil))) (gN 1) (tV (eCall cIsi (aCons (eV 1) (aCons (eC (D.ty "str")) aNil)))) (eV 1) [1])))
def r_box_names (c_box_parts : Fn) : Fn := runF 2 (b_box_names c_box_parts)
theorem d_box_names {P : Program} {w : World} {K : PySem.W.Frag} {mg : Str → Option Value} {base : Heap} {k : Nat} (B : Bt mg) {f : Addr} {fd : FuncData} (F : Fun K "box_names" "box_names" st_box_names f fd) {f_box_parts : Addr} {fd_box_parts : FuncData} {c_box_parts : Fn} (T_box_parts : Fd K mg "box_parts" ["pattern"] st_box_parts f_box_parts fd_box_parts) (G_box_parts : FnG P w K mg base k f_box_parts fd_box_parts ["pattern"] c_box_parts) : FnG P w K mg base (k + 1) f fd ["pattern"] (r_box_names c_box_parts) :=
  fnG_of F sc_box_names fun cdv A outer s H E C => by
  unfold b_box_names
  exact (sb_one (ss_ret (se_val (sf_lc C (own := [("part", 1)]) sc_box_names.nd (si_seq (se_fn C G_box_parts (Nat.le_refl _) rfl T_box_parts.mg T_box_parts.fu.kp T_box_parts.bi (sa_cons (se_var (i := 0) rfl (Or.inl rfl)) sa_nil))) (blkOk_by (N := ["pattern", "part"]) (sc := defScope st_box_names) (own := [("part", 1)]) (by decide +kernel)) (fun s1 H1 A1 cl1 fp1 => (sg_name (i := 1) sc_box_names.nd rfl (Or.inl rfl))) (fun s1 H1 A1 cl1 fp1 => (spt_one (st_val (se_callB c_isi rfl B.isinstance bt_isinstance (sa_cons (se_var (i := 1) rfl (Or.inl rfl)) (sa_cons (se_ty rfl B.str bt_str) sa_nil)))))) (fun s1 H1 A1 cl1 fp1 => (se_var (i := 1) rfl (Or.inl rfl)))))))
abbrev st_names : Stmt := topS 30
theorem sc_names : FnScope ["rule"] ["rule"] (defScope st_names) := ⟨rfl, rfl, rfl, by decide +kernel, rfl, by decide +kernel, by decide +kernel⟩
def b_names (c_number_names : Fn) (c_box_names : Fn) : Sx := (sRet (eOp opAdd (eCall cTup (aCons (eFn c_box_names (aCons (eOp opIxA (eV 0) (eC (D.int 0))) aNil)) aNil)) (eFn c_number_names (aCons (eOp opIxA (eV 0) (eC (D.int 0))) aNil))))
def r_names (c_number_names : Fn) (c_box_names : Fn) : Fn := runF 1 (b_names c_number_names c_box_names)
theorem d_names {P : Program} {w : World} {K : PySem.W.Frag} {mg : Str → Option Value} {base : Heap} {k : Nat} (B : Bt mg) {f : Addr} {fd : FuncData} (F : Fun K "names" "names" st_names f fd) {f_number_names : Addr} {fd_number_names : FuncData} {c_number_names : Fn} (T_number_names : Fd K mg "number_names" ["pattern"] st_number_names f_number_names fd_number_names) (G_number_names : FnG P w K mg base k f_number_names fd_number_names ["pattern"] c_number_names) {f_box_names : Addr} {fd_box_names : FuncData} {c_box_names : Fn} (T_box_names : Fd K mg "box_names" ["pattern"] st_box_names f_box_names fd_box_names) (G_box_names : FnG P w K mg base k f_box_names fd_box_names ["pattern"] c_box_names) : FnG P w K mg base (k + 1) f fd ["rule"] (r_names c_number_names c_box_names) :=
  fnG_of F sc_names fun cdv A outer s H E C => by
  unfold b_names
  exact (sb_one (ss_ret (se_op o_add (se_callTy c_tup rfl B.tuple bt_tuple (sa_cons (se_fn C G_box_names (Nat.le_refl _) rfl T_box_names.mg T_box_names.fu.kp T_box_names.bi (sa_cons (se_ixA C (se_var (i := 0) rfl (Or.inl rfl)) se_int) sa_nil)) sa_nil)) (se_fn C G_number_names (Nat.le_refl _) rfl T_number_names.mg T_number_names.fu.kp T_number_names.bi (sa_cons (se_ixA C (se_var (i := 0) rfl (Or.inl rfl)) se_int) sa_nil)))))
abbrev st_written : Stmt := topS 31
theorem sc_written : FnScope ["rule", "part"] ["rule"] (defScope st_written) := ⟨rfl, rfl, rfl, by decide +kernel, rfl, by decide +kernel, by decide +kernel⟩
def b_written (c_box_parts : Fn) : Sx := (sRet (eCall cTup (aCons (eVal (fLc (iSeq (eFn c_box_parts (aCons (eOp opAdd (eOp opIxA (eV 0) (eC (D.int 0))) (eOp opIxA (eV 0) (eC (D.int 1)))) aNil))) (gN 1) (tNotP (tV (eCall cIsi (aCons (eV 1) (aCons (eC (D.ty "str")) aNil))))) (eV 1) [1])) aNil)))
def r_written (c_box_parts : Fn) : Fn := runF 2 (b_written c_box_parts)
theorem d_written {P : Program} {w : World} {K : PySem.W.Frag} {mg : Str → Option Value} {base : Heap} {k : Nat} (B : Bt mg) {f : Addr} {fd : FuncData} (F : Fun K "written" "written" st_written f fd) {f_box_parts : Addr} {fd_box_parts : FuncData} {c_box_parts : Fn} (T_box_parts : Fd K mg "box_parts" ["pattern"] st_box_parts f_box_parts fd_box_parts) (G_box_parts : FnG P w K mg base k f_box_parts fd_box_parts ["pattern"] c_box_parts) : FnG P w K mg base (k + 1) f fd ["rule"] (r_written c_box_parts) :=
  fnG_of F sc_written fun cdv A outer s H E C => by
  unfold b_written
  exact (sb_one (ss_ret (se_callTy c_tup rfl B.tuple bt_tuple (sa_cons (se_val (sf_lc C (own := [("part", 1)]) sc_written.nd (si_seq (se_fn C G_box_parts (Nat.le_refl _) rfl T_box_parts.mg T_box_parts.fu.kp T_box_parts.bi (sa_cons (se_op o_add (se_ixA C (se_var (i := 0) rfl (Or.inl rfl)) se_int) (se_ixA C (se_var (i := 0) rfl (Or.inl rfl)) se_int)) sa_nil))) (blkOk_by (N := ["rule", "part"]) (sc := defScope st_written) (own := [("part", 1)]) (by decide +kernel)) (fun s1 H1 A1 cl1 fp1 => (sg_name (i := 1) sc_written.nd rfl (Or.inl rfl))) (fun s1 H1 A1 cl1 fp1 => (spt_one (st_not (st_val (se_callB c_isi rfl B.isinstance bt_isinstance (sa_cons (se_var (i := 1) rfl (Or.inl rfl)) (sa_cons (se_ty rfl B.str bt_str) sa_nil))))))) (fun s1 H1 A1 cl1 fp1 => (se_var (i := 1) rfl (Or.inl rfl))))) sa_nil))))
abbrev st_boxes_left : Stmt := topS 33
theorem sc_boxes_left : FnScope ["machine", "rule", "known", "box"] ["machine", "rule"] (defScope st_boxes_left) := ⟨rfl, rfl, rfl, by decide +kernel, rfl, by decide +kernel, by decide +kernel⟩
def b_boxes_left (c_written : Fn) : Sx := (sSeq (sSet 2 (eFn c_written (aCons (eV 1) aNil)))
  (sRet (eVal (fLc (iRg (aCons (eOp opIxA (eV 0) (eC (D.int 1))) aNil)) (gN 3) (tB (eOp opNotInA (eV 3) (eV 2))) (eV 3) [3]))))
def r_boxes_left (c_written : Fn) : Fn := runF 4 (b_boxes_left c_written)
theorem d_boxes_left {P : Program} {w : World} {K : PySem.W.Frag} {mg : Str → Option Value} {base : Heap} {k : Nat} (B : Bt mg) {f : Addr} {fd : FuncData} (F : Fun K "boxes_left" "boxes_left" st_boxes_left f fd) {f_written : Addr} {fd_written : FuncData} {c_written : Fn} (T_written : Fd K mg "written" ["rule"] st_written f_written fd_written) (G_written : FnG P w K mg base k f_written fd_written ["rule"] c_written) : FnG P w K mg base (k + 1) f fd ["machine", "rule"] (r_boxes_left c_written) :=
  fnG_of F sc_boxes_left fun cdv A outer s H E C => by
  unfold b_boxes_left
  exact (sb_cons (ss_set (i := 2) sc_boxes_left.nd rfl (Or.inr rfl) (se_fn C G_written (Nat.le_refl _) rfl T_written.mg T_written.fu.kp T_written.bi (sa_cons (se_var (i := 1) rfl (Or.inl rfl)) sa_nil)))
    (sb_one (ss_ret (se_val (sf_lc C (own := [("box", 3)]) sc_boxes_left.nd (si_range1 rfl B.range (sa_cons (se_ixA C (se_var (i := 0) rfl (Or.inl rfl)) se_int) sa_nil)) (blkOk_by (N := ["machine", "rule", "known", "box"]) (sc := defScope st_boxes_left) (own := [("box", 3)]) (by decide +kernel)) (fun s1 H1 A1 cl1 fp1 => (sg_name (i := 3) sc_boxes_left.nd rfl (Or.inl rfl))) (fun s1 H1 A1 cl1 fp1 => have C1 := C.blk s1 H1 _ _ fp1; (spt_one (st_notinA C1 (se_var (i := 3) rfl (Or.inl rfl)) (se_var (i := 2) rfl (Or.inr (Or.inl rfl)))))) (fun s1 H1 A1 cl1 fp1 => (se_var (i := 3) rfl (Or.inl rfl))))))))
abbrev st_fits : Stmt := topS 34
theorem sc_fits : FnScope ["machine", "rule", "box"] ["machine", "rule"] (defScope st_fits) := ⟨rfl, rfl, rfl, by decide +kernel, rfl, by decide +kernel, by decide +kernel⟩
def b_fits (c_boxes_left : Fn) (c_box_names : Fn) (c_written : Fn) : Sx := (sSeq (sIf (tNotP (tV (eCall cAll (aCons (eVal (fLc (iSeq (eFn c_written (aCons (eV 1) aNil))) (gN 2) tYesD (eOp opLt (eV 2) (eOp opIxA (eV 0) (eC (D.int 1)))) [2])) aNil)))) (sRet (eC (D.bl false))) sNil)
  (sRet (eOp opGe (eCall cLen (aCons (eFn c_boxes_left (aCons (eV 0) (aCons (eV 1) aNil))) aNil)) (eCall cLen (aCons (eFn c_box_names (aCons (eOp opIxA (eV 1) (eC (D.int 0))) aNil)) aNil)))))
def r_fits (c_boxes_left : Fn) (c_box_names : Fn) (c_written : Fn) : Fn := runF 3 (b_fits c_boxes_left c_box_names c_written)
theorem d_fits {P : Program} {w : World} {K : PySem.W.Frag} {mg : Str → Option Value} {base : Heap} {k : Nat} (B : Bt mg) {f : Addr} {fd : FuncData} (F : Fun K "fits" "fits" st_fits f fd) {f_boxes_left : Addr} {fd_boxes_left : FuncData} {c_boxes_left : Fn} (T_boxes_left : Fd K mg "boxes_left" ["machine", "rule"] st_boxes_left f_boxes_left fd_boxes_left) (G_boxes_left : FnG P w K mg base k f_boxes_left fd_boxes_left ["machine", "rule"] c_boxes_left) {f_box_names : Addr} {fd_box_names : FuncData} {c_box_names : Fn} (T_box_names : Fd K mg "box_names" ["pattern"] st_box_names f_box_names fd_box_names) (G_box_names : FnG P w K mg base k f_box_names fd_box_names ["pattern"] c_box_names) {f_written : Addr} {fd_written : FuncData} {c_written : Fn} (T_written : Fd K mg "written" ["rule"] st_written f_written fd_written) (G_written : FnG P w K mg base k f_written fd_written ["rule"] c_written) : FnG P w K mg base (k + 1) f fd ["machine", "rule"] (r_fits c_boxes_left c_box_names c_written) :=
  fnG_of F sc_fits fun cdv A outer s H E C => by
  unfold b_fits
  exact (sb_cons (ss_if (st_not (st_val (se_callB (c_all C.calm) rfl B.all bt_all (sa_cons (se_val (sf_lc C (own := [("box", 2)]) sc_fits.nd (si_seq (se_fn C G_written (Nat.le_refl _) rfl T_written.mg T_written.fu.kp T_written.bi (sa_cons (se_var (i := 1) rfl (Or.inl rfl)) sa_nil))) (blkOk_by (N := ["machine", "rule", "box"]) (sc := defScope st_fits) (own := [("box", 2)]) (by decide +kernel)) (fun s1 H1 A1 cl1 fp1 => (sg_name (i := 2) sc_fits.nd rfl (Or.inl rfl))) (fun s1 H1 A1 cl1 fp1 => spt_nil) (fun s1 H1 A1 cl1 fp1 => have C1 := C.blk s1 H1 _ _ fp1; (se_cmp (o_lt C1.hu0) (se_var (i := 2) rfl (Or.inl rfl)) (se_ixA C1 (se_var (i := 0) rfl (Or.inr (Or.inl rfl))) se_int))))) sa_nil)))) (sb_one (ss_ret se_bl)) sb_nil)
    (sb_one (ss_ret (se_cmp o_ge (se_callB c_len rfl B.len bt_len (sa_cons (se_fn C G_boxes_left (Nat.le_refl _) rfl T_boxes_left.mg T_boxes_left.fu.kp T_boxes_left.bi (sa_cons (se_var (i := 0) rfl (Or.inr (Or.inl rfl))) (sa_cons (se_var (i := 1) rfl (Or.inl rfl)) sa_nil))) sa_nil)) (se_callB c_len rfl B.len bt_len (sa_cons (se_fn C G_box_names (Nat.le_refl _) rfl T_box_names.mg T_box_names.fu.kp T_box_names.bi (sa_cons (se_ixA C (se_var (i := 1) rfl (Or.inl rfl)) se_int) sa_nil)) sa_nil))))))
abbrev st_need_fit : Stmt := topS 35
theorem sc_need_fit : FnScope ["machine", "rule"] ["machine", "rule"] (defScope st_need_fit) := ⟨rfl, rfl, rfl, by decide +kernel, rfl, by decide +kernel, by decide +kernel⟩
def b_need_fit (c_fits : Fn) : Sx := (sIf (tNotP (tV (eFn c_fits (aCons (eV 0) (aCons (eV 1) aNil))))) (sRaise "NoFit") sNil)
def r_need_fit (c_fits : Fn) : Fn := runF 2 (b_need_fit c_fits)
theorem d_need_fit {P : Program} {w : World} {K : PySem.W.Frag} {mg : Str → Option Value} {base : Heap} {k : Nat} (B : Bt mg) {f : Addr} {fd : FuncData} (F : Fun K "need_fit" "need_fit" st_need_fit f fd) {f_fits : Addr} {fd_fits : FuncData} {c_fits : Fn} (T_fits : Fd K mg "fits" ["machine", "rule"] st_fits f_fits fd_fits) (G_fits : FnG P w K mg base k f_fits fd_fits ["machine", "rule"] c_fits) {A_NoFit : Addr} (X_NoFit : Xc mg K "NoFit" A_NoFit) : FnG P w K mg base (k + 1) f fd ["machine", "rule"] (r_need_fit c_fits) :=
  fnG_of F sc_need_fit fun cdv A outer s H E C => by
  unfold b_need_fit
  exact (sb_one (ss_if (st_not (st_val (se_fn C G_fits (Nat.le_refl _) rfl T_fits.mg T_fits.fu.kp T_fits.bi (sa_cons (se_var (i := 0) rfl (Or.inl rfl)) (sa_cons (se_var (i := 1) rfl (Or.inl rfl)) sa_nil))))) (sb_one (ss_raise C (c := "NoFit") X_NoFit rfl)) sb_nil))
abbrev st_is_plain : Stmt := topS 39
theorem sc_is_plain : FnScope ["pattern", "deed", "word"] ["pattern"] (defScope st_is_plain) := ⟨rfl, rfl, rfl, by decide +kernel, rfl, by decide +kernel, by decide +kernel⟩
def b_is_plain (c_words_in : Fn) : Sx := (sSeq (sFor (iSeq (eV 0)) (gN 1) (sIf (tV (eCall cAny (aCons (eVal (fLc (iSeq (eFn c_words_in (aCons (eV 1) aNil))) (gN 2) tYesD (eOp opInA (eV 2) (eTup (aCons (eC (D.str "right")) (aCons (eC (D.str "part")) (aCons (eC (D.str "if")) aNil))))) [2])) aNil))) (sRet (eC (D.bl false))) sNil))
  (sRet (eC (D.bl true))))
def r_is_plain (c_words_in : Fn) : Fn := runF 3 (b_is_plain c_words_in)
theorem d_is_plain {P : Program} {w : World} {K : PySem.W.Frag} {mg : Str → Option Value} {base : Heap} {k : Nat} (B : Bt mg) {f : Addr} {fd : FuncData} (F : Fun K "is_plain" "is_plain" st_is_plain f fd) {f_words_in : Addr} {fd_words_in : FuncData} {c_words_in : Fn} (T_words_in : Fd K mg "words_in" ["deed"] st_words_in f_words_in fd_words_in) (G_words_in : FnG P w K mg base k f_words_in fd_words_in ["deed"] c_words_in) : FnG P w K mg base (k + 1) f fd ["pattern"] (r_is_plain c_words_in) :=
  fnG_of F sc_is_plain fun cdv A outer s H E C => by
  unfold b_is_plain
  exact (sb_cons (ss_for C (si_seq (se_var (i := 0) rfl (Or.inl rfl))) (sg_name (i := 1) sc_is_plain.nd rfl (Or.inl rfl)) (sb_one (ss_if (st_val (se_callB (c_any C.calm) rfl B.any bt_any (sa_cons (se_val (sf_lc C (own := [("word", 2)]) sc_is_plain.nd (si_seq (se_fn C G_words_in (Nat.le_refl _) rfl T_words_in.mg T_words_in.fu.kp T_words_in.bi (sa_cons (se_var (i := 1) rfl (Or.inl rfl)) sa_nil))) (blkOk_by (N := ["pattern", "deed", "word"]) (sc := defScope st_is_plain) (own := [("word", 2)]) (by decide +kernel)) (fun s1 H1 A1 cl1 fp1 => (sg_name (i := 2) sc_is_plain.nd rfl (Or.inl rfl))) (fun s1 H1 A1 cl1 fp1 => spt_nil) (fun s1 H1 A1 cl1 fp1 => have C1 := C.blk s1 H1 _ _ fp1; (se_inA C1 (se_var (i := 2) rfl (Or.inl rfl)) (se_tup (sa_cons (se_str (x := "right")) (sa_cons (se_str (x := "part")) (sa_cons (se_str (x := "if")) sa_nil)))))))) sa_nil))) (sb_one (ss_ret se_bl)) sb_nil)))
    (sb_one (ss_ret se_bl)))
abbrev st_own_form : Stmt := topS 40
theorem sc_own_form : FnScope ["part", "at"] ["part"] (defScope st_own_form) := ⟨rfl, rfl, rfl, by decide +kernel, rfl, by decide +kernel, by decide +kernel⟩
def b_own_form (c_box_place : Fn) : Sx := (sRet (eCall cTup (aCons (eVal (fLc (iRg (aCons (eC (D.int 13)) aNil)) (gN 1) tYesD (eCall cInt (aCons (eOp opEq (eV 1) (eOp opAdd (eC (D.int 5)) (eFn c_box_place (aCons (eV 0) aNil)))) aNil)) [1])) aNil)))
def r_own_form (c_box_place : Fn) : Fn := runF 2 (b_own_form c_box_place)
theorem d_own_form {P : Program} {w : World} {K : PySem.W.Frag} {mg : Str → Option Value} {base : Heap} {k : Nat} (B : Bt mg) {f : Addr} {fd : FuncData} (F : Fun K "own_form" "own_form" st_own_form f fd) {f_box_place : Addr} {fd_box_place : FuncData} {c_box_place : Fn} (T_box_place : Fd K mg "box_place" ["part"] st_box_place f_box_place fd_box_place) (G_box_place : FnG P w K mg base k f_box_place fd_box_place ["part"] c_box_place) (Cn_MANY : Cn mg K "MANY" (D.int 13)) (Cn_FIRST_BOX : Cn mg K "FIRST_BOX" (D.int 5)) : FnG P w K mg base (k + 1) f fd ["part"] (r_own_form c_box_place) :=
  fnG_of F sc_own_form fun cdv A outer s H E C => by
  unfold b_own_form
  exact (sb_one (ss_ret (se_callTy c_tup rfl B.tuple bt_tuple (sa_cons (se_val (sf_lc C (own := [("at", 1)]) sc_own_form.nd (si_range1 rfl B.range (sa_cons (Cn_MANY.se rfl) sa_nil)) (blkOk_by (N := ["part", "at"]) (sc := defScope st_own_form) (own := [("at", 1)]) (by decide +kernel)) (fun s1 H1 A1 cl1 fp1 => (sg_name (i := 1) sc_own_form.nd rfl (Or.inl rfl))) (fun s1 H1 A1 cl1 fp1 => spt_nil) (fun s1 H1 A1 cl1 fp1 => have C1 := C.blk s1 H1 _ _ fp1; (se_callTy c_int rfl B.int bt_int (sa_cons (se_cmp (o_eq C1.hu65) (se_var (i := 1) rfl (Or.inl rfl)) (se_op o_add (Cn_FIRST_BOX.se rfl) (se_fn C1 G_box_place (Nat.le_refl _) rfl T_box_place.mg T_box_place.fu.kp T_box_place.bi (sa_cons (se_var (i := 0) rfl (Or.inr (Or.inl rfl))) sa_nil)))) sa_nil))))) sa_nil))))
abbrev st_number_form : Stmt := topS 41
theorem sc_number_form : FnScope ["part", "at"] ["part"] (defScope st_number_form) := ⟨rfl, rfl, rfl, by decide +kernel, rfl, by decide +kernel, by decide +kernel⟩
def b_number_form (c_form : Fn) : Sx := (sRet (eOp opAdd (eFn c_form (aCons (eV 0) aNil)) (eCall cTup (aCons (eVal (fLc (iRg (aCons (eOp opSub (eC (D.int 13)) (eC (D.int 5))) aNil)) (gN 1) tYesD (eC (D.int 0)) [1])) aNil))))
def r_number_form (c_form : Fn) : Fn := runF 2 (b_number_form c_form)
theorem d_number_form {P : Program} {w : World} {K : PySem.W.Frag} {mg : Str → Option Value} {base : Heap} {k : Nat} (B : Bt mg) {f : Addr} {fd : FuncData} (F : Fun K "number_form" "number_form" st_number_form f fd) {f_form : Addr} {fd_form : FuncData} {c_form : Fn} (T_form : Fd K mg "form" ["part"] st_form f_form fd_form) (G_form : FnG P w K mg base k f_form fd_form ["part"] c_form) (Cn_MANY : Cn mg K "MANY" (D.int 13)) (Cn_FIRST_BOX : Cn mg K "FIRST_BOX" (D.int 5)) : FnG P w K mg base (k + 1) f fd ["part"] (r_number_form c_form) :=
  fnG_of F sc_number_form fun cdv A outer s H E C => by
  unfold b_number_form
  exact (sb_one (ss_ret (se_op o_add (se_fn C G_form (Nat.le_refl _) rfl T_form.mg T_form.fu.kp T_form.bi (sa_cons (se_var (i := 0) rfl (Or.inl rfl)) sa_nil)) (se_callTy c_tup rfl B.tuple bt_tuple (sa_cons (se_val (sf_lc C (own := [("at", 1)]) sc_number_form.nd (si_range1 rfl B.range (sa_cons (se_op o_sub (Cn_MANY.se rfl) (Cn_FIRST_BOX.se rfl)) sa_nil)) (blkOk_by (N := ["part", "at"]) (sc := defScope st_number_form) (own := [("at", 1)]) (by decide +kernel)) (fun s1 H1 A1 cl1 fp1 => (sg_name (i := 1) sc_number_form.nd rfl (Or.inl rfl))) (fun s1 H1 A1 cl1 fp1 => spt_nil) (fun s1 H1 A1 cl1 fp1 => se_int))) sa_nil)))))
abbrev st_form_sum : Stmt := topS 42
theorem sc_form_sum : FnScope ["one", "other", "times", "first", "second"] ["one", "other", "times"] (defScope st_form_sum) := ⟨rfl, rfl, rfl, by decide +kernel, rfl, by decide +kernel, by decide +kernel⟩
def b_form_sum : Sx := (sRet (eCall cTup (aCons (eVal (fLc (iZipY (aCons (eV 0) (aCons (eV 1) aNil))) (gT 2 (gsCons (gN 3) (gsCons (gN 4) gsNil'))) tYesD (eOp opAdd (eV 3) (eOp opMulY (eV 2) (eV 4))) [3, 4])) aNil)))
def r_form_sum : Fn := runF 5 (b_form_sum)
theorem d_form_sum {P : Program} {w : World} {K : PySem.W.Frag} {mg : Str → Option Value} {base : Heap} {k : Nat} (B : Bt mg) {f : Addr} {fd : FuncData} (F : Fun K "form_sum" "form_sum" st_form_sum f fd) : FnG P w K mg base (k + 1) f fd ["one", "other", "times"] (r_form_sum) :=
  fnG_of F sc_form_sum fun cdv A outer s H E C => by
  unfold b_form_sum
  exact (sb_one (ss_ret (se_callTy c_tup rfl B.tuple bt_tuple (sa_cons (se_val (sf_lc C (own := [("first", 3), ("second", 4)]) sc_form_sum.nd (si_zipY rfl B.zip (sa_cons (se_var (i := 0) rfl (Or.inl rfl)) (sa_cons (se_var (i := 1) rfl (Or.inl rfl)) sa_nil))) (blkOk_by (N := ["one", "other", "times", "first", "second"]) (sc := defScope st_form_sum) (own := [("first", 3), ("second", 4)]) (by decide +kernel)) (fun s1 H1 A1 cl1 fp1 => (sg_tup rfl (sgs_cons (sg_name (i := 3) sc_form_sum.nd rfl (Or.inl rfl)) (sgs_cons (sg_name (i := 4) sc_form_sum.nd rfl (Or.inl rfl)) sgs_nil)))) (fun s1 H1 A1 cl1 fp1 => spt_nil) (fun s1 H1 A1 cl1 fp1 => (se_op o_add (se_var (i := 3) rfl (Or.inl rfl)) (se_op o_mulY (se_var (i := 2) rfl (Or.inr (Or.inl rfl))) (se_var (i := 4) rfl (Or.inl rfl))))))) sa_nil))))
abbrev st_form_behind : Stmt := topS 43
theorem sc_form_behind : FnScope ["deed", "held", "here"] ["deed", "held"] (defScope st_form_behind) := ⟨rfl, rfl, rfl, by decide +kernel, rfl, by decide +kernel, by decide +kernel⟩
def b_form_behind (c_form_sum : Fn) (c_number_form : Fn) : Sx := (sSeq (sSet 2 (eOp opIxA (eV 1) (eOp opIxA (eV 0) (eC (D.int 1)))))
  (sSeq (sIf (tB (eOp opEq (eOp opIxA (eV 0) (eC (D.int 0))) (eC (D.str "put")))) (sRet (eFn c_number_form (aCons (eOp opIxA (eV 0) (eC (D.int 2))) aNil))) sNil)
  (sSeq (sIf (tB (eOp opEq (eOp opIxA (eV 0) (eC (D.int 0))) (eC (D.str "copy")))) (sRet (eOp opIxA (eV 1) (eOp opIxA (eV 0) (eC (D.int 2))))) sNil)
  (sSeq (sIf (tB (eOp opEq (eOp opIxA (eV 0) (eC (D.int 0))) (eC (D.str "sum")))) (sRet (eFn c_form_sum (aCons (eV 2) (aCons (eOp opIxA (eV 1) (eOp opIxA (eV 0) (eC (D.int 2)))) (aCons (eC (D.int 1)) aNil))))) sNil)
  (sSeq (sIf (tB (eOp opEq (eOp opIxA (eV 0) (eC (D.int 0))) (eC (D.str "more")))) (sRet (eFn c_form_sum (aCons (eV 2) (aCons (eFn c_number_form (aCons (eOp opIxA (eV 0) (eC (D.int 2))) aNil)) (aCons (eC (D.int 1)) aNil))))) sNil)
  (sSeq (sIf (tB (eOp opEq (eOp opIxA (eV 0) (eC (D.int 0))) (eC (D.str "less")))) (sRet (eFn c_form_sum (aCons (eV 2) (aCons (eOp opIxA (eV 1) (eOp opIxA (eV 0) (eC (D.int 2)))) (aCons (eUn opNeg (eC (D.int 1))) aNil))))) sNil)
  (sSeq (sIf (tB (eOp opEq (eOp opIxA (eV 0) (eC (D.int 0))) (eC (D.str "turn")))) (sRet (eFn c_form_sum (aCons (eV 2) (aCons (eV 2) (aCons (eUn opNeg (eC (D.int 2))) aNil))))) sNil)
  (sRet (eFn c_form_sum (aCons (eV 2) (aCons (eV 2) (aCons (eC (D.int 1)) aNil))))))))))))
def r_form_behind (c_form_sum : Fn) (c_number_form : Fn) : Fn := runF 3 (b_form_behind c_form_sum c_number_form)
theorem d_form_behind {P : Program} {w : World} {K : PySem.W.Frag} {mg : Str → Option Value} {base : Heap} {k : Nat} (B : Bt mg) {f : Addr} {fd : FuncData} (F : Fun K "form_behind" "form_behind" st_form_behind f fd) {f_form_sum : Addr} {fd_form_sum : FuncData} {c_form_sum : Fn} (T_form_sum : Fd K mg "form_sum" ["one", "other", "times"] st_form_sum f_form_sum fd_form_sum) (G_form_sum : FnG P w K mg base k f_form_sum fd_form_sum ["one", "other", "times"] c_form_sum) {f_number_form : Addr} {fd_number_form : FuncData} {c_number_form : Fn} (T_number_form : Fd K mg "number_form" ["part"] st_number_form f_number_form fd_number_form) (G_number_form : FnG P w K mg base k f_number_form fd_number_form ["part"] c_number_form) : FnG P w K mg base (k + 1) f fd ["deed", "held"] (r_form_behind c_form_sum c_number_form) :=
  fnG_of F sc_form_behind fun cdv A outer s H E C => by
  unfold b_form_behind
  exact (sb_cons (ss_set (i := 2) sc_form_behind.nd rfl (Or.inl rfl) (se_ixA C (se_var (i := 1) rfl (Or.inl rfl)) (se_ixA C (se_var (i := 0) rfl (Or.inl rfl)) se_int)))
    (sb_cons (ss_if (st_cmp (o_eq C.hu65) (se_ixA C (se_var (i := 0) rfl (Or.inl rfl)) se_int) (se_str (x := "put"))) (sb_one (ss_ret (se_fn C G_number_form (Nat.le_refl _) rfl T_number_form.mg T_number_form.fu.kp T_number_form.bi (sa_cons (se_ixA C (se_var (i := 0) rfl (Or.inl rfl)) se_int) sa_nil)))) sb_nil)
    (sb_cons (ss_if (st_cmp (o_eq C.hu65) (se_ixA C (se_var (i := 0) rfl (Or.inl rfl)) se_int) (se_str (x := "copy"))) (sb_one (ss_ret (se_ixA C (se_var (i := 1) rfl (Or.inl rfl)) (se_ixA C (se_var (i := 0) rfl (Or.inl rfl)) se_int)))) sb_nil)
    (sb_cons (ss_if (st_cmp (o_eq C.hu65) (se_ixA C (se_var (i := 0) rfl (Or.inl rfl)) se_int) (se_str (x := "sum"))) (sb_one (ss_ret (se_fn C G_form_sum (Nat.le_refl _) rfl T_form_sum.mg T_form_sum.fu.kp T_form_sum.bi (sa_cons (se_var (i := 2) rfl (Or.inl rfl)) (sa_cons (se_ixA C (se_var (i := 1) rfl (Or.inl rfl)) (se_ixA C (se_var (i := 0) rfl (Or.inl rfl)) se_int)) (sa_cons se_int sa_nil)))))) sb_nil)
    (sb_cons (ss_if (st_cmp (o_eq C.hu65) (se_ixA C (se_var (i := 0) rfl (Or.inl rfl)) se_int) (se_str (x := "more"))) (sb_one (ss_ret (se_fn C G_form_sum (Nat.le_refl _) rfl T_form_sum.mg T_form_sum.fu.kp T_form_sum.bi (sa_cons (se_var (i := 2) rfl (Or.inl rfl)) (sa_cons (se_fn C G_number_form (Nat.le_refl _) rfl T_number_form.mg T_number_form.fu.kp T_number_form.bi (sa_cons (se_ixA C (se_var (i := 0) rfl (Or.inl rfl)) se_int) sa_nil)) (sa_cons se_int sa_nil)))))) sb_nil)
    (sb_cons (ss_if (st_cmp (o_eq C.hu65) (se_ixA C (se_var (i := 0) rfl (Or.inl rfl)) se_int) (se_str (x := "less"))) (sb_one (ss_ret (se_fn C G_form_sum (Nat.le_refl _) rfl T_form_sum.mg T_form_sum.fu.kp T_form_sum.bi (sa_cons (se_var (i := 2) rfl (Or.inl rfl)) (sa_cons (se_ixA C (se_var (i := 1) rfl (Or.inl rfl)) (se_ixA C (se_var (i := 0) rfl (Or.inl rfl)) se_int)) (sa_cons (se_neg se_int) sa_nil)))))) sb_nil)
    (sb_cons (ss_if (st_cmp (o_eq C.hu65) (se_ixA C (se_var (i := 0) rfl (Or.inl rfl)) se_int) (se_str (x := "turn"))) (sb_one (ss_ret (se_fn C G_form_sum (Nat.le_refl _) rfl T_form_sum.mg T_form_sum.fu.kp T_form_sum.bi (sa_cons (se_var (i := 2) rfl (Or.inl rfl)) (sa_cons (se_var (i := 2) rfl (Or.inl rfl)) (sa_cons (se_neg se_int) sa_nil)))))) sb_nil)
    (sb_one (ss_ret (se_fn C G_form_sum (Nat.le_refl _) rfl T_form_sum.mg T_form_sum.fu.kp T_form_sum.bi (sa_cons (se_var (i := 2) rfl (Or.inl rfl)) (sa_cons (se_var (i := 2) rfl (Or.inl rfl)) (sa_cons se_int sa_nil)))))))))))))
abbrev st_forms : Stmt := topS 44
theorem sc_forms : FnScope ["pattern", "parts", "held", "part", "deed"] ["pattern"] (defScope st_forms) := ⟨rfl, rfl, rfl, by decide +kernel, rfl, by decide +kernel, by decide +kernel⟩
def b_forms (c_box_parts : Fn) (c_own_form : Fn) (c_form_behind : Fn) : Sx := (sSeq (sSet 1 (eFn c_box_parts (aCons (eV 0) aNil)))
  (sSeq (sSet 2 (eDicN []))
  (sSeq (sFor (iSeq (eV 1)) (gN 3) (sPut (eV 2) (eV 3) (eFn c_own_form (aCons (eV 3) aNil))))
  (sSeq (sFor (iSeq (eV 0)) (gN 4) (sPut (eV 2) (eOp opIxA (eV 4) (eC (D.int 1))) (eFn c_form_behind (aCons (eV 4) (aCons (eV 2) aNil)))))
  (sRet (eVal (fLc (iSeq (eV 1)) (gN 3) tYesD (eTup (aCons (eV 3) (aCons (eOp opIxA (eV 2) (eV 3)) aNil))) [3])))))))
def r_forms (c_box_parts : Fn) (c_own_form : Fn) (c_form_behind : Fn) : Fn := runF 5 (b_forms c_box_parts c_own_form c_form_behind)
theorem d_forms {P : Program} {w : World} {K : PySem.W.Frag} {mg : Str → Option Value} {base : Heap} {k : Nat} (B : Bt mg) {f : Addr} {fd : FuncData} (F : Fun K "forms" "forms" st_forms f fd) {f_box_parts : Addr} {fd_box_parts : FuncData} {c_box_parts : Fn} (T_box_parts : Fd K mg "box_parts" ["pattern"] st_box_parts f_box_parts fd_box_parts) (G_box_parts : FnG P w K mg base k f_box_parts fd_box_parts ["pattern"] c_box_parts) {f_own_form : Addr} {fd_own_form : FuncData} {c_own_form : Fn} (T_own_form : Fd K mg "own_form" ["part"] st_own_form f_own_form fd_own_form) (G_own_form : FnG P w K mg base k f_own_form fd_own_form ["part"] c_own_form) {f_form_behind : Addr} {fd_form_behind : FuncData} {c_form_behind : Fn} (T_form_behind : Fd K mg "form_behind" ["deed", "held"] st_form_behind f_form_behind fd_form_behind) (G_form_behind : FnG P w K mg base k f_form_behind fd_form_behind ["deed", "held"] c_form_behind) : FnG P w K mg base (k + 1) f fd ["pattern"] (r_forms c_box_parts c_own_form c_form_behind) :=
  fnG_of F sc_forms fun cdv A outer s H E C => by
  unfold b_forms
  exact (sb_cons (ss_set (i := 1) sc_forms.nd rfl (Or.inl rfl) (se_fn C G_box_parts (Nat.le_refl _) rfl T_box_parts.mg T_box_parts.fu.kp T_box_parts.bi (sa_cons (se_var (i := 0) rfl (Or.inl rfl)) sa_nil)))
    (sb_cons (ss_set (i := 2) sc_forms.nd rfl (Or.inr rfl) se_dicN0)
    (sb_cons (ss_for C (si_seq (se_var (i := 1) rfl (Or.inl rfl))) (sg_name (i := 3) sc_forms.nd rfl (Or.inl rfl)) (sb_one (ss_put (se_fn C G_own_form (Nat.le_refl _) rfl T_own_form.mg T_own_form.fu.kp T_own_form.bi (sa_cons (se_var (i := 3) rfl (Or.inl rfl)) sa_nil)) (pg_sub (se_var (i := 2) rfl (Or.inr (Or.inl rfl))) (se_var (i := 3) rfl (Or.inl rfl)) (set_any C.hu1)))))
    (sb_cons (ss_for C (si_seq (se_var (i := 0) rfl (Or.inl rfl))) (sg_name (i := 4) sc_forms.nd rfl (Or.inl rfl)) (sb_one (ss_put (se_fn C G_form_behind (Nat.le_refl _) rfl T_form_behind.mg T_form_behind.fu.kp T_form_behind.bi (sa_cons (se_var (i := 4) rfl (Or.inl rfl)) (sa_cons (se_var (i := 2) rfl (Or.inr (Or.inl rfl))) sa_nil))) (pg_sub (se_var (i := 2) rfl (Or.inr (Or.inl rfl))) (se_ixA C (se_var (i := 4) rfl (Or.inl rfl)) se_int) (set_any C.hu1)))))
    (sb_one (ss_ret (se_val (sf_lc C (own := [("part", 3)]) sc_forms.nd (si_seq (se_var (i := 1) rfl (Or.inl rfl))) (blkOk_by (N := ["pattern", "parts", "held", "part", "deed"]) (sc := defScope st_forms) (own := [("part", 3)]) (by decide +kernel)) (fun s1 H1 A1 cl1 fp1 => (sg_name (i := 3) sc_forms.nd rfl (Or.inl rfl))) (fun s1 H1 A1 cl1 fp1 => spt_nil) (fun s1 H1 A1 cl1 fp1 => have C1 := C.blk s1 H1 _ _ fp1; (se_tup (sa_cons (se_var (i := 3) rfl (Or.inl rfl)) (sa_cons (se_ixA C1 (se_var (i := 2) rfl (Or.inr (Or.inl rfl))) (se_var (i := 3) rfl (Or.inl rfl))) sa_nil))))))))))))
abbrev st_first_unlike : Stmt := topS 45
theorem sc_first_unlike : FnScope ["machine", "rule", "left", "right", "part", "one", "other", "apart", "at"] ["machine", "rule"] (defScope st_first_unlike) := ⟨rfl, rfl, rfl, by decide +kernel, rfl, by decide +kernel, by decide +kernel⟩
def b_first_unlike (c_box_parts : Fn) (c_forms : Fn) (c_own_form : Fn) : Sx := (sSeq (sSet 2 (eDictX (aCons (eFn c_forms (aCons (eOp opIxA (eV 1) (eC (D.int 0))) aNil)) aNil)))
  (sSeq (sSet 3 (eDictX (aCons (eFn c_forms (aCons (eOp opIxA (eV 1) (eC (D.int 1))) aNil)) aNil)))
  (sSeq (sFor (iSeq (eFn c_box_parts (aCons (eOp opAdd (eOp opIxA (eV 1) (eC (D.int 0))) (eOp opIxA (eV 1) (eC (D.int 1)))) aNil))) (gN 4) (sSeq (sSet 5 (eGet2 (eV 2) (eV 4) (eFn c_own_form (aCons (eV 4) aNil))))
  (sSeq (sSet 6 (eGet2 (eV 3) (eV 4) (eFn c_own_form (aCons (eV 4) aNil))))
  (sSeq (sSet 7 (eVal (fLc (iRg (aCons (eC (D.int 13)) aNil)) (gN 8) (tB (eOp opNe (eOp opMod (eOp opSub (eOp opIxA (eV 5) (eV 8)) (eOp opIxA (eV 6) (eV 8))) (eOp opShl (eC (D.int 1)) (eOp opIxA (eV 0) (eC (D.int 0))))) (eC (D.int 0)))) (eV 8) [8])))
  (sIf (tAndP (tB (eOp opNotInA (eV 4) (eOp opIxA (eV 1) (eC (D.int 2))))) (tB (eOp opNe (eV 7) (eVal aNil)))) (sRet (eOp opIxA (eV 7) (eC (D.int 0)))) sNil)))))
  (sRet (eC D.non)))))
def r_first_unlike (c_box_parts : Fn) (c_forms : Fn) (c_own_form : Fn) : Fn := runF 9 (b_first_unlike c_box_parts c_forms c_own_form)
theorem d_first_unlike {P : Program} {w : World} {K : PySem.W.Frag} {mg : Str → Option Value} {base : Heap} {k : Nat} (B : Bt mg) {f : Addr} {fd : FuncData} (F : Fun K "first_unlike" "first_unlike" st_first_unlike f fd) {f_box_parts : Addr} {fd_box_parts : FuncData} {c_box_parts : Fn} (T_box_parts : Fd K mg "box_parts" ["pattern"] st_box_parts f_box_parts fd_box_parts) (G_box_parts : FnG P w K mg base k f_box_parts fd_box_parts ["pattern"] c_box_parts) {f_forms : Addr} {fd_forms : FuncData} {c_forms : Fn} (T_forms : Fd K mg "forms" ["pattern"] st_forms f_forms fd_forms) (G_forms : FnG P w K mg base k f_forms fd_forms ["pattern"] c_forms) {f_own_form : Addr} {fd_own_form : FuncData} {c_own_form : Fn} (T_own_form : Fd K mg "own_form" ["part"] st_own_form f_own_form fd_own_form) (G_own_form : FnG P w K mg base k f_own_form fd_own_form ["part"] c_own_form) (Cn_MANY : Cn mg K "MANY" (D.int 13)) : FnG P w K mg base (k + 1) f fd ["machine", "rule"] (r_first_unlike c_box_parts c_forms c_own_form) :=
  fnG_of F sc_first_unlike fun cdv A outer s H E C => by
  unfold b_first_unlike
  exact (sb_cons (ss_set (i := 2) sc_first_unlike.nd rfl (Or.inl rfl) (se_dictX C rfl B.dict bt_dict (sa_cons (se_fn C G_forms (Nat.le_refl _) rfl T_forms.mg T_forms.fu.kp T_forms.bi (sa_cons (se_ixA C (se_var (i := 1) rfl (Or.inl rfl)) se_int) sa_nil)) sa_nil)))
    (sb_cons (ss_set (i := 3) sc_first_unlike.nd rfl (Or.inl rfl) (se_dictX C rfl B.dict bt_dict (sa_cons (se_fn C G_forms (Nat.le_refl _) rfl T_forms.mg T_forms.fu.kp T_forms.bi (sa_cons (se_ixA C (se_var (i := 1) rfl (Or.inl rfl)) se_int) sa_nil)) sa_nil)))
    (sb_cons (ss_for C (si_seq (se_fn C G_box_parts (Nat.le_refl _) rfl T_box_parts.mg T_box_parts.fu.kp T_box_parts.bi (sa_cons (se_op o_add (se_ixA C (se_var (i := 1) rfl (Or.inl rfl)) se_int) (se_ixA C (se_var (i := 1) rfl (Or.inl rfl)) se_int)) sa_nil))) (sg_name (i := 4) sc_first_unlike.nd rfl (Or.inl rfl)) (sb_cons (ss_set (i := 5) sc_first_unlike.nd rfl (Or.inr rfl) (se_get2 C (se_var (i := 2) rfl (Or.inl rfl)) (se_var (i := 4) rfl (Or.inl rfl)) (se_fn C G_own_form (Nat.le_refl _) rfl T_own_form.mg T_own_form.fu.kp T_own_form.bi (sa_cons (se_var (i := 4) rfl (Or.inl rfl)) sa_nil))))
    (sb_cons (ss_set (i := 6) sc_first_unlike.nd rfl (Or.inr rfl) (se_get2 C (se_var (i := 3) rfl (Or.inl rfl)) (se_var (i := 4) rfl (Or.inl rfl)) (se_fn C G_own_form (Nat.le_refl _) rfl T_own_form.mg T_own_form.fu.kp T_own_form.bi (sa_cons (se_var (i := 4) rfl (Or.inl rfl)) sa_nil))))
    (sb_cons (ss_setLc C (i := 7) (own := [("at", 8)]) (fin := eVal) (fun _ _ _ _ => rd_val) sc_first_unlike.nd rfl rfl (sw_true rfl rfl rfl (by decide +kernel)) (si_range1 rfl B.range (sa_cons (Cn_MANY.se rfl) sa_nil)) (blkOk_by (N := ["machine", "rule", "left", "right", "part", "one", "other", "apart", "at"]) (sc := defScope st_first_unlike) (own := [("at", 8)]) (by decide +kernel)) (fun s1 H1 A1 cl1 fp1 => (sg_name (i := 8) sc_first_unlike.nd rfl (Or.inl rfl))) (fun s1 H1 A1 cl1 fp1 => have C1 := C.blk s1 H1 _ _ fp1; (spt_one (st_cmp (o_ne C1.hu65) (se_op o_mod (se_op o_sub (se_ixA C1 (se_var (i := 5) rfl (Or.inr (Or.inl rfl))) (se_var (i := 8) rfl (Or.inl rfl))) (se_ixA C1 (se_var (i := 6) rfl (Or.inr (Or.inl rfl))) (se_var (i := 8) rfl (Or.inl rfl)))) (se_op o_shl se_int (se_ixA C1 (se_var (i := 0) rfl (Or.inr (Or.inl rfl))) se_int))) se_int))) (fun s1 H1 A1 cl1 fp1 => (se_var (i := 8) rfl (Or.inl rfl))))
    (sb_one (ss_if (st_w (sw_and (st_notinA C (se_var (i := 4) rfl (Or.inl rfl)) (se_ixA C (se_var (i := 1) rfl (Or.inl rfl)) se_int)) (sw_and1 (st_cmp (o_ne C.hu65) (se_var (i := 7) rfl (Or.inl rfl)) (se_val (sf_lst sa_nil)))))) (sb_one (ss_ret (se_ixA C (se_var (i := 7) rfl (Or.inl rfl)) se_int))) sb_nil))))))
    (sb_one (ss_ret se_non)))))
abbrev st_parted_by_sums : Stmt := topS 46
theorem sc_parted_by_sums : FnScope ["machine", "rule", "at", "left", "given", "part", "name", "box", "stand", "place"] ["machine", "rule"] (defScope st_parted_by_sums) := ⟨rfl, rfl, rfl, by decide +kernel, rfl, by decide +kernel, by decide +kernel⟩
def b_parted_by_sums (c_need_fit : Fn) (c_first_unlike : Fn) (c_boxes_left : Fn) (c_box_parts : Fn) (c_box_names : Fn) (c_is_plain : Fn) (c_box_place : Fn) (c_names : Fn) : Sx := (sSeq (sEx (eFn c_need_fit (aCons (eV 0) (aCons (eV 1) aNil))))
  (sSeq (sIf (tOrP (tNotP (tV (eFn c_is_plain (aCons (eOp opIxA (eV 1) (eC (D.int 0))) aNil)))) (tNotP (tV (eFn c_is_plain (aCons (eOp opIxA (eV 1) (eC (D.int 1))) aNil))))) (sRaise "NotPlain") sNil)
  (sSeq (sSet 2 (eFn c_first_unlike (aCons (eV 0) (aCons (eV 1) aNil))))
  (sSeq (sIf (tB (eOp opIs (eV 2) (eC D.non))) (sRet (eC D.non)) sNil)
  (sSeq (sSet 3 (eFn c_boxes_left (aCons (eV 0) (aCons (eV 1) aNil))))
  (sSeq (sSet 4 (eDicN []))
  (sSeq (sFor (iSeq (eFn c_box_parts (aCons (eOp opAdd (eOp opIxA (eV 1) (eC (D.int 0))) (eOp opIxA (eV 1) (eC (D.int 1)))) aNil))) (gN 5) (sPut (eV 4) (eV 5) (eV 5)))
  (sSeq (sFor (iZipY (aCons (eFn c_box_names (aCons (eOp opIxA (eV 1) (eC (D.int 0))) aNil)) (aCons (eV 3) aNil))) (gT 2 (gsCons (gN 6) (gsCons (gN 7) gsNil'))) (sPut (eV 4) (eV 6) (eV 7)))
  (sSeq (sSet 8 (eNew (fLc (iRg (aCons (eOp opIxA (eV 0) (eC (D.int 1))) aNil)) (gN 7) tYesD (eC (D.int 0)) [7])))
  (sSeq (sForD 4 (gN 5) (sIf (tB (eOp opEq (eOp opAdd (eC (D.int 5)) (eFn c_box_place (aCons (eV 5) aNil))) (eV 2))) (sPut (eV 8) (eOp opIxA (eV 4) (eV 5)) (eC (D.int 1))) sNil))
  (sSeq (sFor (iZipR (eTup (aCons (eC (D.str "k")) (aCons (eC (D.str "l")) (aCons (eC (D.str "m")) (aCons (eC (D.str "n")) aNil))))) (aCons (eC (D.int 1)) (aCons (eC (D.int 5)) aNil))) (gT 2 (gsCons (gN 6) (gsCons (gN 9) gsNil'))) (sPut (eV 4) (eV 6) (eCall cInt (aCons (eOp opEq (eV 9) (eV 2)) aNil))))
  (sRet (eTup (aCons (eCall cTup (aCons (eVal (fLc (iSeq (eFn c_names (aCons (eV 1) aNil))) (gN 6) tYesD (eTup (aCons (eV 6) (aCons (eOp opIxA (eV 4) (eV 6)) aNil))) [6])) aNil)) (aCons (eCall cTup (aCons (eV 8) aNil)) aNil)))))))))))))))
def r_parted_by_sums (c_need_fit : Fn) (c_first_unlike : Fn) (c_boxes_left : Fn) (c_box_parts : Fn) (c_box_names : Fn) (c_is_plain : Fn) (c_box_place : Fn) (c_names : Fn) : Fn := runF 10 (b_parted_by_sums c_need_fit c_first_unlike c_boxes_left c_box_parts c_box_names c_is_plain c_box_place c_names)
theorem d_parted_by_sums {P : Program} {w : World} {K : PySem.W.Frag} {mg : Str → Option Value} {base : Heap} {k : Nat} (B : Bt mg) {f : Addr} {fd : FuncData} (F : Fun K "parted_by_sums" "parted_by_sums" st_parted_by_sums f fd) {f_need_fit : Addr} {fd_need_fit : FuncData} {c_need_fit : Fn} (T_need_fit : Fd K mg "need_fit" ["machine", "rule"] st_need_fit f_need_fit fd_need_fit) (G_need_fit : FnG P w K mg base k f_need_fit fd_need_fit ["machine", "rule"] c_need_fit) {f_first_unlike : Addr} {fd_first_unlike : FuncData} {c_first_unlike : Fn} (T_first_unlike : Fd K mg "first_unlike" ["machine", "rule"] st_first_unlike f_first_unlike fd_first_unlike) (G_first_unlike : FnG P w K mg base k f_first_unlike fd_first_unlike ["machine", "rule"] c_first_unlike) {f_boxes_left : Addr} {fd_boxes_left : FuncData} {c_boxes_left : Fn} (T_boxes_left : Fd K mg "boxes_left" ["machine", "rule"] st_boxes_left f_boxes_left fd_boxes_left) (G_boxes_left : FnG P w K mg base k f_boxes_left fd_boxes_left ["machine", "rule"] c_boxes_left) {f_box_parts : Addr} {fd_box_parts : FuncData} {c_box_parts : Fn} (T_box_parts : Fd K mg "box_parts" ["pattern"] st_box_parts f_box_parts fd_box_parts) (G_box_parts : FnG P w K mg base k f_box_parts fd_box_parts ["pattern"] c_box_parts) {f_box_names : Addr} {fd_box_names : FuncData} {c_box_names : Fn} (T_box_names : Fd K mg "box_names" ["pattern"] st_box_names f_box_names fd_box_names) (G_box_names : FnG P w K mg base k f_box_names fd_box_names ["pattern"] c_box_names) {f_is_plain : Addr} {fd_is_plain : FuncData} {c_is_plain : Fn} (T_is_plain : Fd K mg "is_plain" ["pattern"] st_is_plain f_is_plain fd_is_plain) (G_is_plain : FnG P w K mg base k f_is_plain fd_is_plain ["pattern"] c_is_plain) {f_box_place : Addr} {fd_box_place : FuncData} {c_box_place : Fn} (T_box_place : Fd K mg "box_place" ["part"] st_box_place f_box_place fd_box_place) (G_box_place : FnG P w K mg base k f_box_place fd_box_place ["part"] c_box_place) {f_names : Addr} {fd_names : FuncData} {c_names : Fn} (T_names : Fd K mg "names" ["rule"] st_names f_names fd_names) (G_names : FnG P w K mg base k f_names fd_names ["rule"] c_names) (Cn_FIRST_BOX : Cn mg K "FIRST_BOX" (D.int 5)) {A_NotPlain : Addr} (X_NotPlain : Xc mg K "NotPlain" A_NotPlain) : FnG P w K mg base (k + 1) f fd ["machine", "rule"] (r_parted_by_sums c_need_fit c_first_unlike c_boxes_left c_box_parts c_box_names c_is_plain c_box_place c_names) :=
  fnG_of F sc_parted_by_sums fun cdv A outer s H E C => by
  unfold b_parted_by_sums
  exact (sb_cons (ss_ex (se_fn C G_need_fit (Nat.le_refl _) rfl T_need_fit.mg T_need_fit.fu.kp T_need_fit.bi (sa_cons (se_var (i := 0) rfl (Or.inl rfl)) (sa_cons (se_var (i := 1) rfl (Or.inl rfl)) sa_nil))))
    (sb_cons (ss_if (st_w (sw_or (st_not (st_val (se_fn C G_is_plain (Nat.le_refl _) rfl T_is_plain.mg T_is_plain.fu.kp T_is_plain.bi (sa_cons (se_ixA C (se_var (i := 1) rfl (Or.inl rfl)) se_int) sa_nil)))) (sw_or1 (st_not (st_val (se_fn C G_is_plain (Nat.le_refl _) rfl T_is_plain.mg T_is_plain.fu.kp T_is_plain.bi (sa_cons (se_ixA C (se_var (i := 1) rfl (Or.inl rfl)) se_int) sa_nil))))))) (sb_one (ss_raise C (c := "NotPlain") X_NotPlain rfl)) sb_nil)
    (sb_cons (ss_set (i := 2) sc_parted_by_sums.nd rfl (Or.inl rfl) (se_fn C G_first_unlike (Nat.le_refl _) rfl T_first_unlike.mg T_first_unlike.fu.kp T_first_unlike.bi (sa_cons (se_var (i := 0) rfl (Or.inl rfl)) (sa_cons (se_var (i := 1) rfl (Or.inl rfl)) sa_nil))))
    (sb_cons (ss_if (st_cmp o_is (se_var (i := 2) rfl (Or.inl rfl)) se_non) (sb_one (ss_ret se_non)) sb_nil)
    (sb_cons (ss_set (i := 3) sc_parted_by_sums.nd rfl (Or.inl rfl) (se_fn C G_boxes_left (Nat.le_refl _) rfl T_boxes_left.mg T_boxes_left.fu.kp T_boxes_left.bi (sa_cons (se_var (i := 0) rfl (Or.inl rfl)) (sa_cons (se_var (i := 1) rfl (Or.inl rfl)) sa_nil))))
    (sb_cons (ss_set (i := 4) sc_parted_by_sums.nd rfl (Or.inr rfl) se_dicN0)
    (sb_cons (ss_for C (si_seq (se_fn C G_box_parts (Nat.le_refl _) rfl T_box_parts.mg T_box_parts.fu.kp T_box_parts.bi (sa_cons (se_op o_add (se_ixA C (se_var (i := 1) rfl (Or.inl rfl)) se_int) (se_ixA C (se_var (i := 1) rfl (Or.inl rfl)) se_int)) sa_nil))) (sg_name (i := 5) sc_parted_by_sums.nd rfl (Or.inl rfl)) (sb_one (ss_put (se_var (i := 5) rfl (Or.inl rfl)) (pg_sub (se_var (i := 4) rfl (Or.inr (Or.inl rfl))) (se_var (i := 5) rfl (Or.inl rfl)) (set_any C.hu1)))))
    (sb_cons (ss_for C (si_zipY rfl B.zip (sa_cons (se_fn C G_box_names (Nat.le_refl _) rfl T_box_names.mg T_box_names.fu.kp T_box_names.bi (sa_cons (se_ixA C (se_var (i := 1) rfl (Or.inl rfl)) se_int) sa_nil)) (sa_cons (se_var (i := 3) rfl (Or.inl rfl)) sa_nil))) (sg_tup rfl (sgs_cons (sg_name (i := 6) sc_parted_by_sums.nd rfl (Or.inl rfl)) (sgs_cons (sg_name (i := 7) sc_parted_by_sums.nd rfl (Or.inl rfl)) sgs_nil))) (sb_one (ss_put (se_var (i := 7) rfl (Or.inl rfl)) (pg_sub (se_var (i := 4) rfl (Or.inr (Or.inl rfl))) (se_var (i := 6) rfl (Or.inl rfl)) (set_any C.hu1)))))
    (sb_cons (ss_setLc C (i := 8) (own := [("box", 7)]) (fin := eNew) (fun _ _ _ _ => rd_new) sc_parted_by_sums.nd rfl rfl (sw_true rfl rfl rfl (by decide +kernel)) (si_range1 rfl B.range (sa_cons (se_ixA C (se_var (i := 0) rfl (Or.inl rfl)) se_int) sa_nil)) (blkOk_by (N := ["machine", "rule", "at", "left", "given", "part", "name", "box", "stand", "place"]) (sc := defScope st_parted_by_sums) (own := [("box", 7)]) (by decide +kernel)) (fun s1 H1 A1 cl1 fp1 => (sg_name (i := 7) sc_parted_by_sums.nd rfl (Or.inl rfl))) (fun s1 H1 A1 cl1 fp1 => spt_nil) (fun s1 H1 A1 cl1 fp1 => se_int))
    (sb_cons (ss_forD C (i := 4) rfl (Or.inr (Or.inl rfl)) (sg_name (i := 5) sc_parted_by_sums.nd rfl (Or.inl rfl)) (sb_one (ss_if (st_cmp (o_eq C.hu65) (se_op o_add (Cn_FIRST_BOX.se rfl) (se_fn C G_box_place (Nat.le_refl _) rfl T_box_place.mg T_box_place.fu.kp T_box_place.bi (sa_cons (se_var (i := 5) rfl (Or.inl rfl)) sa_nil))) (se_var (i := 2) rfl (Or.inl rfl))) (sb_one (ss_put se_int (pg_sub (se_var (i := 8) rfl (Or.inl rfl)) (se_ixA C (se_var (i := 4) rfl (Or.inr (Or.inl rfl))) (se_var (i := 5) rfl (Or.inl rfl))) (set_any C.hu1)))) sb_nil)))
    (sb_cons (ss_for C (si_zipR rfl B.zip rfl B.range (se_tup (sa_cons (se_str (x := "k")) (sa_cons (se_str (x := "l")) (sa_cons (se_str (x := "m")) (sa_cons (se_str (x := "n")) sa_nil))))) (sa_cons se_int (sa_cons (Cn_FIRST_BOX.se rfl) sa_nil))) (sg_tup rfl (sgs_cons (sg_name (i := 6) sc_parted_by_sums.nd rfl (Or.inl rfl)) (sgs_cons (sg_name (i := 9) sc_parted_by_sums.nd rfl (Or.inl rfl)) sgs_nil))) (sb_one (ss_put (se_callTy c_int rfl B.int bt_int (sa_cons (se_cmp (o_eq C.hu65) (se_var (i := 9) rfl (Or.inl rfl)) (se_var (i := 2) rfl (Or.inl rfl))) sa_nil)) (pg_sub (se_var (i := 4) rfl (Or.inr (Or.inl rfl))) (se_var (i := 6) rfl (Or.inl rfl)) (set_any C.hu1)))))
    (sb_one (ss_ret (se_tup (sa_cons (se_callTy c_tup rfl B.tuple bt_tuple (sa_cons (se_val (sf_lc C (own := [("name", 6)]) sc_parted_by_sums.nd (si_seq (se_fn C G_names (Nat.le_refl _) rfl T_names.mg T_names.fu.kp T_names.bi (sa_cons (se_var (i := 1) rfl (Or.inl rfl)) sa_nil))) (blkOk_by (N := ["machine", "rule", "at", "left", "given", "part", "name", "box", "stand", "place"]) (sc := defScope st_parted_by_sums) (own := [("name", 6)]) (by decide +kernel)) (fun s1 H1 A1 cl1 fp1 => (sg_name (i := 6) sc_parted_by_sums.nd rfl (Or.inl rfl))) (fun s1 H1 A1 cl1 fp1 => spt_nil) (fun s1 H1 A1 cl1 fp1 => have C1 := C.blk s1 H1 _ _ fp1; (se_tup (sa_cons (se_var (i := 6) rfl (Or.inl rfl)) (sa_cons (se_ixA C1 (se_var (i := 4) rfl (Or.inr (Or.inl rfl))) (se_var (i := 6) rfl (Or.inl rfl))) sa_nil)))))) sa_nil)) (sa_cons (se_callTy c_tup rfl B.tuple bt_tuple (sa_cons (se_var (i := 8) rfl (Or.inl rfl)) sa_nil)) sa_nil))))))))))))))))
abbrev st__law_pen : Stmt := topS 48
theorem sc__law_pen : FnScope ["_law_script"] ["_law_script"] (defScope st__law_pen) := ⟨rfl, rfl, rfl, by decide +kernel, rfl, by decide +kernel, by decide +kernel⟩
def b__law_pen : Sx := (sRet (eNew (aCons (eV 0) (aCons (eC (D.int 0)) (aCons (eC (D.int 0)) aNil)))))
def r__law_pen : Fn := runF 1 (b__law_pen)
theorem d__law_pen {P : Program} {w : World} {K : PySem.W.Frag} {mg : Str → Option Value} {base : Heap} {k : Nat} (B : Bt mg) {f : Addr} {fd : FuncData} (F : Fun K "_law_pen" "_law_pen" st__law_pen f fd) : FnG P w K mg base (k + 1) f fd ["_law_script"] (r__law_pen) :=
  fnG_of F sc__law_pen fun cdv A outer s H E C => by
  unfold b__law_pen
  exact (sb_one (ss_ret (se_new (sf_lst (sa_cons (se_var (i := 0) rfl (Or.inl rfl)) (sa_cons se_int (sa_cons se_int sa_nil)))))))
abbrev st__law_draw : Stmt := topS 49
theorem sc__law_draw : FnScope ["_law_pen_here", "_law_many", "_law_digit", "_law_at", "_law_cell", "_law_number"] ["_law_pen_here", "_law_many"] (defScope st__law_draw) := ⟨rfl, rfl, rfl, by decide +kernel, rfl, by decide +kernel, by decide +kernel⟩
def b__law_draw : Sx := (sSeq (sIf (tB (eOp opGt (eOp opIxA (eV 0) (eC (D.int 2))) (eC (D.int 0)))) (sSeq (sSet 2 (eOp opMod (eOp opIxA (eV 0) (eC (D.int 2))) (eV 1)))
  (sSeq (sPut (eV 0) (eC (D.int 2)) (eOp opDiv (eOp opIxA (eV 0) (eC (D.int 2))) (eV 1)))
  (sRet (eV 2)))) sNil)
  (sSeq (sSet 3 (eOp opIxA (eV 0) (eC (D.int 1))))
  (sSeq (sPut (eV 0) (eC (D.int 1)) (eOp opAdd (eV 3) (eC (D.int 1))))
  (sSeq (sSet 4 (eOp opAdd (eOp opMulY (eC (D.int 104729)) (eV 3)) (eC (D.int 31))))
  (sSeq (sIf (tB (eOp opGt (eCall cLen (aCons (eOp opIxA (eV 0) (eC (D.int 0))) aNil)) (eC (D.int 0)))) (sSet 4 (eOp opIxA (eOp opIxA (eV 0) (eC (D.int 0))) (eOp opMod (eV 3) (eCall cLen (aCons (eOp opIxA (eV 0) (eC (D.int 0))) aNil))))) sNil)
  (sSeq (sIf (tAndP (tB (eOp opLt (eV 3) (eCall cLen (aCons (eOp opIxA (eV 0) (eC (D.int 0))) aNil)))) (tB (eOp opGe (eCall cAbs (aCons (eV 4) aNil)) (eOp opPow (eC (D.int 10)) (eC (D.int 18)))))) (sSeq (sPut (eV 0) (eC (D.int 2)) (eOp opDiv (eCall cAbs (aCons (eV 4) aNil)) (eV 1)))
  (sRet (eOp opMod (eCall cAbs (aCons (eV 4) aNil)) (eV 1)))) sNil)
  (sSeq (sSet 5 (eOp opMod (eOp opPow (eOp opAdd (eOp opAdd (eOp opMod (eV 4) (eC (D.int 2147483587))) (eOp opMulY (eC (D.int 40009)) (eV 3))) (eC (D.int 23))) (eC (D.int 3))) (eC (D.int 2147483647))))
  (sSeq (sSet 5 (eOp opMod (eOp opPow (eOp opAdd (eOp opAdd (eOp opMulY (eV 5) (eOp opAdd (eOp opMod (eV 5) (eC (D.int 65521))) (eC (D.int 5)))) (eOp opMulY (eC (D.int 69997)) (eV 3))) (eC (D.int 11))) (eC (D.int 5))) (eC (D.int 2147483629))))
  (sRet (eOp opMod (eOp opDiv (eV 5) (eC (D.int 128))) (eV 1)))))))))))
def r__law_draw : Fn := runF 6 (b__law_draw)
theorem d__law_draw {P : Program} {w : World} {K : PySem.W.Frag} {mg : Str → Option Value} {base : Heap} {k : Nat} (B : Bt mg) {f : Addr} {fd : FuncData} (F : Fun K "_law_draw" "_law_draw" st__law_draw f fd) : FnG P w K mg base (k + 1) f fd ["_law_pen_here", "_law_many"] (r__law_draw) :=
  fnG_of F sc__law_draw fun cdv A outer s H E C => by
  unfold b__law_draw
  exact (sb_cons (ss_if (st_cmp o_gt (se_ixA C (se_var (i := 0) rfl (Or.inl rfl)) se_int) se_int) (sb_cons (ss_set (i := 2) sc__law_draw.nd rfl (Or.inl rfl) (se_op o_mod (se_ixA C (se_var (i := 0) rfl (Or.inl rfl)) se_int) (se_var (i := 1) rfl (Or.inl rfl))))
    (sb_cons (ss_put (se_op o_div (se_ixA C (se_var (i := 0) rfl (Or.inl rfl)) se_int) (se_var (i := 1) rfl (Or.inl rfl))) (pg_sub (se_var (i := 0) rfl (Or.inl rfl)) se_int (set_any C.hu1)))
    (sb_one (ss_ret (se_var (i := 2) rfl (Or.inl rfl)))))) sb_nil)
    (sb_cons (ss_set (i := 3) sc__law_draw.nd rfl (Or.inl rfl) (se_ixA C (se_var (i := 0) rfl (Or.inl rfl)) se_int))
    (sb_cons (ss_put (se_op o_add (se_var (i := 3) rfl (Or.inl rfl)) se_int) (pg_sub (se_var (i := 0) rfl (Or.inl rfl)) se_int (set_any C.hu1)))
    (sb_cons (ss_set (i := 4) sc__law_draw.nd rfl (Or.inl rfl) (se_op o_add (se_op o_mulY se_int (se_var (i := 3) rfl (Or.inl rfl))) se_int))
    (sb_cons (ss_if (st_cmp o_gt (se_callB c_len rfl B.len bt_len (sa_cons (se_ixA C (se_var (i := 0) rfl (Or.inl rfl)) se_int) sa_nil)) se_int) (sb_one (ss_set (i := 4) sc__law_draw.nd rfl (Or.inl rfl) (se_ixA C (se_ixA C (se_var (i := 0) rfl (Or.inl rfl)) se_int) (se_op o_mod (se_var (i := 3) rfl (Or.inl rfl)) (se_callB c_len rfl B.len bt_len (sa_cons (se_ixA C (se_var (i := 0) rfl (Or.inl rfl)) se_int) sa_nil)))))) sb_nil)
    (sb_cons (ss_if (st_w (sw_and (st_cmp (o_lt C.hu0) (se_var (i := 3) rfl (Or.inl rfl)) (se_callB c_len rfl B.len bt_len (sa_cons (se_ixA C (se_var (i := 0) rfl (Or.inl rfl)) se_int) sa_nil))) (sw_and1 (st_cmp o_ge (se_callB c_abs rfl B.abs bt_abs (sa_cons (se_var (i := 4) rfl (Or.inl rfl)) sa_nil)) (se_op o_pow se_int se_int))))) (sb_cons (ss_put (se_op o_div (se_callB c_abs rfl B.abs bt_abs (sa_cons (se_var (i := 4) rfl (Or.inl rfl)) sa_nil)) (se_var (i := 1) rfl (Or.inl rfl))) (pg_sub (se_var (i := 0) rfl (Or.inl rfl)) se_int (set_any C.hu1)))
    (sb_one (ss_ret (se_op o_mod (se_callB c_abs rfl B.abs bt_abs (sa_cons (se_var (i := 4) rfl (Or.inl rfl)) sa_nil)) (se_var (i := 1) rfl (Or.inl rfl)))))) sb_nil)
    (sb_cons (ss_set (i := 5) sc__law_draw.nd rfl (Or.inl rfl) (se_op o_mod (se_op o_pow (se_op o_add (se_op o_add (se_op o_mod (se_var (i := 4) rfl (Or.inl rfl)) se_int) (se_op o_mulY se_int (se_var (i := 3) rfl (Or.inl rfl)))) se_int) se_int) se_int))
    (sb_cons (ss_set (i := 5) sc__law_draw.nd rfl (Or.inl rfl) (se_op o_mod (se_op o_pow (se_op o_add (se_op o_add (se_op o_mulY (se_var (i := 5) rfl (Or.inl rfl)) (se_op o_add (se_op o_mod (se_var (i := 5) rfl (Or.inl rfl)) se_int) se_int)) (se_op o_mulY se_int (se_var (i := 3) rfl (Or.inl rfl)))) se_int) se_int) se_int))
    (sb_one (ss_ret (se_op o_mod (se_op o_div (se_var (i := 5) rfl (Or.inl rfl)) se_int) (se_var (i := 1) rfl (Or.inl rfl)))))))))))))
abbrev st__law_plain_deed : Stmt := topS 50
theorem sc__law_plain_deed : FnScope ["_law_pen_here", "_law_boxes", "_law_numbers", "_law_word", "_law_box"] ["_law_pen_here", "_law_boxes", "_law_numbers"] (defScope st__law_plain_deed) := ⟨rfl, rfl, rfl, by decide +kernel, rfl, by decide +kernel, by decide +kernel⟩
def b__law_plain_deed (c__law_draw : Fn) : Sx := (sSeq (sSet 3 (eOp opIxA (eVal (aCons (eC (D.str "put")) (aCons (eC (D.str "copy")) (aCons (eC (D.str "sum")) (aCons (eC (D.str "more")) (aCons (eC (D.str "less")) (aCons (eC (D.str "turn")) (aCons (eC (D.str "left")) aNil)))))))) (eFn c__law_draw (aCons (eV 0) (aCons (eC (D.int 7)) aNil)))))
  (sSeq (sSet 4 (eOp opIxA (eV 1) (eFn c__law_draw (aCons (eV 0) (aCons (eCall cLen (aCons (eV 1) aNil)) aNil)))))
  (sSeq (sIf (tB (eOp opInA (eV 3) (eTup (aCons (eC (D.str "put")) (aCons (eC (D.str "more")) aNil))))) (sRet (eTup (aCons (eV 3) (aCons (eV 4) (aCons (eOp opIxA (eV 2) (eFn c__law_draw (aCons (eV 0) (aCons (eCall cLen (aCons (eV 2) aNil)) aNil)))) aNil))))) sNil)
  (sSeq (sIf (tB (eOp opInA (eV 3) (eTup (aCons (eC (D.str "turn")) (aCons (eC (D.str "left")) aNil))))) (sRet (eTup (aCons (eV 3) (aCons (eV 4) aNil)))) sNil)
  (sRet (eTup (aCons (eV 3) (aCons (eV 4) (aCons (eOp opIxA (eV 1) (eFn c__law_draw (aCons (eV 0) (aCons (eCall cLen (aCons (eV 1) aNil)) aNil)))) aNil)))))))))
def r__law_plain_deed (c__law_draw : Fn) : Fn := runF 5 (b__law_plain_deed c__law_draw)
theorem d__law_plain_deed {P : Program} {w : World} {K : PySem.W.Frag} {mg : Str → Option Value} {base : Heap} {k : Nat} (B : Bt mg) {f : Addr} {fd : FuncData} (F : Fun K "_law_plain_deed" "_law_plain_deed" st__law_plain_deed f fd) {f__law_draw : Addr} {fd__law_draw : FuncData} {c__law_draw : Fn} (T__law_draw : Fd K mg "_law_draw" ["_law_pen_here", "_law_many"] st__law_draw f__law_draw fd__law_draw) (G__law_draw : FnG P w K mg base k f__law_draw fd__law_draw ["_law_pen_here", "_law_many"] c__law_draw) : FnG P w K mg base (k + 1) f fd ["_law_pen_here", "_law_boxes", "_law_numbers"] (r__law_plain_deed c__law_draw) :=
  fnG_of F sc__law_plain_deed fun cdv A outer s H E C => by
  unfold b__law_plain_deed
  exact (sb_cons (ss_set (i := 3) sc__law_plain_deed.nd rfl (Or.inl rfl) (se_ixA C (se_val (sf_lst (sa_cons (se_str (x := "put")) (sa_cons (se_str (x := "copy")) (sa_cons (se_str (x := "sum")) (sa_cons (se_str (x := "more")) (sa_cons (se_str (x := "less")) (sa_cons (se_str (x := "turn")) (sa_cons (se_str (x := "left")) sa_nil))))))))) (se_fn C G__law_draw (Nat.le_refl _) rfl T__law_draw.mg T__law_draw.fu.kp T__law_draw.bi (sa_cons (se_var (i := 0) rfl (Or.inl rfl)) (sa_cons se_int sa_nil)))))
    (sb_cons (ss_set (i := 4) sc__law_plain_deed.nd rfl (Or.inl rfl) (se_ixA C (se_var (i := 1) rfl (Or.inl rfl)) (se_fn C G__law_draw (Nat.le_refl _) rfl T__law_draw.mg T__law_draw.fu.kp T__law_draw.bi (sa_cons (se_var (i := 0) rfl (Or.inl rfl)) (sa_cons (se_callB c_len rfl B.len bt_len (sa_cons (se_var (i := 1) rfl (Or.inl rfl)) sa_nil)) sa_nil)))))
    (sb_cons (ss_if (st_inA C (se_var (i := 3) rfl (Or.inl rfl)) (se_tup (sa_cons (se_str (x := "put")) (sa_cons (se_str (x := "more")) sa_nil)))) (sb_one (ss_ret (se_tup (sa_cons (se_var (i := 3) rfl (Or.inl rfl)) (sa_cons (se_var (i := 4) rfl (Or.inl rfl)) (sa_cons (se_ixA C (se_var (i := 2) rfl (Or.inl rfl)) (se_fn C G__law_draw (Nat.le_refl _) rfl T__law_draw.mg T__law_draw.fu.kp T__law_draw.bi (sa_cons (se_var (i := 0) rfl (Or.inl rfl)) (sa_cons (se_callB c_len rfl B.len bt_len (sa_cons (se_var (i := 2) rfl (Or.inl rfl)) sa_nil)) sa_nil)))) sa_nil)))))) sb_nil)
    (sb_cons (ss_if (st_inA C (se_var (i := 3) rfl (Or.inl rfl)) (se_tup (sa_cons (se_str (x := "turn")) (sa_cons (se_str (x := "left")) sa_nil)))) (sb_one (ss_ret (se_tup (sa_cons (se_var (i := 3) rfl (Or.inl rfl)) (sa_cons (se_var (i := 4) rfl (Or.inl rfl)) sa_nil))))) sb_nil)
    (sb_one (ss_ret (se_tup (sa_cons (se_var (i := 3) rfl (Or.inl rfl)) (sa_cons (se_var (i := 4) rfl (Or.inl rfl)) (sa_cons (se_ixA C (se_var (i := 1) rfl (Or.inl rfl)) (se_fn C G__law_draw (Nat.le_refl _) rfl T__law_draw.mg T__law_draw.fu.kp T__law_draw.bi (sa_cons (se_var (i := 0) rfl (Or.inl rfl)) (sa_cons (se_callB c_len rfl B.len bt_len (sa_cons (se_var (i := 1) rfl (Or.inl rfl)) sa_nil)) sa_nil)))) sa_nil))))))))))
abbrev st__law_boxes_in : Stmt := topS 51
theorem sc__law_boxes_in : FnScope ["_law_pattern", "_law_found", "_law_deed", "_law_one", "_law_part"] ["_law_pattern"] (defScope st__law_boxes_in) := ⟨rfl, rfl, rfl, by decide +kernel, rfl, by decide +kernel, by decide +kernel⟩
def b__law_boxes_in : Sx := (sSeq (sSet 1 (eVal aNil))
  (sSeq (sFor (iSeq (eV 0)) (gN 2) (sFor (iSeq (eSl (eVal (aCons (eV 2) (aCons (eOp opIxA (eV 2) (eUn opNeg (eC (D.int 1)))) aNil))) oNo (oSo (eOp opAdd (eC (D.int 1)) (eCall cInt (aCons (eOp opEq (eOp opIxA (eV 2) (eC (D.int 0))) (eC (D.str "if"))) aNil)))))) (gN 3) (sSet 1 (eOp opAdd (eV 1) (eVal (fCall cLstX (aCons (eSl (eV 3) (oSo (eC (D.int 1))) (oSo (eOp opSub (eC (D.int 3)) (eCall cInt (aCons (eOp opInA (eOp opIxA (eV 3) (eC (D.int 0))) (eTup (aCons (eC (D.str "put")) (aCons (eC (D.str "more")) (aCons (eC (D.str "if")) aNil))))) aNil))))) aNil)))))))
  (sRet (eVal (fLc (iSeq (eVal (aCons (eC (D.int 0)) (aCons (eC (D.int 1)) (aCons (eC (D.int 2)) (aCons (eC (D.int 3)) (aCons (eC (D.str "A")) (aCons (eC (D.str "B")) (aCons (eC (D.str "C")) (aCons (eC (D.str "D")) aNil)))))))))) (gN 4) (tB (eOp opInA (eV 4) (eV 1))) (eV 4) [4])))))
def r__law_boxes_in : Fn := runF 5 (b__law_boxes_in)
theorem d__law_boxes_in {P : Program} {w : World} {K : PySem.W.Frag} {mg : Str → Option Value} {base : Heap} {k : Nat} (B : Bt mg) {f : Addr} {fd : FuncData} (F : Fun K "_law_boxes_in" "_law_boxes_in" st__law_boxes_in f fd) : FnG P w K mg base (k + 1) f fd ["_law_pattern"] (r__law_boxes_in) :=
  fnG_of F sc__law_boxes_in fun cdv A outer s H E C => by
  unfold b__law_boxes_in
  exact (sb_cons (ss_set (i := 1) sc__law_boxes_in.nd rfl (Or.inr rfl) (se_val (sf_lst sa_nil)))
    (sb_cons (ss_for C (si_seq (se_var (i := 0) rfl (Or.inl rfl))) (sg_name (i := 2) sc__law_boxes_in.nd rfl (Or.inl rfl)) (sb_one (ss_for C (si_seq (se_sl (se_val (sf_lst (sa_cons (se_var (i := 2) rfl (Or.inl rfl)) (sa_cons (se_ixA C (se_var (i := 2) rfl (Or.inl rfl)) (se_neg se_int)) sa_nil)))) so_no (so_so (se_op o_add se_int (se_callTy c_int rfl B.int bt_int (sa_cons (se_cmp (o_eq C.hu65) (se_ixA C (se_var (i := 2) rfl (Or.inl rfl)) se_int) (se_str (x := "if"))) sa_nil)))))) (sg_name (i := 3) sc__law_boxes_in.nd rfl (Or.inl rfl)) (sb_one (ss_set (i := 1) sc__law_boxes_in.nd rfl (Or.inr rfl) (se_op o_add (se_var (i := 1) rfl (Or.inr (Or.inl rfl))) (se_val (sf_listX C rfl B.list bt_list (sa_cons (se_sl (se_var (i := 3) rfl (Or.inl rfl)) (so_so se_int) (so_so (se_op o_sub se_int (se_callTy c_int rfl B.int bt_int (sa_cons (se_inA C (se_ixA C (se_var (i := 3) rfl (Or.inl rfl)) se_int) (se_tup (sa_cons (se_str (x := "put")) (sa_cons (se_str (x := "more")) (sa_cons (se_str (x := "if")) sa_nil))))) sa_nil))))) sa_nil)))))))))
    (sb_one (ss_ret (se_val (sf_lc C (own := [("_law_part", 4)]) sc__law_boxes_in.nd (si_seq (se_val (sf_lst (sa_cons se_int (sa_cons se_int (sa_cons se_int (sa_cons se_int (sa_cons (se_str (x := "A")) (sa_cons (se_str (x := "B")) (sa_cons (se_str (x := "C")) (sa_cons (se_str (x := "D")) sa_nil))))))))))) (blkOk_by (N := ["_law_pattern", "_law_found", "_law_deed", "_law_one", "_law_part"]) (sc := defScope st__law_boxes_in) (own := [("_law_part", 4)]) (by decide +kernel)) (fun s1 H1 A1 cl1 fp1 => (sg_name (i := 4) sc__law_boxes_in.nd rfl (Or.inl rfl))) (fun s1 H1 A1 cl1 fp1 => have C1 := C.blk s1 H1 _ _ fp1; (spt_one (st_inA C1 (se_var (i := 4) rfl (Or.inl rfl)) (se_var (i := 1) rfl (Or.inr (Or.inl rfl)))))) (fun s1 H1 A1 cl1 fp1 => (se_var (i := 4) rfl (Or.inl rfl)))))))))
abbrev st__law_names_of : Stmt := topS 52
theorem sc__law_names_of : FnScope ["_law_part", "_law_name"] ["_law_part"] (defScope st__law_names_of) := ⟨rfl, rfl, rfl, by decide +kernel, rfl, by decide +kernel, by decide +kernel⟩
def b__law_names_of (c__law_names_of : Fn) : Sx := (sSeq (sIf (tV (eCall cIsi (aCons (eV 0) (aCons (eC (D.ty "tuple")) aNil)))) (sRet (eOp opAdd (eFn c__law_names_of (aCons (eOp opIxA (eV 0) (eC (D.int 1))) aNil)) (eFn c__law_names_of (aCons (eOp opIxA (eV 0) (eC (D.int 2))) aNil)))) sNil)
  (sRet (eVal (fLc (iSeq (eVal (aCons (eC (D.str "k")) (aCons (eC (D.str "l")) (aCons (eC (D.str "m")) (aCons (eC (D.str "n")) aNil)))))) (gN 1) (tB (eOp opEq (eV 0) (eV 1))) (eV 1) [1]))))
def r__law_names_of (c__law_names_of : Fn) : Fn := runF 2 (b__law_names_of c__law_names_of)
theorem d__law_names_of {P : Program} {w : World} {K : PySem.W.Frag} {mg : Str → Option Value} {base : Heap} {k : Nat} (B : Bt mg) {f : Addr} {fd : FuncData} (F : Fun K "_law_names_of" "_law_names_of" st__law_names_of f fd) {c__law_names_of : Fn} (T__law_names_of : Fd K mg "_law_names_of" ["_law_part"] st__law_names_of f fd) (G__law_names_of : FnG P w K mg base k f fd ["_law_part"] c__law_names_of) : FnG P w K mg base (k + 1) f fd ["_law_part"] (r__law_names_of c__law_names_of) :=
  fnG_of F sc__law_names_of fun cdv A outer s H E C => by
  unfold b__law_names_of
  exact (sb_cons (ss_if (st_val (se_callB c_isi rfl B.isinstance bt_isinstance (sa_cons (se_var (i := 0) rfl (Or.inr (Or.inl rfl))) (sa_cons (se_ty rfl B.tuple bt_tuple) sa_nil)))) (sb_one (ss_ret (se_op o_add (se_fn C G__law_names_of (Nat.le_refl _) rfl T__law_names_of.mg T__law_names_of.fu.kp T__law_names_of.bi (sa_cons (se_ixA C (se_var (i := 0) rfl (Or.inr (Or.inl rfl))) se_int) sa_nil)) (se_fn C G__law_names_of (Nat.le_refl _) rfl T__law_names_of.mg T__law_names_of.fu.kp T__law_names_of.bi (sa_cons (se_ixA C (se_var (i := 0) rfl (Or.inr (Or.inl rfl))) se_int) sa_nil))))) sb_nil)
    (sb_one (ss_ret (se_val (sf_lc C (own := [("_law_name", 1)]) sc__law_names_of.nd (si_seq (se_val (sf_lst (sa_cons (se_str (x := "k")) (sa_cons (se_str (x := "l")) (sa_cons (se_str (x := "m")) (sa_cons (se_str (x := "n")) sa_nil))))))) (blkOk_by (N := ["_law_part", "_law_name"]) (sc := defScope st__law_names_of) (own := [("_law_name", 1)]) (by decide +kernel)) (fun s1 H1 A1 cl1 fp1 => (sg_name (i := 1) sc__law_names_of.nd rfl (Or.inl rfl))) (fun s1 H1 A1 cl1 fp1 => have C1 := C.blk s1 H1 _ _ fp1; (spt_one (st_cmp (o_eq C1.hu65) (se_var (i := 0) rfl (Or.inr (Or.inl rfl))) (se_var (i := 1) rfl (Or.inl rfl))))) (fun s1 H1 A1 cl1 fp1 => (se_var (i := 1) rfl (Or.inl rfl))))))))
abbrev st__law_names_in : Stmt := topS 53
theorem sc__law_names_in : FnScope ["_law_pattern", "_law_found", "_law_deed", "_law_one", "_law_name"] ["_law_pattern"] (defScope st__law_names_in) := ⟨rfl, rfl, rfl, by decide +kernel, rfl, by decide +kernel, by decide +kernel⟩
def b__law_names_in (c__law_names_of : Fn) : Sx := (sSeq (sSet 1 (eVal aNil))
  (sSeq (sFor (iSeq (eV 0)) (gN 2) (sFor (iSeq (eSl (eVal (aCons (eV 2) (aCons (eOp opIxA (eV 2) (eUn opNeg (eC (D.int 1)))) aNil))) oNo (oSo (eOp opAdd (eC (D.int 1)) (eCall cInt (aCons (eOp opEq (eOp opIxA (eV 2) (eC (D.int 0))) (eC (D.str "if"))) aNil)))))) (gN 3) (sIf (tB (eOp opInA (eOp opIxA (eV 3) (eC (D.int 0))) (eTup (aCons (eC (D.str "put")) (aCons (eC (D.str "more")) aNil))))) (sSet 1 (eOp opAdd (eV 1) (eFn c__law_names_of (aCons (eOp opIxA (eV 3) (eC (D.int 2))) aNil)))) sNil)))
  (sRet (eVal (fLc (iSeq (eVal (aCons (eC (D.str "k")) (aCons (eC (D.str "l")) (aCons (eC (D.str "m")) (aCons (eC (D.str "n")) aNil)))))) (gN 4) (tB (eOp opInA (eV 4) (eV 1))) (eV 4) [4])))))
def r__law_names_in (c__law_names_of : Fn) : Fn := runF 5 (b__law_names_in c__law_names_of)
theorem d__law_names_in {P : Program} {w : World} {K : PySem.W.Frag} {mg : Str → Option Value} {base : Heap} {k : Nat} (B : Bt mg) {f : Addr} {fd : FuncData} (F : Fun K "_law_names_in" "_law_names_in" st__law_names_in f fd) {f__law_names_of : Addr} {fd__law_names_of : FuncData} {c__law_names_of : Fn} (T__law_names_of : Fd K mg "_law_names_of" ["_law_part"] st__law_names_of f__law_names_of fd__law_names_of) (G__law_names_of : FnG P w K mg base k f__law_names_of fd__law_names_of ["_law_part"] c__law_names_of) : FnG P w K mg base (k + 1) f fd ["_law_pattern"] (r__law_names_in c__law_names_of) :=
  fnG_of F sc__law_names_in fun cdv A outer s H E C => by
  unfold b__law_names_in
  exact (sb_cons (ss_set (i := 1) sc__law_names_in.nd rfl (Or.inr rfl) (se_val (sf_lst sa_nil)))
    (sb_cons (ss_for C (si_seq (se_var (i := 0) rfl (Or.inl rfl))) (sg_name (i := 2) sc__law_names_in.nd rfl (Or.inl rfl)) (sb_one (ss_for C (si_seq (se_sl (se_val (sf_lst (sa_cons (se_var (i := 2) rfl (Or.inl rfl)) (sa_cons (se_ixA C (se_var (i := 2) rfl (Or.inl rfl)) (se_neg se_int)) sa_nil)))) so_no (so_so (se_op o_add se_int (se_callTy c_int rfl B.int bt_int (sa_cons (se_cmp (o_eq C.hu65) (se_ixA C (se_var (i := 2) rfl (Or.inl rfl)) se_int) (se_str (x := "if"))) sa_nil)))))) (sg_name (i := 3) sc__law_names_in.nd rfl (Or.inl rfl)) (sb_one (ss_if (st_inA C (se_ixA C (se_var (i := 3) rfl (Or.inl rfl)) se_int) (se_tup (sa_cons (se_str (x := "put")) (sa_cons (se_str (x := "more")) sa_nil)))) (sb_one (ss_set (i := 1) sc__law_names_in.nd rfl (Or.inr rfl) (se_op o_add (se_var (i := 1) rfl (Or.inr (Or.inl rfl))) (se_fn C G__law_names_of (Nat.le_refl _) rfl T__law_names_of.mg T__law_names_of.fu.kp T__law_names_of.bi (sa_cons (se_ixA C (se_var (i := 3) rfl (Or.inl rfl)) se_int) sa_nil))))) sb_nil)))))
    (sb_one (ss_ret (se_val (sf_lc C (own := [("_law_name", 4)]) sc__law_names_in.nd (si_seq (se_val (sf_lst (sa_cons (se_str (x := "k")) (sa_cons (se_str (x := "l")) (sa_cons (se_str (x := "m")) (sa_cons (se_str (x := "n")) sa_nil))))))) (blkOk_by (N := ["_law_pattern", "_law_found", "_law_deed", "_law_one", "_law_name"]) (sc := defScope st__law_names_in) (own := [("_law_name", 4)]) (by decide +kernel)) (fun s1 H1 A1 cl1 fp1 => (sg_name (i := 4) sc__law_names_in.nd rfl (Or.inl rfl))) (fun s1 H1 A1 cl1 fp1 => have C1 := C.blk s1 H1 _ _ fp1; (spt_one (st_inA C1 (se_var (i := 4) rfl (Or.inl rfl)) (se_var (i := 1) rfl (Or.inr (Or.inl rfl)))))) (fun s1 H1 A1 cl1 fp1 => (se_var (i := 4) rfl (Or.inl rfl)))))))))
abbrev st__law_machine : Stmt := topS 54
theorem sc__law_machine : FnScope ["_law_pen_here", "_law_way"] ["_law_pen_here"] (defScope st__law_machine) := ⟨rfl, rfl, rfl, by decide +kernel, rfl, by decide +kernel, by decide +kernel⟩
def b__law_machine (c__law_draw : Fn) : Sx := (sSeq (sSet 1 (eFn c__law_draw (aCons (eV 0) (aCons (eC (D.int 6)) aNil))))
  (sRet (eTup (aCons (eOp opIxA (eVal (aCons (eC (D.int 1)) (aCons (eC (D.int 2)) (aCons (eC (D.int 3)) (aCons (eC (D.int 8)) (aCons (eC (D.int 60)) (aCons (eOp opAdd (eC (D.int 1)) (eFn c__law_draw (aCons (eV 0) (aCons (eC (D.int 60)) aNil)))) aNil))))))) (eV 1)) (aCons (eOp opAdd (eC (D.int 1)) (eFn c__law_draw (aCons (eV 0) (aCons (eC (D.int 4)) aNil)))) aNil)))))
def r__law_machine (c__law_draw : Fn) : Fn := runF 2 (b__law_machine c__law_draw)
theorem d__law_machine {P : Program} {w : World} {K : PySem.W.Frag} {mg : Str → Option Value} {base : Heap} {k : Nat} (B : Bt mg) {f : Addr} {fd : FuncData} (F : Fun K "_law_machine" "_law_machine" st__law_machine f fd) {f__law_draw : Addr} {fd__law_draw : FuncData} {c__law_draw : Fn} (T__law_draw : Fd K mg "_law_draw" ["_law_pen_here", "_law_many"] st__law_draw f__law_draw fd__law_draw) (G__law_draw : FnG P w K mg base k f__law_draw fd__law_draw ["_law_pen_here", "_law_many"] c__law_draw) : FnG P w K mg base (k + 1) f fd ["_law_pen_here"] (r__law_machine c__law_draw) :=
  fnG_of F sc__law_machine fun cdv A outer s H E C => by
  unfold b__law_machine
  exact (sb_cons (ss_set (i := 1) sc__law_machine.nd rfl (Or.inl rfl) (se_fn C G__law_draw (Nat.le_refl _) rfl T__law_draw.mg T__law_draw.fu.kp T__law_draw.bi (sa_cons (se_var (i := 0) rfl (Or.inl rfl)) (sa_cons se_int sa_nil))))
    (sb_one (ss_ret (se_tup (sa_cons (se_ixA C (se_val (sf_lst (sa_cons se_int (sa_cons se_int (sa_cons se_int (sa_cons se_int (sa_cons se_int (sa_cons (se_op o_add se_int (se_fn C G__law_draw (Nat.le_refl _) rfl T__law_draw.mg T__law_draw.fu.kp T__law_draw.bi (sa_cons (se_var (i := 0) rfl (Or.inl rfl)) (sa_cons se_int sa_nil)))) sa_nil)))))))) (se_var (i := 1) rfl (Or.inl rfl))) (sa_cons (se_op o_add se_int (se_fn C G__law_draw (Nat.le_refl _) rfl T__law_draw.mg T__law_draw.fu.kp T__law_draw.bi (sa_cons (se_var (i := 0) rfl (Or.inl rfl)) (sa_cons se_int sa_nil)))) sa_nil))))))
abbrev st__law_crooked : Stmt := topS 55
theorem sc__law_crooked : FnScope ["_law_pen_here", "_law_boxes", "_law_way", "_law_box", "_law_other", "_law_some"] ["_law_pen_here", "_law_boxes"] (defScope st__law_crooked) := ⟨rfl, rfl, rfl, by decide +kernel, rfl, by decide +kernel, by decide +kernel⟩
def b__law_crooked (c__law_draw : Fn) : Sx := (sSeq (sSet 2 (eFn c__law_draw (aCons (eV 0) (aCons (eC (D.int 6)) aNil))))
  (sSeq (sSet 3 (eOp opIxA (eV 1) (eFn c__law_draw (aCons (eV 0) (aCons (eCall cLen (aCons (eV 1) aNil)) aNil)))))
  (sSeq (sSet 4 (eOp opIxA (eV 1) (eFn c__law_draw (aCons (eV 0) (aCons (eCall cLen (aCons (eV 1) aNil)) aNil)))))
  (sSeq (sSet 5 (eVal (aCons (eTup (aCons (eC (D.str "right")) (aCons (eV 3) aNil))) (aCons (eTup (aCons (eC (D.str "part")) (aCons (eV 3) (aCons (eV 4) aNil)))) (aCons (eTup (aCons (eC (D.str "if")) (aCons (eV 4) (aCons (eTup (aCons (eC (D.str "turn")) (aCons (eV 3) aNil))) aNil)))) (aCons (eTup (aCons (eC (D.str "if")) (aCons (eV 3) (aCons (eTup (aCons (eC (D.str "copy")) (aCons (eV 4) (aCons (eV 3) aNil)))) aNil)))) aNil))))))
  (sRet (eOp opIxA (eOp opAdd (eV 5) (eVal (aCons (eTup (aCons (eC (D.str "if")) (aCons (eV 4) (aCons (eTup (aCons (eC (D.str "right")) (aCons (eV 3) aNil))) aNil)))) (aCons (eTup (aCons (eC (D.str "if")) (aCons (eV 4) (aCons (eTup (aCons (eC (D.str "part")) (aCons (eV 3) (aCons (eV 3) aNil)))) aNil)))) aNil)))) (eV 2)))))))
def r__law_crooked (c__law_draw : Fn) : Fn := runF 6 (b__law_crooked c__law_draw)
theorem d__law_crooked {P : Program} {w : World} {K : PySem.W.Frag} {mg : Str → Option Value} {base : Heap} {k : Nat} (B : Bt mg) {f : Addr} {fd : FuncData} (F : Fun K "_law_crooked" "_law_crooked" st__law_crooked f fd) {f__law_draw : Addr} {fd__law_draw : FuncData} {c__law_draw : Fn} (T__law_draw : Fd K mg "_law_draw" ["_law_pen_here", "_law_many"] st__law_draw f__law_draw fd__law_draw) (G__law_draw : FnG P w K mg base k f__law_draw fd__law_draw ["_law_pen_here", "_law_many"] c__law_draw) : FnG P w K mg base (k + 1) f fd ["_law_pen_here", "_law_boxes"] (r__law_crooked c__law_draw) :=
  fnG_of F sc__law_crooked fun cdv A outer s H E C => by
  unfold b__law_crooked
  exact (sb_cons (ss_set (i := 2) sc__law_crooked.nd rfl (Or.inl rfl) (se_fn C G__law_draw (Nat.le_refl _) rfl T__law_draw.mg T__law_draw.fu.kp T__law_draw.bi (sa_cons (se_var (i := 0) rfl (Or.inl rfl)) (sa_cons se_int sa_nil))))
    (sb_cons (ss_set (i := 3) sc__law_crooked.nd rfl (Or.inl rfl) (se_ixA C (se_var (i := 1) rfl (Or.inl rfl)) (se_fn C G__law_draw (Nat.le_refl _) rfl T__law_draw.mg T__law_draw.fu.kp T__law_draw.bi (sa_cons (se_var (i := 0) rfl (Or.inl rfl)) (sa_cons (se_callB c_len rfl B.len bt_len (sa_cons (se_var (i := 1) rfl (Or.inl rfl)) sa_nil)) sa_nil)))))
    (sb_cons (ss_set (i := 4) sc__law_crooked.nd rfl (Or.inl rfl) (se_ixA C (se_var (i := 1) rfl (Or.inl rfl)) (se_fn C G__law_draw (Nat.le_refl _) rfl T__law_draw.mg T__law_draw.fu.kp T__law_draw.bi (sa_cons (se_var (i := 0) rfl (Or.inl rfl)) (sa_cons (se_callB c_len rfl B.len bt_len (sa_cons (se_var (i := 1) rfl (Or.inl rfl)) sa_nil)) sa_nil)))))
    (sb_cons (ss_set (i := 5) sc__law_crooked.nd rfl (Or.inl rfl) (se_val (sf_lst (sa_cons (se_tup (sa_cons (se_str (x := "right")) (sa_cons (se_var (i := 3) rfl (Or.inl rfl)) sa_nil))) (sa_cons (se_tup (sa_cons (se_str (x := "part")) (sa_cons (se_var (i := 3) rfl (Or.inl rfl)) (sa_cons (se_var (i := 4) rfl (Or.inl rfl)) sa_nil)))) (sa_cons (se_tup (sa_cons (se_str (x := "if")) (sa_cons (se_var (i := 4) rfl (Or.inl rfl)) (sa_cons (se_tup (sa_cons (se_str (x := "turn")) (sa_cons (se_var (i := 3) rfl (Or.inl rfl)) sa_nil))) sa_nil)))) (sa_cons (se_tup (sa_cons (se_str (x := "if")) (sa_cons (se_var (i := 3) rfl (Or.inl rfl)) (sa_cons (se_tup (sa_cons (se_str (x := "copy")) (sa_cons (se_var (i := 4) rfl (Or.inl rfl)) (sa_cons (se_var (i := 3) rfl (Or.inl rfl)) sa_nil)))) sa_nil)))) sa_nil)))))))
    (sb_one (ss_ret (se_ixA C (se_op o_add (se_var (i := 5) rfl (Or.inl rfl)) (se_val (sf_lst (sa_cons (se_tup (sa_cons (se_str (x := "if")) (sa_cons (se_var (i := 4) rfl (Or.inl rfl)) (sa_cons (se_tup (sa_cons (se_str (x := "right")) (sa_cons (se_var (i := 3) rfl (Or.inl rfl)) sa_nil))) sa_nil)))) (sa_cons (se_tup (sa_cons (se_str (x := "if")) (sa_cons (se_var (i := 4) rfl (Or.inl rfl)) (sa_cons (se_tup (sa_cons (se_str (x := "part")) (sa_cons (se_var (i := 3) rfl (Or.inl rfl)) (sa_cons (se_var (i := 3) rfl (Or.inl rfl)) sa_nil)))) sa_nil)))) sa_nil))))) (se_var (i := 2) rfl (Or.inl rfl)))))))))
abbrev st__law_spoilt : Stmt := topS 56
theorem sc__law_spoilt : FnScope ["_law_pen_here", "_law_side", "_law_boxes", "_law_spot"] ["_law_pen_here", "_law_side", "_law_boxes"] (defScope st__law_spoilt) := ⟨rfl, rfl, rfl, by decide +kernel, rfl, by decide +kernel, by decide +kernel⟩
def b__law_spoilt (c__law_draw : Fn) (c__law_crooked : Fn) : Sx := (sSeq (sIf (tB (eOp opEq (eV 1) (eTup aNil))) (sRet (eTup (aCons (eFn c__law_crooked (aCons (eV 0) (aCons (eV 2) aNil))) aNil))) sNil)
  (sSeq (sSet 3 (eFn c__law_draw (aCons (eV 0) (aCons (eCall cLen (aCons (eV 1) aNil)) aNil))))
  (sRet (eOp opAdd (eOp opAdd (eSl (eV 1) oNo (oSo (eV 3))) (eTup (aCons (eFn c__law_crooked (aCons (eV 0) (aCons (eV 2) aNil))) aNil))) (eSl (eV 1) (oSo (eOp opAdd (eV 3) (eC (D.int 1)))) oNo)))))
def r__law_spoilt (c__law_draw : Fn) (c__law_crooked : Fn) : Fn := runF 4 (b__law_spoilt c__law_draw c__law_crooked)
theorem d__law_spoilt {P : Program} {w : World} {K : PySem.W.Frag} {mg : Str → Option Value} {base : Heap} {k : Nat} (B : Bt mg) {f : Addr} {fd : FuncData} (F : Fun K "_law_spoilt" "_law_spoilt" st__law_spoilt f fd) {f__law_draw : Addr} {fd__law_draw : FuncData} {c__law_draw : Fn} (T__law_draw : Fd K mg "_law_draw" ["_law_pen_here", "_law_many"] st__law_draw f__law_draw fd__law_draw) (G__law_draw : FnG P w K mg base k f__law_draw fd__law_draw ["_law_pen_here", "_law_many"] c__law_draw) {f__law_crooked : Addr} {fd__law_crooked : FuncData} {c__law_crooked : Fn} (T__law_crooked : Fd K mg "_law_crooked" ["_law_pen_here", "_law_boxes"] st__law_crooked f__law_crooked fd__law_crooked) (G__law_crooked : FnG P w K mg base k f__law_crooked fd__law_crooked ["_law_pen_here", "_law_boxes"] c__law_crooked) : FnG P w K mg base (k + 1) f fd ["_law_pen_here", "_law_side", "_law_boxes"] (r__law_spoilt c__law_draw c__law_crooked) :=
  fnG_of F sc__law_spoilt fun cdv A outer s H E C => by
  unfold b__law_spoilt
  exact (sb_cons (ss_if (st_cmp (o_eq C.hu65) (se_var (i := 1) rfl (Or.inl rfl)) (se_tup sa_nil)) (sb_one (ss_ret (se_tup (sa_cons (se_fn C G__law_crooked (Nat.le_refl _) rfl T__law_crooked.mg T__law_crooked.fu.kp T__law_crooked.bi (sa_cons (se_var (i := 0) rfl (Or.inl rfl)) (sa_cons (se_var (i := 2) rfl (Or.inl rfl)) sa_nil))) sa_nil)))) sb_nil)
    (sb_cons (ss_set (i := 3) sc__law_spoilt.nd rfl (Or.inl rfl) (se_fn C G__law_draw (Nat.le_refl _) rfl T__law_draw.mg T__law_draw.fu.kp T__law_draw.bi (sa_cons (se_var (i := 0) rfl (Or.inl rfl)) (sa_cons (se_callB c_len rfl B.len bt_len (sa_cons (se_var (i := 1) rfl (Or.inl rfl)) sa_nil)) sa_nil))))
    (sb_one (ss_ret (se_op o_add (se_op o_add (se_sl (se_var (i := 1) rfl (Or.inl rfl)) so_no (so_so (se_var (i := 3) rfl (Or.inl rfl)))) (se_tup (sa_cons (se_fn C G__law_crooked (Nat.le_refl _) rfl T__law_crooked.mg T__law_crooked.fu.kp T__law_crooked.bi (sa_cons (se_var (i := 0) rfl (Or.inl rfl)) (sa_cons (se_var (i := 2) rfl (Or.inl rfl)) sa_nil))) sa_nil))) (se_sl (se_var (i := 1) rfl (Or.inl rfl)) (so_so (se_op o_add (se_var (i := 3) rfl (Or.inl rfl)) se_int)) so_no))))))
abbrev st__law_rule : Stmt := topS 57
theorem sc__law_rule : FnScope ["_law_pen_here", "_law_way", "_law_start", "_law_boxes", "_law_left", "_law_there", "_law_numbers", "_law_right", "_law_k"] ["_law_pen_here"] (defScope st__law_rule) := ⟨rfl, rfl, rfl, by decide +kernel, rfl, by decide +kernel, by decide +kernel⟩
def b__law_rule (c__law_draw : Fn) (c__law_boxes_in : Fn) (c__law_spoilt : Fn) (c__law_names_in : Fn) (c__law_plain_deed : Fn) : Sx := (sSeq (sSet 1 (eFn c__law_draw (aCons (eV 0) (aCons (eC (D.int 4)) aNil))))
  (sSeq (sSet 2 (eFn c__law_draw (aCons (eV 0) (aCons (eC (D.int 8)) aNil))))
  (sSeq (sSet 3 (eVal (fLc (iRg (aCons (eOp opAdd (eC (D.int 1)) (eFn c__law_draw (aCons (eV 0) (aCons (eC (D.int 3)) aNil)))) aNil)) (gN 8) tYesD (eOp opIxA (eVal (aCons (eC (D.str "A")) (aCons (eC (D.str "B")) (aCons (eC (D.int 0)) (aCons (eC (D.str "C")) (aCons (eC (D.int 1)) (aCons (eC (D.str "D")) (aCons (eC (D.int 2)) (aCons (eC (D.int 3)) aNil))))))))) (eOp opMod (eOp opAdd (eV 2) (eV 8)) (eC (D.int 8)))) [8])))
  (sSeq (sSet 4 (eCall cTup (aCons (eVal (fLc (iRg (aCons (eOp opAdd (eC (D.int 1)) (eFn c__law_draw (aCons (eV 0) (aCons (eC (D.int 4)) aNil)))) aNil)) (gN 8) tYesD (eFn c__law_plain_deed (aCons (eV 0) (aCons (eV 3) (aCons (eVal (aCons (eC (D.str "k")) (aCons (eC (D.int 1)) (aCons (eC (D.str "l")) (aCons (eC (D.int 7)) aNil))))) aNil)))) [8])) aNil)))
  (sSeq (sIf (tB (eOp opEq (eOp opMod (eV 1) (eC (D.int 2))) (eC (D.int 1)))) (sSet 4 (eFn c__law_spoilt (aCons (eV 0) (aCons (eV 4) (aCons (eV 3) aNil))))) sNil)
  (sSeq (sSet 5 (eFn c__law_boxes_in (aCons (eV 4) aNil)))
  (sSeq (sSet 6 (eOp opAdd (eFn c__law_names_in (aCons (eV 4) aNil)) (eVal (aCons (eC (D.int 0)) (aCons (eTup (aCons (eC (D.str "minus")) (aCons (eC (D.int 8)) (aCons (eC (D.int 2)) aNil)))) aNil)))))
  (sSeq (sSet 7 (eCall cTup (aCons (eVal (fLc (iRg (aCons (eFn c__law_draw (aCons (eV 0) (aCons (eC (D.int 5)) aNil))) aNil)) (gN 8) tYesD (eFn c__law_plain_deed (aCons (eV 0) (aCons (eV 5) (aCons (eV 6) aNil)))) [8])) aNil)))
  (sSeq (sIf (tB (eOp opGt (eV 1) (eC (D.int 1)))) (sSet 7 (eFn c__law_spoilt (aCons (eV 0) (aCons (eV 7) (aCons (eV 5) aNil))))) sNil)
  (sRet (eTup (aCons (eV 4) (aCons (eV 7) (aCons (eCall cTup (aCons (eSl (eV 5) oNo (oSo (eFn c__law_draw (aCons (eV 0) (aCons (eC (D.int 2)) aNil))))) aNil)) aNil))))))))))))))
def r__law_rule (c__law_draw : Fn) (c__law_boxes_in : Fn) (c__law_spoilt : Fn) (c__law_names_in : Fn) (c__law_plain_deed : Fn) : Fn := runF 9 (b__law_rule c__law_draw c__law_boxes_in c__law_spoilt c__law_names_in c__law_plain_deed)
theorem d__law_rule {P : Program} {w : World} {K : PySem.W.Frag} {mg : Str → Option Value} {base : Heap} {k : Nat} (B : Bt mg) {f : Addr} {fd : FuncData} (F : Fun K "_law_rule" "_law_rule" st__law_rule f fd) {f__law_draw : Addr} {fd__law_draw : FuncData} {c__law_draw : Fn} (T__law_draw : Fd K mg "_law_draw" ["_law_pen_here", "_law_many"] st__law_draw f__law_draw fd__law_draw) (G__law_draw : FnG P w K mg base k f__law_draw fd__law_draw ["_law_pen_here", "_law_many"] c__law_draw) {f__law_boxes_in : Addr} {fd__law_boxes_in : FuncData} {c__law_boxes_in : Fn} (T__law_boxes_in : Fd K mg "_law_boxes_in" ["_law_pattern"] st__law_boxes_in f__law_boxes_in fd__law_boxes_in) (G__law_boxes_in : FnG P w K mg base k f__law_boxes_in fd__law_boxes_in ["_law_pattern"] c__law_boxes_in) {f__law_spoilt : Addr} {fd__law_spoilt : FuncData} {c__law_spoilt : Fn} (T__law_spoilt : Fd K mg "_law_spoilt" ["_law_pen_here", "_law_side", "_law_boxes"] st__law_spoilt f__law_spoilt fd__law_spoilt) (G__law_spoilt : FnG P w K mg base k f__law_spoilt fd__law_spoilt ["_law_pen_here", "_law_side", "_law_boxes"] c__law_spoilt) {f__law_names_in : Addr} {fd__law_names_in : FuncData} {c__law_names_in : Fn} (T__law_names_in : Fd K mg "_law_names_in" ["_law_pattern"] st__law_names_in f__law_names_in fd__law_names_in) (G__law_names_in : FnG P w K mg base k f__law_names_in fd__law_names_in ["_law_pattern"] c__law_names_in) {f__law_plain_deed : Addr} {fd__law_plain_deed : FuncData} {c__law_plain_deed : Fn} (T__law_plain_deed : Fd K mg "_law_plain_deed" ["_law_pen_here", "_law_boxes", "_law_numbers"] st__law_plain_deed f__law_plain_deed fd__law_plain_deed) (G__law_plain_deed : FnG P w K mg base k f__law_plain_deed fd__law_plain_deed ["_law_pen_here", "_law_boxes", "_law_numbers"] c__law_plain_deed) : FnG P w K mg base (k + 1) f fd ["_law_pen_here"] (r__law_rule c__law_draw c__law_boxes_in c__law_spoilt c__law_names_in c__law_plain_deed) :=
  fnG_of F sc__law_rule fun cdv A outer s H E C => by
  unfold b__law_rule
  exact (sb_cons (ss_set (i := 1) sc__law_rule.nd rfl (Or.inl rfl) (se_fn C G__law_draw (Nat.le_refl _) rfl T__law_draw.mg T__law_draw.fu.kp T__law_draw.bi (sa_cons (se_var (i := 0) rfl (Or.inr (Or.inl rfl))) (sa_cons se_int sa_nil))))
    (sb_cons (ss_set (i := 2) sc__law_rule.nd rfl (Or.inr rfl) (se_fn C G__law_draw (Nat.le_refl _) rfl T__law_draw.mg T__law_draw.fu.kp T__law_draw.bi (sa_cons (se_var (i := 0) rfl (Or.inr (Or.inl rfl))) (sa_cons se_int sa_nil))))
    (sb_cons (ss_set (i := 3) sc__law_rule.nd rfl (Or.inr rfl) (se_val (sf_lc C (own := [("_law_k", 8)]) sc__law_rule.nd (si_range1 rfl B.range (sa_cons (se_op o_add se_int (se_fn C G__law_draw (Nat.le_refl _) rfl T__law_draw.mg T__law_draw.fu.kp T__law_draw.bi (sa_cons (se_var (i := 0) rfl (Or.inr (Or.inl rfl))) (sa_cons se_int sa_nil)))) sa_nil)) (blkOk_by (N := ["_law_pen_here", "_law_way", "_law_start", "_law_boxes", "_law_left", "_law_there", "_law_numbers", "_law_right", "_law_k"]) (sc := defScope st__law_rule) (own := [("_law_k", 8)]) (by decide +kernel)) (fun s1 H1 A1 cl1 fp1 => (sg_name (i := 8) sc__law_rule.nd rfl (Or.inl rfl))) (fun s1 H1 A1 cl1 fp1 => spt_nil) (fun s1 H1 A1 cl1 fp1 => have C1 := C.blk s1 H1 _ _ fp1; (se_ixA C1 (se_val (sf_lst (sa_cons (se_str (x := "A")) (sa_cons (se_str (x := "B")) (sa_cons se_int (sa_cons (se_str (x := "C")) (sa_cons se_int (sa_cons (se_str (x := "D")) (sa_cons se_int (sa_cons se_int sa_nil)))))))))) (se_op o_mod (se_op o_add (se_var (i := 2) rfl (Or.inr (Or.inl rfl))) (se_var (i := 8) rfl (Or.inl rfl))) se_int))))))
    (sb_cons (ss_set (i := 4) sc__law_rule.nd rfl (Or.inl rfl) (se_callTy c_tup rfl B.tuple bt_tuple (sa_cons (se_val (sf_lc C (own := [("_law_k", 8)]) sc__law_rule.nd (si_range1 rfl B.range (sa_cons (se_op o_add se_int (se_fn C G__law_draw (Nat.le_refl _) rfl T__law_draw.mg T__law_draw.fu.kp T__law_draw.bi (sa_cons (se_var (i := 0) rfl (Or.inr (Or.inl rfl))) (sa_cons se_int sa_nil)))) sa_nil)) (blkOk_by (N := ["_law_pen_here", "_law_way", "_law_start", "_law_boxes", "_law_left", "_law_there", "_law_numbers", "_law_right", "_law_k"]) (sc := defScope st__law_rule) (own := [("_law_k", 8)]) (by decide +kernel)) (fun s1 H1 A1 cl1 fp1 => (sg_name (i := 8) sc__law_rule.nd rfl (Or.inl rfl))) (fun s1 H1 A1 cl1 fp1 => spt_nil) (fun s1 H1 A1 cl1 fp1 => have C1 := C.blk s1 H1 _ _ fp1; (se_fn C1 G__law_plain_deed (Nat.le_refl _) rfl T__law_plain_deed.mg T__law_plain_deed.fu.kp T__law_plain_deed.bi (sa_cons (se_var (i := 0) rfl (Or.inr (Or.inl rfl))) (sa_cons (se_var (i := 3) rfl (Or.inr (Or.inl rfl))) (sa_cons (se_val (sf_lst (sa_cons (se_str (x := "k")) (sa_cons se_int (sa_cons (se_str (x := "l")) (sa_cons se_int sa_nil)))))) sa_nil))))))) sa_nil)))
    (sb_cons (ss_if (st_cmp (o_eq C.hu65) (se_op o_mod (se_var (i := 1) rfl (Or.inl rfl)) se_int) se_int) (sb_one (ss_set (i := 4) sc__law_rule.nd rfl (Or.inl rfl) (se_fn C G__law_spoilt (Nat.le_refl _) rfl T__law_spoilt.mg T__law_spoilt.fu.kp T__law_spoilt.bi (sa_cons (se_var (i := 0) rfl (Or.inr (Or.inl rfl))) (sa_cons (se_var (i := 4) rfl (Or.inl rfl)) (sa_cons (se_var (i := 3) rfl (Or.inr (Or.inl rfl))) sa_nil)))))) sb_nil)
    (sb_cons (ss_set (i := 5) sc__law_rule.nd rfl (Or.inr rfl) (se_fn C G__law_boxes_in (Nat.le_refl _) rfl T__law_boxes_in.mg T__law_boxes_in.fu.kp T__law_boxes_in.bi (sa_cons (se_var (i := 4) rfl (Or.inl rfl)) sa_nil)))
    (sb_cons (ss_set (i := 6) sc__law_rule.nd rfl (Or.inr rfl) (se_op o_add (se_fn C G__law_names_in (Nat.le_refl _) rfl T__law_names_in.mg T__law_names_in.fu.kp T__law_names_in.bi (sa_cons (se_var (i := 4) rfl (Or.inl rfl)) sa_nil)) (se_val (sf_lst (sa_cons se_int (sa_cons (se_tup (sa_cons (se_str (x := "minus")) (sa_cons se_int (sa_cons se_int sa_nil)))) sa_nil))))))
    (sb_cons (ss_set (i := 7) sc__law_rule.nd rfl (Or.inl rfl) (se_callTy c_tup rfl B.tuple bt_tuple (sa_cons (se_val (sf_lc C (own := [("_law_k", 8)]) sc__law_rule.nd (si_range1 rfl B.range (sa_cons (se_fn C G__law_draw (Nat.le_refl _) rfl T__law_draw.mg T__law_draw.fu.kp T__law_draw.bi (sa_cons (se_var (i := 0) rfl (Or.inr (Or.inl rfl))) (sa_cons se_int sa_nil))) sa_nil)) (blkOk_by (N := ["_law_pen_here", "_law_way", "_law_start", "_law_boxes", "_law_left", "_law_there", "_law_numbers", "_law_right", "_law_k"]) (sc := defScope st__law_rule) (own := [("_law_k", 8)]) (by decide +kernel)) (fun s1 H1 A1 cl1 fp1 => (sg_name (i := 8) sc__law_rule.nd rfl (Or.inl rfl))) (fun s1 H1 A1 cl1 fp1 => spt_nil) (fun s1 H1 A1 cl1 fp1 => have C1 := C.blk s1 H1 _ _ fp1; (se_fn C1 G__law_plain_deed (Nat.le_refl _) rfl T__law_plain_deed.mg T__law_plain_deed.fu.kp T__law_plain_deed.bi (sa_cons (se_var (i := 0) rfl (Or.inr (Or.inl rfl))) (sa_cons (se_var (i := 5) rfl (Or.inr (Or.inl rfl))) (sa_cons (se_var (i := 6) rfl (Or.inr (Or.inl rfl))) sa_nil))))))) sa_nil)))
    (sb_cons (ss_if (st_cmp o_gt (se_var (i := 1) rfl (Or.inl rfl)) se_int) (sb_one (ss_set (i := 7) sc__law_rule.nd rfl (Or.inl rfl) (se_fn C G__law_spoilt (Nat.le_refl _) rfl T__law_spoilt.mg T__law_spoilt.fu.kp T__law_spoilt.bi (sa_cons (se_var (i := 0) rfl (Or.inr (Or.inl rfl))) (sa_cons (se_var (i := 7) rfl (Or.inl rfl)) (sa_cons (se_var (i := 5) rfl (Or.inr (Or.inl rfl))) sa_nil)))))) sb_nil)
    (sb_one (ss_ret (se_tup (sa_cons (se_var (i := 4) rfl (Or.inl rfl)) (sa_cons (se_var (i := 7) rfl (Or.inl rfl)) (sa_cons (se_callTy c_tup rfl B.tuple bt_tuple (sa_cons (se_sl (se_var (i := 5) rfl (Or.inr (Or.inl rfl))) so_no (so_so (se_fn C G__law_draw (Nat.le_refl _) rfl T__law_draw.mg T__law_draw.fu.kp T__law_draw.bi (sa_cons (se_var (i := 0) rfl (Or.inr (Or.inl rfl))) (sa_cons se_int sa_nil))))) sa_nil)) sa_nil)))))))))))))))
abbrev st__law_is_plain : Stmt := topS 58
theorem sc__law_is_plain : FnScope ["_law_side", "_law_deed"] ["_law_side"] (defScope st__law_is_plain) := ⟨rfl, rfl, rfl, by decide +kernel, rfl, by decide +kernel, by decide +kernel⟩
def b__law_is_plain : Sx := (sRet (eOp opEq (eCall cLen (aCons (eVal (fLc (iSeq (eV 0)) (gN 1) (tB (eOp opInA (eOp opIxA (eV 1) (eC (D.int 0))) (eTup (aCons (eC (D.str "right")) (aCons (eC (D.str "part")) (aCons (eC (D.str "if")) aNil)))))) (eV 1) [1])) aNil)) (eC (D.int 0))))
def r__law_is_plain : Fn := runF 2 (b__law_is_plain)
theorem d__law_is_plain {P : Program} {w : World} {K : PySem.W.Frag} {mg : Str → Option Value} {base : Heap} {k : Nat} (B : Bt mg) {f : Addr} {fd : FuncData} (F : Fun K "_law_is_plain" "_law_is_plain" st__law_is_plain f fd) : FnG P w K mg base (k + 1) f fd ["_law_side"] (r__law_is_plain) :=
  fnG_of F sc__law_is_plain fun cdv A outer s H E C => by
  unfold b__law_is_plain
  exact (sb_one (ss_ret (se_cmp (o_eq C.hu65) (se_callB c_len rfl B.len bt_len (sa_cons (se_val (sf_lc C (own := [("_law_deed", 1)]) sc__law_is_plain.nd (si_seq (se_var (i := 0) rfl (Or.inl rfl))) (blkOk_by (N := ["_law_side", "_law_deed"]) (sc := defScope st__law_is_plain) (own := [("_law_deed", 1)]) (by decide +kernel)) (fun s1 H1 A1 cl1 fp1 => (sg_name (i := 1) sc__law_is_plain.nd rfl (Or.inl rfl))) (fun s1 H1 A1 cl1 fp1 => have C1 := C.blk s1 H1 _ _ fp1; (spt_one (st_inA C1 (se_ixA C1 (se_var (i := 1) rfl (Or.inl rfl)) se_int) (se_tup (sa_cons (se_str (x := "right")) (sa_cons (se_str (x := "part")) (sa_cons (se_str (x := "if")) sa_nil))))))) (fun s1 H1 A1 cl1 fp1 => (se_var (i := 1) rfl (Or.inl rfl))))) sa_nil)) se_int)))
abbrev st__law_due : Stmt := topS 59
theorem sc__law_due : FnScope ["_law_machine_here", "_law_rule_here", "_law_sides", "_law_numbered", "_law_boxes", "_law_part"] ["_law_machine_here", "_law_rule_here"] (defScope st__law_due) := ⟨rfl, rfl, rfl, by decide +kernel, rfl, by decide +kernel, by decide +kernel⟩
def b__law_due (c__law_boxes_in : Fn) (c__law_is_plain : Fn) : Sx := (sSeq (sSet 2 (eOp opAdd (eOp opIxA (eV 1) (eC (D.int 0))) (eOp opIxA (eV 1) (eC (D.int 1)))))
  (sSeq (sSet 3 (eVal (fLc (iSeq (eFn c__law_boxes_in (aCons (eV 2) aNil))) (gN 5) (tNotP (tV (eCall cIsi (aCons (eV 5) (aCons (eC (D.ty "str")) aNil))))) (eV 5) [5])))
  (sSeq (sSet 4 (eVal (fLc (iSeq (eFn c__law_boxes_in (aCons (eOp opIxA (eV 1) (eC (D.int 0))) aNil))) (gN 5) (tV (eCall cIsi (aCons (eV 5) (aCons (eC (D.ty "str")) aNil)))) (eV 5) [5])))
  (sSeq (sIf (tOrP (tB (eOp opGe (eCall cMaxX (aCons (eOp opAdd (eVal (aCons (eUn opNeg (eC (D.int 1))) aNil)) (eV 3)) aNil)) (eOp opIxA (eV 0) (eC (D.int 1))))) (tB (eOp opLt (eOp opSub (eOp opIxA (eV 0) (eC (D.int 1))) (eCall cLen (aCons (eV 3) aNil))) (eCall cLen (aCons (eV 4) aNil))))) (sRet (eC (D.str "fit"))) sNil)
  (sRet (eOp opIxA (eVal (aCons (eC (D.str "plain")) (aCons (eC (D.str "told")) aNil))) (eCall cInt (aCons (eFn c__law_is_plain (aCons (eOp opAdd (eOp opIxA (eV 1) (eC (D.int 0))) (eOp opIxA (eV 1) (eC (D.int 1)))) aNil)) aNil))))))))
def r__law_due (c__law_boxes_in : Fn) (c__law_is_plain : Fn) : Fn := runF 6 (b__law_due c__law_boxes_in c__law_is_plain)
theorem d__law_due {P : Program} {w : World} {K : PySem.W.Frag} {mg : Str → Option Value} {base : Heap} {k : Nat} (B : Bt mg) {f : Addr} {fd : FuncData} (F : Fun K "_law_due" "_law_due" st__law_due f fd) {f__law_boxes_in : Addr} {fd__law_boxes_in : FuncData} {c__law_boxes_in : Fn} (T__law_boxes_in : Fd K mg "_law_boxes_in" ["_law_pattern"] st__law_boxes_in f__law_boxes_in fd__law_boxes_in) (G__law_boxes_in : FnG P w K mg base k f__law_boxes_in fd__law_boxes_in ["_law_pattern"] c__law_boxes_in) {f__law_is_plain : Addr} {fd__law_is_plain : FuncData} {c__law_is_plain : Fn} (T__law_is_plain : Fd K mg "_law_is_plain" ["_law_side"] st__law_is_plain f__law_is_plain fd__law_is_plain) (G__law_is_plain : FnG P w K mg base k f__law_is_plain fd__law_is_plain ["_law_side"] c__law_is_plain) : FnG P w K mg base (k + 1) f fd ["_law_machine_here", "_law_rule_here"] (r__law_due c__law_boxes_in c__law_is_plain) :=
  fnG_of F sc__law_due fun cdv A outer s H E C => by
  unfold b__law_due
  exact (sb_cons (ss_set (i := 2) sc__law_due.nd rfl (Or.inl rfl) (se_op o_add (se_ixA C (se_var (i := 1) rfl (Or.inl rfl)) se_int) (se_ixA C (se_var (i := 1) rfl (Or.inl rfl)) se_int)))
    (sb_cons (ss_setLc C (i := 3) (own := [("_law_part", 5)]) (fin := eVal) (fun _ _ _ _ => rd_val) sc__law_due.nd rfl rfl (sw_true rfl rfl rfl (by decide +kernel)) (si_seq (se_fn C G__law_boxes_in (Nat.le_refl _) rfl T__law_boxes_in.mg T__law_boxes_in.fu.kp T__law_boxes_in.bi (sa_cons (se_var (i := 2) rfl (Or.inl rfl)) sa_nil))) (blkOk_by (N := ["_law_machine_here", "_law_rule_here", "_law_sides", "_law_numbered", "_law_boxes", "_law_part"]) (sc := defScope st__law_due) (own := [("_law_part", 5)]) (by decide +kernel)) (fun s1 H1 A1 cl1 fp1 => (sg_name (i := 5) sc__law_due.nd rfl (Or.inl rfl))) (fun s1 H1 A1 cl1 fp1 => (spt_one (st_not (st_val (se_callB c_isi rfl B.isinstance bt_isinstance (sa_cons (se_var (i := 5) rfl (Or.inl rfl)) (sa_cons (se_ty rfl B.str bt_str) sa_nil))))))) (fun s1 H1 A1 cl1 fp1 => (se_var (i := 5) rfl (Or.inl rfl))))
    (sb_cons (ss_setLc C (i := 4) (own := [("_law_part", 5)]) (fin := eVal) (fun _ _ _ _ => rd_val) sc__law_due.nd rfl rfl (sw_true rfl rfl rfl (by decide +kernel)) (si_seq (se_fn C G__law_boxes_in (Nat.le_refl _) rfl T__law_boxes_in.mg T__law_boxes_in.fu.kp T__law_boxes_in.bi (sa_cons (se_ixA C (se_var (i := 1) rfl (Or.inl rfl)) se_int) sa_nil))) (blkOk_by (N := ["_law_machine_here", "_law_rule_here", "_law_sides", "_law_numbered", "_law_boxes", "_law_part"]) (sc := defScope st__law_due) (own := [("_law_part", 5)]) (by decide +kernel)) (fun s1 H1 A1 cl1 fp1 => (sg_name (i := 5) sc__law_due.nd rfl (Or.inl rfl))) (fun s1 H1 A1 cl1 fp1 => (spt_one (st_val (se_callB c_isi rfl B.isinstance bt_isinstance (sa_cons (se_var (i := 5) rfl (Or.inl rfl)) (sa_cons (se_ty rfl B.str bt_str) sa_nil)))))) (fun s1 H1 A1 cl1 fp1 => (se_var (i := 5) rfl (Or.inl rfl))))
    (sb_cons (ss_if (st_w (sw_or (st_cmp o_ge (se_callB (c_maxX C.calm C.hu65) rfl B.max bt_max (sa_cons (se_op o_add (se_val (sf_lst (sa_cons (se_neg se_int) sa_nil))) (se_var (i := 3) rfl (Or.inl rfl))) sa_nil)) (se_ixA C (se_var (i := 0) rfl (Or.inl rfl)) se_int)) (sw_or1 (st_cmp (o_lt C.hu0) (se_op o_sub (se_ixA C (se_var (i := 0) rfl (Or.inl rfl)) se_int) (se_callB c_len rfl B.len bt_len (sa_cons (se_var (i := 3) rfl (Or.inl rfl)) sa_nil))) (se_callB c_len rfl B.len bt_len (sa_cons (se_var (i := 4) rfl (Or.inl rfl)) sa_nil)))))) (sb_one (ss_ret (se_str (x := "fit")))) sb_nil)
    (sb_one (ss_ret (se_ixA C (se_val (sf_lst (sa_cons (se_str (x := "plain")) (sa_cons (se_str (x := "told")) sa_nil)))) (se_callTy c_int rfl B.int bt_int (sa_cons (se_fn C G__law_is_plain (Nat.le_refl _) rfl T__law_is_plain.mg T__law_is_plain.fu.kp T__law_is_plain.bi (sa_cons (se_op o_add (se_ixA C (se_var (i := 1) rfl (Or.inl rfl)) se_int) (se_ixA C (se_var (i := 1) rfl (Or.inl rfl)) se_int)) sa_nil)) sa_nil)))))))))
abbrev st__law_heard : Stmt := topS 60
theorem sc__law_heard : FnScope ["_law_machine_here", "_law_rule_here", "_law_caught", "_law_found", "e"] ["_law_machine_here", "_law_rule_here"] (defScope st__law_heard) := ⟨rfl, rfl, rfl, by decide +kernel, rfl, by decide +kernel, by decide +kernel⟩
def b__law_heard (c_parted_by_sums : Fn) : Sx := (sSeq (sSet 2 (eC D.non))
  (sSeq (sSet 3 (eC D.non))
  (sSeq (sTry 4 2 xcs (sSet 3 (eFn c_parted_by_sums (aCons (eV 0) (aCons (eV 1) aNil)))))
  (sSeq (sIf (tB (eOp opIs (eV 2) (eC D.non))) (sSeq (sIf (tOrP (tB (eOp opIs (eV 3) (eC D.non))) (tAndP (tV (eCall cIsi (aCons (eV 3) (aCons (eC (D.ty "tuple")) aNil)))) (tB (eOp opEq (eCall cLen (aCons (eV 3) aNil)) (eC (D.int 2)))))) (sRet (eC (D.str "told"))) sNil)
  (sRet (eC (D.str "odd")))) sNil)
  (sSeq (sIf (tV (eIsX xcs ["Loose", "Needed", "NoBack", "NoBook", "NoName", "NoRow", "NoStep", "NoText", "NotSure"] (eV 2))) (sRet (eC (D.str "other"))) sNil)
  (sSeq (sIf (tOrP (tV (eIsX xcs ["NoWay", "TooMany"] (eV 2))) (tNotP (tV (eIsX xcs ["ValueError"] (eV 2))))) (sRet (eC (D.str "other"))) sNil)
  (sSeq (sIf (tB (eOp opEq (eIsX xcs ["NoFit"] (eV 2)) (eIsX xcs ["NotPlain"] (eV 2)))) (sRet (eC (D.str "other"))) sNil)
  (sRet (eOp opIxA (eVal (aCons (eC (D.str "plain")) (aCons (eC (D.str "fit")) aNil))) (eCall cInt (aCons (eIsX xcs ["NoFit"] (eV 2)) aNil)))))))))))
def r__law_heard (c_parted_by_sums : Fn) : Fn := runF 5 (b__law_heard c_parted_by_sums)
theorem d__law_heard {P : Program} {w : World} {K : PySem.W.Frag} {mg : Str → Option Value} {base : Heap} {k : Nat} (B : Bt mg) {f : Addr} {fd : FuncData} (F : Fun K "_law_heard" "_law_heard" st__law_heard f fd) {f_parted_by_sums : Addr} {fd_parted_by_sums : FuncData} {c_parted_by_sums : Fn} (T_parted_by_sums : Fd K mg "parted_by_sums" ["machine", "rule"] st_parted_by_sums f_parted_by_sums fd_parted_by_sums) (G_parted_by_sums : FnG P w K mg base k f_parted_by_sums fd_parted_by_sums ["machine", "rule"] c_parted_by_sums) {R_x : Addr} (XS : Xs mg K R_x xcs) {v_Loose : V} {w_Loose : Value} (N_Loose : Xn mg K xcs "Loose" v_Loose w_Loose) {v_Needed : V} {w_Needed : Value} (N_Needed : Xn mg K xcs "Needed" v_Needed w_Needed) {v_NoBack : V} {w_NoBack : Value} (N_NoBack : Xn mg K xcs "NoBack" v_NoBack w_NoBack) {v_NoBook : V} {w_NoBook : Value} (N_NoBook : Xn mg K xcs "NoBook" v_NoBook w_NoBook) {v_NoName : V} {w_NoName : Value} (N_NoName : Xn mg K xcs "NoName" v_NoName w_NoName) {v_NoRow : V} {w_NoRow : Value} (N_NoRow : Xn mg K xcs "NoRow" v_NoRow w_NoRow) {v_NoStep : V} {w_NoStep : Value} (N_NoStep : Xn mg K xcs "NoStep" v_NoStep w_NoStep) {v_NoText : V} {w_NoText : Value} (N_NoText : Xn mg K xcs "NoText" v_NoText w_NoText) {v_NotSure : V} {w_NotSure : Value} (N_NotSure : Xn mg K xcs "NotSure" v_NotSure w_NotSure) {v_NoWay : V} {w_NoWay : Value} (N_NoWay : Xn mg K xcs "NoWay" v_NoWay w_NoWay) {v_TooMany : V} {w_TooMany : Value} (N_TooMany : Xn mg K xcs "TooMany" v_TooMany w_TooMany) {v_ValueError : V} {w_ValueError : Value} (N_ValueError : Xn mg K xcs "ValueError" v_ValueError w_ValueError) {v_NoFit : V} {w_NoFit : Value} (N_NoFit : Xn mg K xcs "NoFit" v_NoFit w_NoFit) {v_NotPlain : V} {w_NotPlain : Value} (N_NotPlain : Xn mg K xcs "NotPlain" v_NotPlain w_NotPlain) : FnG P w K mg base (k + 1) f fd ["_law_machine_here", "_law_rule_here"] (r__law_heard c_parted_by_sums) :=
  fnG_of F sc__law_heard fun cdv A outer s H E C => by
  unfold b__law_heard
  exact (sb_cons (ss_set (i := 2) sc__law_heard.nd rfl (Or.inl rfl) se_non)
    (sb_cons (ss_set (i := 3) sc__law_heard.nd rfl (Or.inl rfl) se_non)
    (sb_cons (ss_try (i := 4) (j := 2) C sc__law_heard.nd XS rfl rfl rfl rfl rfl (fun _ _ _ C => (sb_one (ss_set (i := 3) sc__law_heard.nd rfl (Or.inl rfl) (se_fn C G_parted_by_sums (Nat.le_refl _) rfl T_parted_by_sums.mg T_parted_by_sums.fu.kp T_parted_by_sums.bi (sa_cons (se_var (i := 0) rfl (Or.inl rfl)) (sa_cons (se_var (i := 1) rfl (Or.inl rfl)) sa_nil)))))))
    (sb_cons (ss_if (st_cmp o_is (se_var (i := 2) rfl (Or.inl rfl)) se_non) (sb_cons (ss_if (st_w (sw_or (st_cmp o_is (se_var (i := 3) rfl (Or.inl rfl)) se_non) (sw_or1 (st_w (sw_and (st_val (se_callB c_isi rfl B.isinstance bt_isinstance (sa_cons (se_var (i := 3) rfl (Or.inl rfl)) (sa_cons (se_ty rfl B.tuple bt_tuple) sa_nil)))) (sw_and1 (st_cmp (o_eq C.hu65) (se_callB c_len rfl B.len bt_len (sa_cons (se_var (i := 3) rfl (Or.inl rfl)) sa_nil)) se_int))))))) (sb_one (ss_ret (se_str (x := "told")))) sb_nil)
    (sb_one (ss_ret (se_str (x := "odd"))))) sb_nil)
    (sb_cons (ss_if (st_val (se_isXT XS rfl B.isinstance bt_isinstance (se_var (i := 2) rfl (Or.inl rfl)) (xl_cons N_Loose rfl (xl_cons N_Needed rfl (xl_cons N_NoBack rfl (xl_cons N_NoBook rfl (xl_cons N_NoName rfl (xl_cons N_NoRow rfl (xl_cons N_NoStep rfl (xl_cons N_NoText rfl (xl_cons N_NotSure rfl xl_nil))))))))))) (sb_one (ss_ret (se_str (x := "other")))) sb_nil)
    (sb_cons (ss_if (st_w (sw_or (st_val (se_isXT XS rfl B.isinstance bt_isinstance (se_var (i := 2) rfl (Or.inl rfl)) (xl_cons N_NoWay rfl (xl_cons N_TooMany rfl xl_nil)))) (sw_or1 (st_not (st_val (se_isX XS rfl B.isinstance bt_isinstance (se_var (i := 2) rfl (Or.inl rfl)) N_ValueError rfl)))))) (sb_one (ss_ret (se_str (x := "other")))) sb_nil)
    (sb_cons (ss_if (st_cmp (o_eq C.hu65) (se_isX XS rfl B.isinstance bt_isinstance (se_var (i := 2) rfl (Or.inl rfl)) N_NoFit rfl) (se_isX XS rfl B.isinstance bt_isinstance (se_var (i := 2) rfl (Or.inl rfl)) N_NotPlain rfl)) (sb_one (ss_ret (se_str (x := "other")))) sb_nil)
    (sb_one (ss_ret (se_ixA C (se_val (sf_lst (sa_cons (se_str (x := "plain")) (sa_cons (se_str (x := "fit")) sa_nil)))) (se_callTy c_int rfl B.int bt_int (sa_cons (se_isX XS rfl B.isinstance bt_isinstance (se_var (i := 2) rfl (Or.inl rfl)) N_NoFit rfl) sa_nil))))))))))))
abbrev st_law : Stmt := topS 61
theorem sc_law : FnScope ["_law_script", "_law_pen_here", "_law_turn", "_law_machine_here", "_law_rule_here", "_law_some", "_law_side", "_law_found"] ["_law_script"] (defScope st_law) := ⟨rfl, rfl, rfl, by decide +kernel, rfl, by decide +kernel, by decide +kernel⟩
def b_law (c__law_pen : Fn) (c__law_machine : Fn) (c__law_rule : Fn) (c_is_plain : Fn) (c__law_heard : Fn) (c__law_due : Fn) (c__law_is_plain : Fn) : Sx := (sSeq (sSet 1 (eFn c__law_pen (aCons (eV 0) aNil)))
  (sSeq (sFor (iRg (aCons (eC (D.int 8)) aNil)) (gN 2) (sSeq (sSet 3 (eFn c__law_machine (aCons (eV 1) aNil)))
  (sSeq (sSet 4 (eFn c__law_rule (aCons (eV 1) aNil)))
  (sSeq (sFor (iSeq (eTup (aCons (eV 3) (aCons (eTup (aCons (eOp opIxA (eV 3) (eC (D.int 0))) (aCons (eC (D.int 4)) aNil))) (aCons (eTup (aCons (eC (D.int 60)) (aCons (eC (D.int 1)) aNil))) (aCons (eV 3) aNil)))))) (gN 5) (sIf (tB (eOp opNe (eFn c__law_heard (aCons (eV 5) (aCons (eV 4) aNil))) (eFn c__law_due (aCons (eV 5) (aCons (eV 4) aNil))))) (sRet (eC (D.bl false))) sNil))
  (sFor (iSeq (eSl (eV 4) oNo (oSo (eC (D.int 2))))) (gN 6) (sSeq (sSet 7 (eFn c_is_plain (aCons (eV 6) aNil)))
  (sIf (tOrP (tNotP (tV (eCall cIsi (aCons (eV 7) (aCons (eC (D.ty "bool")) aNil))))) (tB (eOp opNe (eV 7) (eFn c__law_is_plain (aCons (eV 6) aNil))))) (sRet (eC (D.bl false))) sNil)))))))
  (sRet (eC (D.bl true)))))
def r_law (c__law_pen : Fn) (c__law_machine : Fn) (c__law_rule : Fn) (c_is_plain : Fn) (c__law_heard : Fn) (c__law_due : Fn) (c__law_is_plain : Fn) : Fn := runF 8 (b_law c__law_pen c__law_machine c__law_rule c_is_plain c__law_heard c__law_due c__law_is_plain)
theorem d_law {P : Program} {w : World} {K : PySem.W.Frag} {mg : Str → Option Value} {base : Heap} {k : Nat} (B : Bt mg) {f : Addr} {fd : FuncData} (F : Fun K "law" "law" st_law f fd) {f__law_pen : Addr} {fd__law_pen : FuncData} {c__law_pen : Fn} (T__law_pen : Fd K mg "_law_pen" ["_law_script"] st__law_pen f__law_pen fd__law_pen) (G__law_pen : FnG P w K mg base k f__law_pen fd__law_pen ["_law_script"] c__law_pen) {f__law_machine : Addr} {fd__law_machine : FuncData} {c__law_machine : Fn} (T__law_machine : Fd K mg "_law_machine" ["_law_pen_here"] st__law_machine f__law_machine fd__law_machine) (G__law_machine : FnG P w K mg base k f__law_machine fd__law_machine ["_law_pen_here"] c__law_machine) {f__law_rule : Addr} {fd__law_rule : FuncData} {c__law_rule : Fn} (T__law_rule : Fd K mg "_law_rule" ["_law_pen_here"] st__law_rule f__law_rule fd__law_rule) (G__law_rule : FnG P w K mg base k f__law_rule fd__law_rule ["_law_pen_here"] c__law_rule) {f_is_plain : Addr} {fd_is_plain : FuncData} {c_is_plain : Fn} (T_is_plain : Fd K mg "is_plain" ["pattern"] st_is_plain f_is_plain fd_is_plain) (G_is_plain : FnG P w K mg base k f_is_plain fd_is_plain ["pattern"] c_is_plain) {f__law_heard : Addr} {fd__law_heard : FuncData} {c__law_heard : Fn} (T__law_heard : Fd K mg "_law_heard" ["_law_machine_here", "_law_rule_here"] st__law_heard f__law_heard fd__law_heard) (G__law_heard : FnG P w K mg base k f__law_heard fd__law_heard ["_law_machine_here", "_law_rule_here"] c__law_heard) {f__law_due : Addr} {fd__law_due : FuncData} {c__law_due : Fn} (T__law_due : Fd K mg "_law_due" ["_law_machine_here", "_law_rule_here"] st__law_due f__law_due fd__law_due) (G__law_due : FnG P w K mg base k f__law_due fd__law_due ["_law_machine_here", "_law_rule_here"] c__law_due) {f__law_is_plain : Addr} {fd__law_is_plain : FuncData} {c__law_is_plain : Fn} (T__law_is_plain : Fd K mg "_law_is_plain" ["_law_side"] st__law_is_plain f__law_is_plain fd__law_is_plain) (G__law_is_plain : FnG P w K mg base k f__law_is_plain fd__law_is_plain ["_law_side"] c__law_is_plain) : FnG P w K mg base (k + 1) f fd ["_law_script"] (r_law c__law_pen c__law_machine c__law_rule c_is_plain c__law_heard c__law_due c__law_is_plain) :=
  fnG_of F sc_law fun cdv A outer s H E C => by
  unfold b_law
  exact (sb_cons (ss_set (i := 1) sc_law.nd rfl (Or.inl rfl) (se_fn C G__law_pen (Nat.le_refl _) rfl T__law_pen.mg T__law_pen.fu.kp T__law_pen.bi (sa_cons (se_var (i := 0) rfl (Or.inl rfl)) sa_nil)))
    (sb_cons (ss_for C (si_range1 rfl B.range (sa_cons se_int sa_nil)) (sg_name (i := 2) sc_law.nd rfl (Or.inl rfl)) (sb_cons (ss_set (i := 3) sc_law.nd rfl (Or.inl rfl) (se_fn C G__law_machine (Nat.le_refl _) rfl T__law_machine.mg T__law_machine.fu.kp T__law_machine.bi (sa_cons (se_var (i := 1) rfl (Or.inl rfl)) sa_nil)))
    (sb_cons (ss_set (i := 4) sc_law.nd rfl (Or.inl rfl) (se_fn C G__law_rule (Nat.le_refl _) rfl T__law_rule.mg T__law_rule.fu.kp T__law_rule.bi (sa_cons (se_var (i := 1) rfl (Or.inl rfl)) sa_nil)))
    (sb_cons (ss_for C (si_seq (se_tup (sa_cons (se_var (i := 3) rfl (Or.inl rfl)) (sa_cons (se_tup (sa_cons (se_ixA C (se_var (i := 3) rfl (Or.inl rfl)) se_int) (sa_cons se_int sa_nil))) (sa_cons (se_tup (sa_cons se_int (sa_cons se_int sa_nil))) (sa_cons (se_var (i := 3) rfl (Or.inl rfl)) sa_nil)))))) (sg_name (i := 5) sc_law.nd rfl (Or.inl rfl)) (sb_one (ss_if (st_cmp (o_ne C.hu65) (se_fn C G__law_heard (Nat.le_refl _) rfl T__law_heard.mg T__law_heard.fu.kp T__law_heard.bi (sa_cons (se_var (i := 5) rfl (Or.inl rfl)) (sa_cons (se_var (i := 4) rfl (Or.inl rfl)) sa_nil))) (se_fn C G__law_due (Nat.le_refl _) rfl T__law_due.mg T__law_due.fu.kp T__law_due.bi (sa_cons (se_var (i := 5) rfl (Or.inl rfl)) (sa_cons (se_var (i := 4) rfl (Or.inl rfl)) sa_nil)))) (sb_one (ss_ret se_bl)) sb_nil)))
    (sb_one (ss_for C (si_seq (se_sl (se_var (i := 4) rfl (Or.inl rfl)) so_no (so_so se_int))) (sg_name (i := 6) sc_law.nd rfl (Or.inl rfl)) (sb_cons (ss_set (i := 7) sc_law.nd rfl (Or.inl rfl) (se_fn C G_is_plain (Nat.le_refl _) rfl T_is_plain.mg T_is_plain.fu.kp T_is_plain.bi (sa_cons (se_var (i := 6) rfl (Or.inl rfl)) sa_nil)))
    (sb_one (ss_if (st_w (sw_or (st_not (st_val (se_callB c_isi rfl B.isinstance bt_isinstance (sa_cons (se_var (i := 7) rfl (Or.inl rfl)) (sa_cons (se_ty rfl B.bool bt_bool) sa_nil))))) (sw_or1 (st_cmp (o_ne C.hu65) (se_var (i := 7) rfl (Or.inl rfl)) (se_fn C G__law_is_plain (Nat.le_refl _) rfl T__law_is_plain.mg T__law_is_plain.fu.kp T__law_is_plain.bi (sa_cons (se_var (i := 6) rfl (Or.inl rfl)) sa_nil)))))) (sb_one (ss_ret se_bl)) sb_nil)))))))))
    (sb_one (ss_ret se_bl))))
def F_box_place : Fn := (r_box_place)
def F_form : Nat → Fn
  | 0 => fun _ _ => .stuck
  | n + 1 => (r_form (F_form n))
def F_parts_in : Nat → Fn
  | 0 => fun _ _ => .stuck
  | n + 1 => (r_parts_in (F_parts_in n))
def F_all_parts_in : Fn := (fzF (r_all_parts_in (F_parts_in 12)))
def F_words_in : Nat → Fn
  | 0 => fun _ _ => .stuck
  | n + 1 => (r_words_in (F_words_in n))
def F_box_parts : Fn := (fzF (r_box_parts F_all_parts_in F_box_place))
def F_names_of_part : Nat → Fn
  | 0 => fun _ _ => .stuck
  | n + 1 => (r_names_of_part (F_names_of_part n))
def F_number_names : Fn := (fzF (r_number_names F_all_parts_in (F_names_of_part 12)))
def F_box_names : Fn := (r_box_names F_box_parts)
def F_names : Fn := (r_names F_number_names F_box_names)
def F_written : Fn := (r_written F_box_parts)
def F_boxes_left : Fn := (r_boxes_left F_written)
def F_fits : Fn := (r_fits F_boxes_left F_box_names F_written)
def F_need_fit : Fn := (r_need_fit F_fits)
def F_is_plain : Fn := (r_is_plain (F_words_in 12))
def F_own_form : Fn := (r_own_form F_box_place)
def F_number_form : Fn := (r_number_form (F_form 12))
def F_form_sum : Fn := (r_form_sum)
def F_form_behind : Fn := (r_form_behind F_form_sum F_number_form)
def F_forms : Fn := (fzF (r_forms F_box_parts F_own_form F_form_behind))
def F_first_unlike : Fn := (r_first_unlike F_box_parts F_forms F_own_form)
def F_parted_by_sums : Fn := (fzF (r_parted_by_sums F_need_fit F_first_unlike F_boxes_left F_box_parts F_box_names F_is_plain F_box_place F_names))
def F__law_pen : Fn := (r__law_pen)
def F__law_draw : Fn := (r__law_draw)
def F__law_plain_deed : Fn := (r__law_plain_deed F__law_draw)
def F__law_boxes_in : Fn := (r__law_boxes_in)
def F__law_names_of : Nat → Fn
  | 0 => fun _ _ => .stuck
  | n + 1 => (r__law_names_of (F__law_names_of n))
def F__law_names_in : Fn := (r__law_names_in (F__law_names_of 12))
def F__law_machine : Fn := (r__law_machine F__law_draw)
def F__law_crooked : Fn := (r__law_crooked F__law_draw)
def F__law_spoilt : Fn := (r__law_spoilt F__law_draw F__law_crooked)
def F__law_rule : Fn := (r__law_rule F__law_draw F__law_boxes_in F__law_spoilt F__law_names_in F__law_plain_deed)
def F__law_is_plain : Fn := (r__law_is_plain)
def F__law_due : Fn := (r__law_due F__law_boxes_in F__law_is_plain)
def F__law_heard : Fn := (r__law_heard F_parted_by_sums)
def F_law : Fn := (r_law F__law_pen F__law_machine F__law_rule F_is_plain F__law_heard F__law_due F__law_is_plain)
theorem all_mk {l : PySem.W.OpenLaw} {w : World} {K : PySem.W.Frag} {h : Heap} {mg : Str → Option Value} {fa : Addr} (X : K.In h) (G : h.Ns mainGlobals mg) (hfa : mg "law" = some (.ref fa))
    {f0 : Addr} {od0 an0 : Option Addr} {sl0 : Array (Option Value)} {oc0 kV0 dc0 pm0 cd0 ct0 : Value}
    (a0 : PySem.W.nsIn K mainGlobals "box_place" = some (some (.ref f0))) (l0 : K.lookup f0 = some ⟨oc0, od0, .func (PySem.W.fnOf "box_place" "box_place" (defArgs st_box_place) (defBody st_box_place) (defScope st_box_place) .none kV0 dc0 pm0 an0 cd0 ct0), sl0⟩) (c0 : PySem.W.codeIn K cd0 "box_place" = true) (k0 : PySem.W.keepIn K (.ref f0) = true)
    {f1 : Addr} {od1 an1 : Option Addr} {sl1 : Array (Option Value)} {oc1 kV1 dc1 pm1 cd1 ct1 : Value}
    (a1 : PySem.W.nsIn K mainGlobals "form" = some (some (.ref f1))) (l1 : K.lookup f1 = some ⟨oc1, od1, .func (PySem.W.fnOf "form" "form" (defArgs st_form) (defBody st_form) (defScope st_form) .none kV1 dc1 pm1 an1 cd1 ct1), sl1⟩) (c1 : PySem.W.codeIn K cd1 "form" = true) (k1 : PySem.W.keepIn K (.ref f1) = true)
    {f2 : Addr} {od2 an2 : Option Addr} {sl2 : Array (Option Value)} {oc2 kV2 dc2 pm2 cd2 ct2 : Value}
    (a2 : PySem.W.nsIn K mainGlobals "parts_in" = some (some (.ref f2))) (l2 : K.lookup f2 = some ⟨oc2, od2, .func (PySem.W.fnOf "parts_in" "parts_in" (defArgs st_parts_in) (defBody st_parts_in) (defScope st_parts_in) .none kV2 dc2 pm2 an2 cd2 ct2), sl2⟩) (c2 : PySem.W.codeIn K cd2 "parts_in" = true) (k2 : PySem.W.keepIn K (.ref f2) = true)
    {f3 : Addr} {od3 an3 : Option Addr} {sl3 : Array (Option Value)} {oc3 kV3 dc3 pm3 cd3 ct3 : Value}
    (a3 : PySem.W.nsIn K mainGlobals "all_parts_in" = some (some (.ref f3))) (l3 : K.lookup f3 = some ⟨oc3, od3, .func (PySem.W.fnOf "all_parts_in" "all_parts_in" (defArgs st_all_parts_in) (defBody st_all_parts_in) (defScope st_all_parts_in) .none kV3 dc3 pm3 an3 cd3 ct3), sl3⟩) (c3 : PySem.W.codeIn K cd3 "all_parts_in" = true) (k3 : PySem.W.keepIn K (.ref f3) = true)
    {f4 : Addr} {od4 an4 : Option Addr} {sl4 : Array (Option Value)} {oc4 kV4 dc4 pm4 cd4 ct4 : Value}
    (a4 : PySem.W.nsIn K mainGlobals "words_in" = some (some (.ref f4))) (l4 : K.lookup f4 = some ⟨oc4, od4, .func (PySem.W.fnOf "words_in" "words_in" (defArgs st_words_in) (defBody st_words_in) (defScope st_words_in) .none kV4 dc4 pm4 an4 cd4 ct4), sl4⟩) (c4 : PySem.W.codeIn K cd4 "words_in" = true) (k4 : PySem.W.keepIn K (.ref f4) = true)
    {f5 : Addr} {od5 an5 : Option Addr} {sl5 : Array (Option Value)} {oc5 kV5 dc5 pm5 cd5 ct5 : Value}
    (a5 : PySem.W.nsIn K mainGlobals "box_parts" = some (some (.ref f5))) (l5 : K.lookup f5 = some ⟨oc5, od5, .func (PySem.W.fnOf "box_parts" "box_parts" (defArgs st_box_parts) (defBody st_box_parts) (defScope st_box_parts) .none kV5 dc5 pm5 an5 cd5 ct5), sl5⟩) (c5 : PySem.W.codeIn K cd5 "box_parts" = true) (k5 : PySem.W.keepIn K (.ref f5) = true)
    {f6 : Addr} {od6 an6 : Option Addr} {sl6 : Array (Option Value)} {oc6 kV6 dc6 pm6 cd6 ct6 : Value}
    (a6 : PySem.W.nsIn K mainGlobals "names_of_part" = some (some (.ref f6))) (l6 : K.lookup f6 = some ⟨oc6, od6, .func (PySem.W.fnOf "names_of_part" "names_of_part" (defArgs st_names_of_part) (defBody st_names_of_part) (defScope st_names_of_part) .none kV6 dc6 pm6 an6 cd6 ct6), sl6⟩) (c6 : PySem.W.codeIn K cd6 "names_of_part" = true) (k6 : PySem.W.keepIn K (.ref f6) = true)
    {f7 : Addr} {od7 an7 : Option Addr} {sl7 : Array (Option Value)} {oc7 kV7 dc7 pm7 cd7 ct7 : Value}
    (a7 : PySem.W.nsIn K mainGlobals "number_names" = some (some (.ref f7))) (l7 : K.lookup f7 = some ⟨oc7, od7, .func (PySem.W.fnOf "number_names" "number_names" (defArgs st_number_names) (defBody st_number_names) (defScope st_number_names) .none kV7 dc7 pm7 an7 cd7 ct7), sl7⟩) (c7 : PySem.W.codeIn K cd7 "number_names" = true) (k7 : PySem.W.keepIn K (.ref f7) = true)
    {f8 : Addr} {od8 an8 : Option Addr} {sl8 : Array (Option Value)} {oc8 kV8 dc8 pm8 cd8 ct8 : Value}
    (a8 : PySem.W.nsIn K mainGlobals "box_names" = some (some (.ref f8))) (l8 : K.lookup f8 = some ⟨oc8, od8, .func (PySem.W.fnOf "box_names" "box_names" (defArgs st_box_names) (defBody st_box_names) (defScope st_box_names) .none kV8 dc8 pm8 an8 cd8 ct8), sl8⟩) (c8 : PySem.W.codeIn K cd8 "box_names" = true) (k8 : PySem.W.keepIn K (.ref f8) = true)
    {f9 : Addr} {od9 an9 : Option Addr} {sl9 : Array (Option Value)} {oc9 kV9 dc9 pm9 cd9 ct9 : Value}
    (a9 : PySem.W.nsIn K mainGlobals "names" = some (some (.ref f9))) (l9 : K.lookup f9 = some ⟨oc9, od9, .func (PySem.W.fnOf "names" "names" (defArgs st_names) (defBody st_names) (defScope st_names) .none kV9 dc9 pm9 an9 cd9 ct9), sl9⟩) (c9 : PySem.W.codeIn K cd9 "names" = true) (k9 : PySem.W.keepIn K (.ref f9) = true)
    {f10 : Addr} {od10 an10 : Option Addr} {sl10 : Array (Option Value)} {oc10 kV10 dc10 pm10 cd10 ct10 : Value}
    (a10 : PySem.W.nsIn K mainGlobals "written" = some (some (.ref f10))) (l10 : K.lookup f10 = some ⟨oc10, od10, .func (PySem.W.fnOf "written" "written" (defArgs st_written) (defBody st_written) (defScope st_written) .none kV10 dc10 pm10 an10 cd10 ct10), sl10⟩) (c10 : PySem.W.codeIn K cd10 "written" = true) (k10 : PySem.W.keepIn K (.ref f10) = true)
    {f11 : Addr} {od11 an11 : Option Addr} {sl11 : Array (Option Value)} {oc11 kV11 dc11 pm11 cd11 ct11 : Value}
    (a11 : PySem.W.nsIn K mainGlobals "boxes_left" = some (some (.ref f11))) (l11 : K.lookup f11 = some ⟨oc11, od11, .func (PySem.W.fnOf "boxes_left" "boxes_left" (defArgs st_boxes_left) (defBody st_boxes_left) (defScope st_boxes_left) .none kV11 dc11 pm11 an11 cd11 ct11), sl11⟩) (c11 : PySem.W.codeIn K cd11 "boxes_left" = true) (k11 : PySem.W.keepIn K (.ref f11) = true)
    {f12 : Addr} {od12 an12 : Option Addr} {sl12 : Array (Option Value)} {oc12 kV12 dc12 pm12 cd12 ct12 : Value}
    (a12 : PySem.W.nsIn K mainGlobals "fits" = some (some (.ref f12))) (l12 : K.lookup f12 = some ⟨oc12, od12, .func (PySem.W.fnOf "fits" "fits" (defArgs st_fits) (defBody st_fits) (defScope st_fits) .none kV12 dc12 pm12 an12 cd12 ct12), sl12⟩) (c12 : PySem.W.codeIn K cd12 "fits" = true) (k12 : PySem.W.keepIn K (.ref f12) = true)
    {f13 : Addr} {od13 an13 : Option Addr} {sl13 : Array (Option Value)} {oc13 kV13 dc13 pm13 cd13 ct13 : Value}
    (a13 : PySem.W.nsIn K mainGlobals "need_fit" = some (some (.ref f13))) (l13 : K.lookup f13 = some ⟨oc13, od13, .func (PySem.W.fnOf "need_fit" "need_fit" (defArgs st_need_fit) (defBody st_need_fit) (defScope st_need_fit) .none kV13 dc13 pm13 an13 cd13 ct13), sl13⟩) (c13 : PySem.W.codeIn K cd13 "need_fit" = true) (k13 : PySem.W.keepIn K (.ref f13) = true)
    {f14 : Addr} {od14 an14 : Option Addr} {sl14 : Array (Option Value)} {oc14 kV14 dc14 pm14 cd14 ct14 : Value}
    (a14 : PySem.W.nsIn K mainGlobals "is_plain" = some (some (.ref f14))) (l14 : K.lookup f14 = some ⟨oc14, od14, .func (PySem.W.fnOf "is_plain" "is_plain" (defArgs st_is_plain) (defBody st_is_plain) (defScope st_is_plain) .none kV14 dc14 pm14 an14 cd14 ct14), sl14⟩) (c14 : PySem.W.codeIn K cd14 "is_plain" = true) (k14 : PySem.W.keepIn K (.ref f14) = true)
    {f15 : Addr} {od15 an15 : Option Addr} {sl15 : Array (Option Value)} {oc15 kV15 dc15 pm15 cd15 ct15 : Value}
    (a15 : PySem.W.nsIn K mainGlobals "own_form" = some (some (.ref f15))) (l15 : K.lookup f15 = some ⟨oc15, od15, .func (PySem.W.fnOf "own_form" "own_form" (defArgs st_own_form) (defBody st_own_form) (defScope st_own_form) .none kV15 dc15 pm15 an15 cd15 ct15), sl15⟩) (c15 : PySem.W.codeIn K cd15 "own_form" = true) (k15 : PySem.W.keepIn K (.ref f15) = true)
    {f16 : Addr} {od16 an16 : Option Addr} {sl16 : Array (Option Value)} {oc16 kV16 dc16 pm16 cd16 ct16 : Value}
    (a16 : PySem.W.nsIn K mainGlobals "number_form" = some (some (.ref f16))) (l16 : K.lookup f16 = some ⟨oc16, od16, .func (PySem.W.fnOf "number_form" "number_form" (defArgs st_number_form) (defBody st_number_form) (defScope st_number_form) .none kV16 dc16 pm16 an16 cd16 ct16), sl16⟩) (c16 : PySem.W.codeIn K cd16 "number_form" = true) (k16 : PySem.W.keepIn K (.ref f16) = true)
    {f17 : Addr} {od17 an17 : Option Addr} {sl17 : Array (Option Value)} {oc17 kV17 dc17 pm17 cd17 ct17 : Value}
    (a17 : PySem.W.nsIn K mainGlobals "form_sum" = some (some (.ref f17))) (l17 : K.lookup f17 = some ⟨oc17, od17, .func (PySem.W.fnOf "form_sum" "form_sum" (defArgs st_form_sum) (defBody st_form_sum) (defScope st_form_sum) .none kV17 dc17 pm17 an17 cd17 ct17), sl17⟩) (c17 : PySem.W.codeIn K cd17 "form_sum" = true) (k17 : PySem.W.keepIn K (.ref f17) = true)
    {f18 : Addr} {od18 an18 : Option Addr} {sl18 : Array (Option Value)} {oc18 kV18 dc18 pm18 cd18 ct18 : Value}
    (a18 : PySem.W.nsIn K mainGlobals "form_behind" = some (some (.ref f18))) (l18 : K.lookup f18 = some ⟨oc18, od18, .func (PySem.W.fnOf "form_behind" "form_behind" (defArgs st_form_behind) (defBody st_form_behind) (defScope st_form_behind) .none kV18 dc18 pm18 an18 cd18 ct18), sl18⟩) (c18 : PySem.W.codeIn K cd18 "form_behind" = true) (k18 : PySem.W.keepIn K (.ref f18) = true)
    {f19 : Addr} {od19 an19 : Option Addr} {sl19 : Array (Option Value)} {oc19 kV19 dc19 pm19 cd19 ct19 : Value}
    (a19 : PySem.W.nsIn K mainGlobals "forms" = some (some (.ref f19))) (l19 : K.lookup f19 = some ⟨oc19, od19, .func (PySem.W.fnOf "forms" "forms" (defArgs st_forms) (defBody st_forms) (defScope st_forms) .none kV19 dc19 pm19 an19 cd19 ct19), sl19⟩) (c19 : PySem.W.codeIn K cd19 "forms" = true) (k19 : PySem.W.keepIn K (.ref f19) = true)
    {f20 : Addr} {od20 an20 : Option Addr} {sl20 : Array (Option Value)} {oc20 kV20 dc20 pm20 cd20 ct20 : Value}
    (a20 : PySem.W.nsIn K mainGlobals "first_unlike" = some (some (.ref f20))) (l20 : K.lookup f20 = some ⟨oc20, od20, .func (PySem.W.fnOf "first_unlike" "first_unlike" (defArgs st_first_unlike) (defBody st_first_unlike) (defScope st_first_unlike) .none kV20 dc20 pm20 an20 cd20 ct20), sl20⟩) (c20 : PySem.W.codeIn K cd20 "first_unlike" = true) (k20 : PySem.W.keepIn K (.ref f20) = true)
    {f21 : Addr} {od21 an21 : Option Addr} {sl21 : Array (Option Value)} {oc21 kV21 dc21 pm21 cd21 ct21 : Value}
    (a21 : PySem.W.nsIn K mainGlobals "parted_by_sums" = some (some (.ref f21))) (l21 : K.lookup f21 = some ⟨oc21, od21, .func (PySem.W.fnOf "parted_by_sums" "parted_by_sums" (defArgs st_parted_by_sums) (defBody st_parted_by_sums) (defScope st_parted_by_sums) .none kV21 dc21 pm21 an21 cd21 ct21), sl21⟩) (c21 : PySem.W.codeIn K cd21 "parted_by_sums" = true) (k21 : PySem.W.keepIn K (.ref f21) = true)
    {f22 : Addr} {od22 an22 : Option Addr} {sl22 : Array (Option Value)} {oc22 kV22 dc22 pm22 cd22 ct22 : Value}
    (a22 : PySem.W.nsIn K mainGlobals "_law_pen" = some (some (.ref f22))) (l22 : K.lookup f22 = some ⟨oc22, od22, .func (PySem.W.fnOf "_law_pen" "_law_pen" (defArgs st__law_pen) (defBody st__law_pen) (defScope st__law_pen) .none kV22 dc22 pm22 an22 cd22 ct22), sl22⟩) (c22 : PySem.W.codeIn K cd22 "_law_pen" = true) (k22 : PySem.W.keepIn K (.ref f22) = true)
    {f23 : Addr} {od23 an23 : Option Addr} {sl23 : Array (Option Value)} {oc23 kV23 dc23 pm23 cd23 ct23 : Value}
    (a23 : PySem.W.nsIn K mainGlobals "_law_draw" = some (some (.ref f23))) (l23 : K.lookup f23 = some ⟨oc23, od23, .func (PySem.W.fnOf "_law_draw" "_law_draw" (defArgs st__law_draw) (defBody st__law_draw) (defScope st__law_draw) .none kV23 dc23 pm23 an23 cd23 ct23), sl23⟩) (c23 : PySem.W.codeIn K cd23 "_law_draw" = true) (k23 : PySem.W.keepIn K (.ref f23) = true)
    {f24 : Addr} {od24 an24 : Option Addr} {sl24 : Array (Option Value)} {oc24 kV24 dc24 pm24 cd24 ct24 : Value}
    (a24 : PySem.W.nsIn K mainGlobals "_law_plain_deed" = some (some (.ref f24))) (l24 : K.lookup f24 = some ⟨oc24, od24, .func (PySem.W.fnOf "_law_plain_deed" "_law_plain_deed" (defArgs st__law_plain_deed) (defBody st__law_plain_deed) (defScope st__law_plain_deed) .none kV24 dc24 pm24 an24 cd24 ct24), sl24⟩) (c24 : PySem.W.codeIn K cd24 "_law_plain_deed" = true) (k24 : PySem.W.keepIn K (.ref f24) = true)
    {f25 : Addr} {od25 an25 : Option Addr} {sl25 : Array (Option Value)} {oc25 kV25 dc25 pm25 cd25 ct25 : Value}
    (a25 : PySem.W.nsIn K mainGlobals "_law_boxes_in" = some (some (.ref f25))) (l25 : K.lookup f25 = some ⟨oc25, od25, .func (PySem.W.fnOf "_law_boxes_in" "_law_boxes_in" (defArgs st__law_boxes_in) (defBody st__law_boxes_in) (defScope st__law_boxes_in) .none kV25 dc25 pm25 an25 cd25 ct25), sl25⟩) (c25 : PySem.W.codeIn K cd25 "_law_boxes_in" = true) (k25 : PySem.W.keepIn K (.ref f25) = true)
    {f26 : Addr} {od26 an26 : Option Addr} {sl26 : Array (Option Value)} {oc26 kV26 dc26 pm26 cd26 ct26 : Value}
    (a26 : PySem.W.nsIn K mainGlobals "_law_names_of" = some (some (.ref f26))) (l26 : K.lookup f26 = some ⟨oc26, od26, .func (PySem.W.fnOf "_law_names_of" "_law_names_of" (defArgs st__law_names_of) (defBody st__law_names_of) (defScope st__law_names_of) .none kV26 dc26 pm26 an26 cd26 ct26), sl26⟩) (c26 : PySem.W.codeIn K cd26 "_law_names_of" = true) (k26 : PySem.W.keepIn K (.ref f26) = true)
    {f27 : Addr} {od27 an27 : Option Addr} {sl27 : Array (Option Value)} {oc27 kV27 dc27 pm27 cd27 ct27 : Value}
    (a27 : PySem.W.nsIn K mainGlobals "_law_names_in" = some (some (.ref f27))) (l27 : K.lookup f27 = some ⟨oc27, od27, .func (PySem.W.fnOf "_law_names_in" "_law_names_in" (defArgs st__law_names_in) (defBody st__law_names_in) (defScope st__law_names_in) .none kV27 dc27 pm27 an27 cd27 ct27), sl27⟩) (c27 : PySem.W.codeIn K cd27 "_law_names_in" = true) (k27 : PySem.W.keepIn K (.ref f27) = true)
    {f28 : Addr} {od28 an28 : Option Addr} {sl28 : Array (Option Value)} {oc28 kV28 dc28 pm28 cd28 ct28 : Value}
    (a28 : PySem.W.nsIn K mainGlobals "_law_machine" = some (some (.ref f28))) (l28 : K.lookup f28 = some ⟨oc28, od28, .func (PySem.W.fnOf "_law_machine" "_law_machine" (defArgs st__law_machine) (defBody st__law_machine) (defScope st__law_machine) .none kV28 dc28 pm28 an28 cd28 ct28), sl28⟩) (c28 : PySem.W.codeIn K cd28 "_law_machine" = true) (k28 : PySem.W.keepIn K (.ref f28) = true)
    {f29 : Addr} {od29 an29 : Option Addr} {sl29 : Array (Option Value)} {oc29 kV29 dc29 pm29 cd29 ct29 : Value}
    (a29 : PySem.W.nsIn K mainGlobals "_law_crooked" = some (some (.ref f29))) (l29 : K.lookup f29 = some ⟨oc29, od29, .func (PySem.W.fnOf "_law_crooked" "_law_crooked" (defArgs st__law_crooked) (defBody st__law_crooked) (defScope st__law_crooked) .none kV29 dc29 pm29 an29 cd29 ct29), sl29⟩) (c29 : PySem.W.codeIn K cd29 "_law_crooked" = true) (k29 : PySem.W.keepIn K (.ref f29) = true)
    {f30 : Addr} {od30 an30 : Option Addr} {sl30 : Array (Option Value)} {oc30 kV30 dc30 pm30 cd30 ct30 : Value}
    (a30 : PySem.W.nsIn K mainGlobals "_law_spoilt" = some (some (.ref f30))) (l30 : K.lookup f30 = some ⟨oc30, od30, .func (PySem.W.fnOf "_law_spoilt" "_law_spoilt" (defArgs st__law_spoilt) (defBody st__law_spoilt) (defScope st__law_spoilt) .none kV30 dc30 pm30 an30 cd30 ct30), sl30⟩) (c30 : PySem.W.codeIn K cd30 "_law_spoilt" = true) (k30 : PySem.W.keepIn K (.ref f30) = true)
    {f31 : Addr} {od31 an31 : Option Addr} {sl31 : Array (Option Value)} {oc31 kV31 dc31 pm31 cd31 ct31 : Value}
    (a31 : PySem.W.nsIn K mainGlobals "_law_rule" = some (some (.ref f31))) (l31 : K.lookup f31 = some ⟨oc31, od31, .func (PySem.W.fnOf "_law_rule" "_law_rule" (defArgs st__law_rule) (defBody st__law_rule) (defScope st__law_rule) .none kV31 dc31 pm31 an31 cd31 ct31), sl31⟩) (c31 : PySem.W.codeIn K cd31 "_law_rule" = true) (k31 : PySem.W.keepIn K (.ref f31) = true)
    {f32 : Addr} {od32 an32 : Option Addr} {sl32 : Array (Option Value)} {oc32 kV32 dc32 pm32 cd32 ct32 : Value}
    (a32 : PySem.W.nsIn K mainGlobals "_law_is_plain" = some (some (.ref f32))) (l32 : K.lookup f32 = some ⟨oc32, od32, .func (PySem.W.fnOf "_law_is_plain" "_law_is_plain" (defArgs st__law_is_plain) (defBody st__law_is_plain) (defScope st__law_is_plain) .none kV32 dc32 pm32 an32 cd32 ct32), sl32⟩) (c32 : PySem.W.codeIn K cd32 "_law_is_plain" = true) (k32 : PySem.W.keepIn K (.ref f32) = true)
    {f33 : Addr} {od33 an33 : Option Addr} {sl33 : Array (Option Value)} {oc33 kV33 dc33 pm33 cd33 ct33 : Value}
    (a33 : PySem.W.nsIn K mainGlobals "_law_due" = some (some (.ref f33))) (l33 : K.lookup f33 = some ⟨oc33, od33, .func (PySem.W.fnOf "_law_due" "_law_due" (defArgs st__law_due) (defBody st__law_due) (defScope st__law_due) .none kV33 dc33 pm33 an33 cd33 ct33), sl33⟩) (c33 : PySem.W.codeIn K cd33 "_law_due" = true) (k33 : PySem.W.keepIn K (.ref f33) = true)
    {f34 : Addr} {od34 an34 : Option Addr} {sl34 : Array (Option Value)} {oc34 kV34 dc34 pm34 cd34 ct34 : Value}
    (a34 : PySem.W.nsIn K mainGlobals "_law_heard" = some (some (.ref f34))) (l34 : K.lookup f34 = some ⟨oc34, od34, .func (PySem.W.fnOf "_law_heard" "_law_heard" (defArgs st__law_heard) (defBody st__law_heard) (defScope st__law_heard) .none kV34 dc34 pm34 an34 cd34 ct34), sl34⟩) (c34 : PySem.W.codeIn K cd34 "_law_heard" = true) (k34 : PySem.W.keepIn K (.ref f34) = true)
    {f35 : Addr} {od35 an35 : Option Addr} {sl35 : Array (Option Value)} {oc35 kV35 dc35 pm35 cd35 ct35 : Value}
    (a35 : PySem.W.nsIn K mainGlobals "law" = some (some (.ref f35))) (l35 : K.lookup f35 = some ⟨oc35, od35, .func (PySem.W.fnOf "law" "law" (defArgs st_law) (defBody st_law) (defScope st_law) .none kV35 dc35 pm35 an35 cd35 ct35), sl35⟩) (c35 : PySem.W.codeIn K cd35 "law" = true) (k35 : PySem.W.keepIn K (.ref f35) = true)
    (z_abs : PySem.W.nsIn K mainGlobals "abs" = some none)
    (z_all : PySem.W.nsIn K mainGlobals "all" = some none)
    (z_any : PySem.W.nsIn K mainGlobals "any" = some none)
    (z_bool : PySem.W.nsIn K mainGlobals "bool" = some none)
    (z_dict : PySem.W.nsIn K mainGlobals "dict" = some none)
    (z_int : PySem.W.nsIn K mainGlobals "int" = some none)
    (z_isinstance : PySem.W.nsIn K mainGlobals "isinstance" = some none)
    (z_len : PySem.W.nsIn K mainGlobals "len" = some none)
    (z_list : PySem.W.nsIn K mainGlobals "list" = some none)
    (z_max : PySem.W.nsIn K mainGlobals "max" = some none)
    (z_range : PySem.W.nsIn K mainGlobals "range" = some none)
    (z_sorted : PySem.W.nsIn K mainGlobals "sorted" = some none)
    (z_str : PySem.W.nsIn K mainGlobals "str" = some none)
    (z_tuple : PySem.W.nsIn K mainGlobals "tuple" = some none)
    (z_zip : PySem.W.nsIn K mainGlobals "zip" = some none)
    {t1 : Nat}
    (y_BOXES_AND_NAMES : PySem.W.nsIn K mainGlobals "BOXES_AND_NAMES" = some (some (.str "0123ABCD" t1)))
    {t2 : Nat}
    {t3 : Nat}
    {t4 : Nat}
    {t5 : Nat}
    {q6 : Addr} {n6 : Nat} {sm6 : Array (Option Value)}
    (y_NUMBER_NAMES : PySem.W.nsIn K mainGlobals "NUMBER_NAMES" = some (some (.ref q6)))
    (m6 : K.lookup q6 = some ⟨.type "tuple", none, .seq #[.str "k" t2, .str "l" t3, .str "m" t4, .str "n" t5] n6, sm6⟩)
    {t7 : Nat}
    (y_MANY : PySem.W.nsIn K mainGlobals "MANY" = some (some (.int 13 t7)))
    {t8 : Nat}
    (y_FIRST_BOX : PySem.W.nsIn K mainGlobals "FIRST_BOX" = some (some (.int 5 t8)))
    {qd_KINDS : Addr} {es_KINDS : Array DictEntry} {nd_KINDS : Nat}
    {t9 : Nat}
    {t10 : Nat}
    {t11 : Nat}
    {t12 : Nat}
    {t13 : Nat}
    {t14 : Nat}
    {t15 : Nat}
    {t16 : Nat}
    {t17 : Nat}
    (y_KINDS : PySem.W.nsIn K mainGlobals "KINDS" = some (some (.ref qd_KINDS))) (d_KINDS : K.lookup qd_KINDS = some ⟨.type "dict", none, .dict es_KINDS nd_KINDS, #[]⟩) (h_KINDS : es_KINDS.toList.map keyOfE = keysP w.params (kv_KINDS.map fun p => Str.ofString p.1)) (o_KINDS : (qd_KINDS == sysModules) = false)
    (v0_KINDS : PySem.W.nsIn K qd_KINDS "put" = some (some (.str "bn" t9)))
    (v1_KINDS : PySem.W.nsIn K qd_KINDS "copy" = some (some (.str "bb" t10)))
    (v2_KINDS : PySem.W.nsIn K qd_KINDS "sum" = some (some (.str "bb" t11)))
    (v3_KINDS : PySem.W.nsIn K qd_KINDS "more" = some (some (.str "bn" t12)))
    (v4_KINDS : PySem.W.nsIn K qd_KINDS "less" = some (some (.str "bb" t13)))
    (v5_KINDS : PySem.W.nsIn K qd_KINDS "turn" = some (some (.str "b" t14)))
    (v6_KINDS : PySem.W.nsIn K qd_KINDS "left" = some (some (.str "b" t15)))
    (v7_KINDS : PySem.W.nsIn K qd_KINDS "right" = some (some (.str "b" t16)))
    (v8_KINDS : PySem.W.nsIn K qd_KINDS "part" = some (some (.str "bb" t17)))
    (xN : PySem.W.specialIn K (.builtin "object.__class__") "__get__" = some (some (.builtin "getset_descriptor.__get__"))) (xT : PySem.W.takesIn K (.builtin "object.__class__") = some true)
    {xA_NoFit : Addr} (xn_NoFit : PySem.W.nsIn K mainGlobals "NoFit" = some (some (.ref xA_NoFit)))
    (xx_NoFit : PySem.W.excIn K xA_NoFit [.type "ValueError", .type "Exception", .type "BaseException", .type "object"] "ValueError.__new__" = true) (xk_NoFit : PySem.W.keepIn K (.ref xA_NoFit) = true) (xt_NoFit : PySem.W.typeIn K (.ref xA_NoFit) = some (.type "type"))
    (xg_NoFit : PySem.W.findIn K (.ref xA_NoFit) "__getattribute__" = some (some (.builtin "BaseException.__getattribute__"))) (xq_NoFit : PySem.W.findIn K (.ref xA_NoFit) "__getattr__" = some none) (xs_NoFit : PySem.W.subIn K (.ref xA_NoFit) (.type "BaseException") = some true) (xd_NoFit : PySem.W.hasDictIn K xA_NoFit = true) (xa_NoFit : PySem.W.findIn K (.ref xA_NoFit) "__class__" = some (some (.builtin "object.__class__"))) (xm_NoFit : PySem.W.mroIn K xA_NoFit (.type "object") = some true)
    {xA_NotPlain : Addr} (xn_NotPlain : PySem.W.nsIn K mainGlobals "NotPlain" = some (some (.ref xA_NotPlain)))
    (xx_NotPlain : PySem.W.excIn K xA_NotPlain [.type "ValueError", .type "Exception", .type "BaseException", .type "object"] "ValueError.__new__" = true) (xk_NotPlain : PySem.W.keepIn K (.ref xA_NotPlain) = true) (xt_NotPlain : PySem.W.typeIn K (.ref xA_NotPlain) = some (.type "type"))
    (xg_NotPlain : PySem.W.findIn K (.ref xA_NotPlain) "__getattribute__" = some (some (.builtin "BaseException.__getattribute__"))) (xq_NotPlain : PySem.W.findIn K (.ref xA_NotPlain) "__getattr__" = some none) (xs_NotPlain : PySem.W.subIn K (.ref xA_NotPlain) (.type "BaseException") = some true) (xd_NotPlain : PySem.W.hasDictIn K xA_NotPlain = true) (xa_NotPlain : PySem.W.findIn K (.ref xA_NotPlain) "__class__" = some (some (.builtin "object.__class__"))) (xm_NotPlain : PySem.W.mroIn K xA_NotPlain (.type "object") = some true)
    {xR : Addr} (xr1 : PySem.W.nsIn K mainGlobals "RuleError" = some (some (.ref xR))) (xr2 : PySem.W.subIn K (.ref xR) (.type "BaseException") = some true) (xr3 : PySem.W.hasDictIn K xR = true) (xr4 : PySem.W.typeIn K (.ref xR) = some (.type "type"))
    (xe_NoFit : PySem.W.subIn K (.ref xA_NoFit) (.ref xR) = some true)
    (xe_NotPlain : PySem.W.subIn K (.ref xA_NotPlain) (.ref xR) = some true)
    {xB_Loose : Addr} (yn_Loose : PySem.W.nsIn K mainGlobals "Loose" = some (some (.ref xB_Loose))) (yc_Loose : PySem.W.isClsIn K xB_Loose = true) (yt_Loose : PySem.W.typeIn K (.ref xB_Loose) = some (.type "type")) (yo_Loose : PySem.W.subIn K (.type "NoneType") (.ref xB_Loose) = some false)
    (yS_NoFit_Loose : PySem.W.subIn K (.ref xA_NoFit) (.ref xB_Loose) = some false)
    (o_NoFit_Loose : (xA_NoFit == xB_Loose) = false)
    (yS_NotPlain_Loose : PySem.W.subIn K (.ref xA_NotPlain) (.ref xB_Loose) = some false)
    (o_NotPlain_Loose : (xA_NotPlain == xB_Loose) = false)
    {xB_Needed : Addr} (yn_Needed : PySem.W.nsIn K mainGlobals "Needed" = some (some (.ref xB_Needed))) (yc_Needed : PySem.W.isClsIn K xB_Needed = true) (yt_Needed : PySem.W.typeIn K (.ref xB_Needed) = some (.type "type")) (yo_Needed : PySem.W.subIn K (.type "NoneType") (.ref xB_Needed) = some false)
    (yS_NoFit_Needed : PySem.W.subIn K (.ref xA_NoFit) (.ref xB_Needed) = some false)
    (o_NoFit_Needed : (xA_NoFit == xB_Needed) = false)
    (yS_NotPlain_Needed : PySem.W.subIn K (.ref xA_NotPlain) (.ref xB_Needed) = some false)
    (o_NotPlain_Needed : (xA_NotPlain == xB_Needed) = false)
    {xB_NoBack : Addr} (yn_NoBack : PySem.W.nsIn K mainGlobals "NoBack" = some (some (.ref xB_NoBack))) (yc_NoBack : PySem.W.isClsIn K xB_NoBack = true) (yt_NoBack : PySem.W.typeIn K (.ref xB_NoBack) = some (.type "type")) (yo_NoBack : PySem.W.subIn K (.type "NoneType") (.ref xB_NoBack) = some false)
    (yS_NoFit_NoBack : PySem.W.subIn K (.ref xA_NoFit) (.ref xB_NoBack) = some false)
    (o_NoFit_NoBack : (xA_NoFit == xB_NoBack) = false)
    (yS_NotPlain_NoBack : PySem.W.subIn K (.ref xA_NotPlain) (.ref xB_NoBack) = some false)
    (o_NotPlain_NoBack : (xA_NotPlain == xB_NoBack) = false)
    {xB_NoBook : Addr} (yn_NoBook : PySem.W.nsIn K mainGlobals "NoBook" = some (some (.ref xB_NoBook))) (yc_NoBook : PySem.W.isClsIn K xB_NoBook = true) (yt_NoBook : PySem.W.typeIn K (.ref xB_NoBook) = some (.type "type")) (yo_NoBook : PySem.W.subIn K (.type "NoneType") (.ref xB_NoBook) = some false)
    (yS_NoFit_NoBook : PySem.W.subIn K (.ref xA_NoFit) (.ref xB_NoBook) = some false)
    (o_NoFit_NoBook : (xA_NoFit == xB_NoBook) = false)
    (yS_NotPlain_NoBook : PySem.W.subIn K (.ref xA_NotPlain) (.ref xB_NoBook) = some false)
    (o_NotPlain_NoBook : (xA_NotPlain == xB_NoBook) = false)
    {xB_NoName : Addr} (yn_NoName : PySem.W.nsIn K mainGlobals "NoName" = some (some (.ref xB_NoName))) (yc_NoName : PySem.W.isClsIn K xB_NoName = true) (yt_NoName : PySem.W.typeIn K (.ref xB_NoName) = some (.type "type")) (yo_NoName : PySem.W.subIn K (.type "NoneType") (.ref xB_NoName) = some false)
    (yS_NoFit_NoName : PySem.W.subIn K (.ref xA_NoFit) (.ref xB_NoName) = some false)
    (o_NoFit_NoName : (xA_NoFit == xB_NoName) = false)
    (yS_NotPlain_NoName : PySem.W.subIn K (.ref xA_NotPlain) (.ref xB_NoName) = some false)
    (o_NotPlain_NoName : (xA_NotPlain == xB_NoName) = false)
    {xB_NoRow : Addr} (yn_NoRow : PySem.W.nsIn K mainGlobals "NoRow" = some (some (.ref xB_NoRow))) (yc_NoRow : PySem.W.isClsIn K xB_NoRow = true) (yt_NoRow : PySem.W.typeIn K (.ref xB_NoRow) = some (.type "type")) (yo_NoRow : PySem.W.subIn K (.type "NoneType") (.ref xB_NoRow) = some false)
    (yS_NoFit_NoRow : PySem.W.subIn K (.ref xA_NoFit) (.ref xB_NoRow) = some false)
    (o_NoFit_NoRow : (xA_NoFit == xB_NoRow) = false)
    (yS_NotPlain_NoRow : PySem.W.subIn K (.ref xA_NotPlain) (.ref xB_NoRow) = some false)
    (o_NotPlain_NoRow : (xA_NotPlain == xB_NoRow) = false)
    {xB_NoStep : Addr} (yn_NoStep : PySem.W.nsIn K mainGlobals "NoStep" = some (some (.ref xB_NoStep))) (yc_NoStep : PySem.W.isClsIn K xB_NoStep = true) (yt_NoStep : PySem.W.typeIn K (.ref xB_NoStep) = some (.type "type")) (yo_NoStep : PySem.W.subIn K (.type "NoneType") (.ref xB_NoStep) = some false)
    (yS_NoFit_NoStep : PySem.W.subIn K (.ref xA_NoFit) (.ref xB_NoStep) = some false)
    (o_NoFit_NoStep : (xA_NoFit == xB_NoStep) = false)
    (yS_NotPlain_NoStep : PySem.W.subIn K (.ref xA_NotPlain) (.ref xB_NoStep) = some false)
    (o_NotPlain_NoStep : (xA_NotPlain == xB_NoStep) = false)
    {xB_NoText : Addr} (yn_NoText : PySem.W.nsIn K mainGlobals "NoText" = some (some (.ref xB_NoText))) (yc_NoText : PySem.W.isClsIn K xB_NoText = true) (yt_NoText : PySem.W.typeIn K (.ref xB_NoText) = some (.type "type")) (yo_NoText : PySem.W.subIn K (.type "NoneType") (.ref xB_NoText) = some false)
    (yS_NoFit_NoText : PySem.W.subIn K (.ref xA_NoFit) (.ref xB_NoText) = some false)
    (o_NoFit_NoText : (xA_NoFit == xB_NoText) = false)
    (yS_NotPlain_NoText : PySem.W.subIn K (.ref xA_NotPlain) (.ref xB_NoText) = some false)
    (o_NotPlain_NoText : (xA_NotPlain == xB_NoText) = false)
    {xB_NotSure : Addr} (yn_NotSure : PySem.W.nsIn K mainGlobals "NotSure" = some (some (.ref xB_NotSure))) (yc_NotSure : PySem.W.isClsIn K xB_NotSure = true) (yt_NotSure : PySem.W.typeIn K (.ref xB_NotSure) = some (.type "type")) (yo_NotSure : PySem.W.subIn K (.type "NoneType") (.ref xB_NotSure) = some false)
    (yS_NoFit_NotSure : PySem.W.subIn K (.ref xA_NoFit) (.ref xB_NotSure) = some false)
    (o_NoFit_NotSure : (xA_NoFit == xB_NotSure) = false)
    (yS_NotPlain_NotSure : PySem.W.subIn K (.ref xA_NotPlain) (.ref xB_NotSure) = some false)
    (o_NotPlain_NotSure : (xA_NotPlain == xB_NotSure) = false)
    {xB_NoWay : Addr} (yn_NoWay : PySem.W.nsIn K mainGlobals "NoWay" = some (some (.ref xB_NoWay))) (yc_NoWay : PySem.W.isClsIn K xB_NoWay = true) (yt_NoWay : PySem.W.typeIn K (.ref xB_NoWay) = some (.type "type")) (yo_NoWay : PySem.W.subIn K (.type "NoneType") (.ref xB_NoWay) = some false)
    (yS_NoFit_NoWay : PySem.W.subIn K (.ref xA_NoFit) (.ref xB_NoWay) = some false)
    (o_NoFit_NoWay : (xA_NoFit == xB_NoWay) = false)
    (yS_NotPlain_NoWay : PySem.W.subIn K (.ref xA_NotPlain) (.ref xB_NoWay) = some false)
    (o_NotPlain_NoWay : (xA_NotPlain == xB_NoWay) = false)
    {xB_TooMany : Addr} (yn_TooMany : PySem.W.nsIn K mainGlobals "TooMany" = some (some (.ref xB_TooMany))) (yc_TooMany : PySem.W.isClsIn K xB_TooMany = true) (yt_TooMany : PySem.W.typeIn K (.ref xB_TooMany) = some (.type "type")) (yo_TooMany : PySem.W.subIn K (.type "NoneType") (.ref xB_TooMany) = some false)
    (yS_NoFit_TooMany : PySem.W.subIn K (.ref xA_NoFit) (.ref xB_TooMany) = some false)
    (o_NoFit_TooMany : (xA_NoFit == xB_TooMany) = false)
    (yS_NotPlain_TooMany : PySem.W.subIn K (.ref xA_NotPlain) (.ref xB_TooMany) = some false)
    (o_NotPlain_TooMany : (xA_NotPlain == xB_TooMany) = false)
    (zx_ValueError : PySem.W.nsIn K mainGlobals "ValueError" = some none)
    (yV_NoFit : PySem.W.subIn K (.ref xA_NoFit) (.type "ValueError") = some true)
    (yV_NotPlain : PySem.W.subIn K (.ref xA_NotPlain) (.type "ValueError") = some true)
    {xB_NoFit : Addr} (yn_NoFit : PySem.W.nsIn K mainGlobals "NoFit" = some (some (.ref xB_NoFit))) (yc_NoFit : PySem.W.isClsIn K xB_NoFit = true) (yt_NoFit : PySem.W.typeIn K (.ref xB_NoFit) = some (.type "type")) (yo_NoFit : PySem.W.subIn K (.type "NoneType") (.ref xB_NoFit) = some false)
    (yS_NoFit_NoFit : PySem.W.subIn K (.ref xA_NoFit) (.ref xB_NoFit) = some true)
    (yS_NotPlain_NoFit : PySem.W.subIn K (.ref xA_NotPlain) (.ref xB_NoFit) = some false)
    (o_NotPlain_NoFit : (xA_NotPlain == xB_NoFit) = false)
    {xB_NotPlain : Addr} (yn_NotPlain : PySem.W.nsIn K mainGlobals "NotPlain" = some (some (.ref xB_NotPlain))) (yc_NotPlain : PySem.W.isClsIn K xB_NotPlain = true) (yt_NotPlain : PySem.W.typeIn K (.ref xB_NotPlain) = some (.type "type")) (yo_NotPlain : PySem.W.subIn K (.type "NoneType") (.ref xB_NotPlain) = some false)
    (yS_NoFit_NotPlain : PySem.W.subIn K (.ref xA_NoFit) (.ref xB_NotPlain) = some false)
    (o_NoFit_NotPlain : (xA_NoFit == xB_NotPlain) = false)
    (yS_NotPlain_NotPlain : PySem.W.subIn K (.ref xA_NotPlain) (.ref xB_NotPlain) = some true) :
    ∃ fd : FuncData, (∀ (s : Shared) (v : Value), BindsTo s fd ⟨[v], []⟩ [("_law_script", v)]) ∧ ∀ base : Heap, K.In base → base.Ns mainGlobals mg → FnG l.prog w K mg base 21 fa fd ["_law_script"] F_law := by
  have e := hfa.symm.trans (PySem.W.mg_of X G a35)
  cases e
  have B : Bt mg := ⟨PySem.W.mg_none_of X G z_abs, PySem.W.mg_none_of X G z_all, PySem.W.mg_none_of X G z_any, PySem.W.mg_none_of X G z_bool, PySem.W.mg_none_of X G z_dict, PySem.W.mg_none_of X G z_int, PySem.W.mg_none_of X G z_isinstance, PySem.W.mg_none_of X G z_len, PySem.W.mg_none_of X G z_list, PySem.W.mg_none_of X G z_max, PySem.W.mg_none_of X G z_range, PySem.W.mg_none_of X G z_sorted, PySem.W.mg_none_of X G z_str, PySem.W.mg_none_of X G z_tuple, PySem.W.mg_none_of X G z_zip⟩
  have KK_KINDS : KCn K w mg "KINDS" kv_KINDS := kcn_mk X G y_KINDS d_KINDS h_KINDS o_KINDS (kvals_cons v0_KINDS kd_str (kvals_cons v1_KINDS kd_str (kvals_cons v2_KINDS kd_str (kvals_cons v3_KINDS kd_str (kvals_cons v4_KINDS kd_str (kvals_cons v5_KINDS kd_str (kvals_cons v6_KINDS kd_str (kvals_cons v7_KINDS kd_str (kvals_cons v8_KINDS kd_str True.intro)))))))))
  have K_BOXES_AND_NAMES : Cn mg K "BOXES_AND_NAMES" (D.str "0123ABCD") := cn_mk X G y_BOXES_AND_NAMES kd_str
  have K_NUMBER_NAMES : Cn mg K "NUMBER_NAMES" (D.tup [(D.str "k"), (D.str "l"), (D.str "m"), (D.str "n")]) := cn_mk X G y_NUMBER_NAMES (kd_tup (us := [.str "k" t2, .str "l" t3, .str "m" t4, .str "n" t5]) m6 (kds_cons kd_str (kds_cons kd_str (kds_cons kd_str (kds_cons kd_str kds_nil)))) (by show 4 ≤ sizeLine; decide))
  have K_MANY : Cn mg K "MANY" (D.int 13) := cn_mk X G y_MANY kd_int
  have K_FIRST_BOX : Cn mg K "FIRST_BOX" (D.int 5) := cn_mk X G y_FIRST_BOX kd_int
  have X_NoFit : Xc mg K "NoFit" xA_NoFit := xc_mk X G xn_NoFit xx_NoFit xk_NoFit xt_NoFit ⟨xg_NoFit, xq_NoFit, xs_NoFit, xd_NoFit, xa_NoFit, xN, xT, xm_NoFit⟩
  have X_NotPlain : Xc mg K "NotPlain" xA_NotPlain := xc_mk X G xn_NotPlain xx_NotPlain xk_NotPlain xt_NotPlain ⟨xg_NotPlain, xq_NotPlain, xs_NotPlain, xd_NotPlain, xa_NotPlain, xN, xT, xm_NotPlain⟩
  have XS : Xs mg K xR xcs := (xs_cons X_NoFit (PySem.W.exm_ref xr2 xr3 xr4 xe_NoFit) (xs_cons X_NotPlain (PySem.W.exm_ref xr2 xr3 xr4 xe_NotPlain) (xs_nil (PySem.W.mg_of X G xr1))))
  have N_Loose := xn_own (cs := xcs) (n := "Loose") X G yn_Loose yc_Loose yt_Loose yo_Loose (ys_cons (c := "NoFit") xn_NoFit (kit_ref yc_Loose yt_Loose yS_NoFit_Loose (fun z => ref_ne o_NoFit_Loose)) (ys_cons (c := "NotPlain") xn_NotPlain (kit_ref yc_Loose yt_Loose yS_NotPlain_Loose (fun z => ref_ne o_NotPlain_Loose)) ys_nil))
  have N_Needed := xn_own (cs := xcs) (n := "Needed") X G yn_Needed yc_Needed yt_Needed yo_Needed (ys_cons (c := "NoFit") xn_NoFit (kit_ref yc_Needed yt_Needed yS_NoFit_Needed (fun z => ref_ne o_NoFit_Needed)) (ys_cons (c := "NotPlain") xn_NotPlain (kit_ref yc_Needed yt_Needed yS_NotPlain_Needed (fun z => ref_ne o_NotPlain_Needed)) ys_nil))
  have N_NoBack := xn_own (cs := xcs) (n := "NoBack") X G yn_NoBack yc_NoBack yt_NoBack yo_NoBack (ys_cons (c := "NoFit") xn_NoFit (kit_ref yc_NoBack yt_NoBack yS_NoFit_NoBack (fun z => ref_ne o_NoFit_NoBack)) (ys_cons (c := "NotPlain") xn_NotPlain (kit_ref yc_NoBack yt_NoBack yS_NotPlain_NoBack (fun z => ref_ne o_NotPlain_NoBack)) ys_nil))
  have N_NoBook := xn_own (cs := xcs) (n := "NoBook") X G yn_NoBook yc_NoBook yt_NoBook yo_NoBook (ys_cons (c := "NoFit") xn_NoFit (kit_ref yc_NoBook yt_NoBook yS_NoFit_NoBook (fun z => ref_ne o_NoFit_NoBook)) (ys_cons (c := "NotPlain") xn_NotPlain (kit_ref yc_NoBook yt_NoBook yS_NotPlain_NoBook (fun z => ref_ne o_NotPlain_NoBook)) ys_nil))
  have N_NoName := xn_own (cs := xcs) (n := "NoName") X G yn_NoName yc_NoName yt_NoName yo_NoName (ys_cons (c := "NoFit") xn_NoFit (kit_ref yc_NoName yt_NoName yS_NoFit_NoName (fun z => ref_ne o_NoFit_NoName)) (ys_cons (c := "NotPlain") xn_NotPlain (kit_ref yc_NoName yt_NoName yS_NotPlain_NoName (fun z => ref_ne o_NotPlain_NoName)) ys_nil))
  have N_NoRow := xn_own (cs := xcs) (n := "NoRow") X G yn_NoRow yc_NoRow yt_NoRow yo_NoRow (ys_cons (c := "NoFit") xn_NoFit (kit_ref yc_NoRow yt_NoRow yS_NoFit_NoRow (fun z => ref_ne o_NoFit_NoRow)) (ys_cons (c := "NotPlain") xn_NotPlain (kit_ref yc_NoRow yt_NoRow yS_NotPlain_NoRow (fun z => ref_ne o_NotPlain_NoRow)) ys_nil))
  have N_NoStep := xn_own (cs := xcs) (n := "NoStep") X G yn_NoStep yc_NoStep yt_NoStep yo_NoStep (ys_cons (c := "NoFit") xn_NoFit (kit_ref yc_NoStep yt_NoStep yS_NoFit_NoStep (fun z => ref_ne o_NoFit_NoStep)) (ys_cons (c := "NotPlain") xn_NotPlain (kit_ref yc_NoStep yt_NoStep yS_NotPlain_NoStep (fun z => ref_ne o_NotPlain_NoStep)) ys_nil))
  have N_NoText := xn_own (cs := xcs) (n := "NoText") X G yn_NoText yc_NoText yt_NoText yo_NoText (ys_cons (c := "NoFit") xn_NoFit (kit_ref yc_NoText yt_NoText yS_NoFit_NoText (fun z => ref_ne o_NoFit_NoText)) (ys_cons (c := "NotPlain") xn_NotPlain (kit_ref yc_NoText yt_NoText yS_NotPlain_NoText (fun z => ref_ne o_NotPlain_NoText)) ys_nil))
  have N_NotSure := xn_own (cs := xcs) (n := "NotSure") X G yn_NotSure yc_NotSure yt_NotSure yo_NotSure (ys_cons (c := "NoFit") xn_NoFit (kit_ref yc_NotSure yt_NotSure yS_NoFit_NotSure (fun z => ref_ne o_NoFit_NotSure)) (ys_cons (c := "NotPlain") xn_NotPlain (kit_ref yc_NotSure yt_NotSure yS_NotPlain_NotSure (fun z => ref_ne o_NotPlain_NotSure)) ys_nil))
  have N_NoWay := xn_own (cs := xcs) (n := "NoWay") X G yn_NoWay yc_NoWay yt_NoWay yo_NoWay (ys_cons (c := "NoFit") xn_NoFit (kit_ref yc_NoWay yt_NoWay yS_NoFit_NoWay (fun z => ref_ne o_NoFit_NoWay)) (ys_cons (c := "NotPlain") xn_NotPlain (kit_ref yc_NoWay yt_NoWay yS_NotPlain_NoWay (fun z => ref_ne o_NotPlain_NoWay)) ys_nil))
  have N_TooMany := xn_own (cs := xcs) (n := "TooMany") X G yn_TooMany yc_TooMany yt_TooMany yo_TooMany (ys_cons (c := "NoFit") xn_NoFit (kit_ref yc_TooMany yt_TooMany yS_NoFit_TooMany (fun z => ref_ne o_NoFit_TooMany)) (ys_cons (c := "NotPlain") xn_NotPlain (kit_ref yc_TooMany yt_TooMany yS_NotPlain_TooMany (fun z => ref_ne o_NotPlain_TooMany)) ys_nil))
  have N_ValueError := xn_val (cs := xcs) X G zx_ValueError (ys_cons (c := "NoFit") xn_NoFit (kit_val yV_NoFit) (ys_cons (c := "NotPlain") xn_NotPlain (kit_val yV_NotPlain) ys_nil))
  have N_NoFit := xn_own (cs := xcs) (n := "NoFit") X G yn_NoFit yc_NoFit yt_NoFit yo_NoFit (ys_cons (c := "NoFit") xn_NoFit (kit_ref yc_NoFit yt_NoFit yS_NoFit_NoFit (fun z => by cases z)) (ys_cons (c := "NotPlain") xn_NotPlain (kit_ref yc_NoFit yt_NoFit yS_NotPlain_NoFit (fun z => ref_ne o_NotPlain_NoFit)) ys_nil))
  have N_NotPlain := xn_own (cs := xcs) (n := "NotPlain") X G yn_NotPlain yc_NotPlain yt_NotPlain yo_NotPlain (ys_cons (c := "NoFit") xn_NoFit (kit_ref yc_NotPlain yt_NotPlain yS_NoFit_NotPlain (fun z => ref_ne o_NoFit_NotPlain)) (ys_cons (c := "NotPlain") xn_NotPlain (kit_ref yc_NotPlain yt_NotPlain yS_NotPlain_NotPlain (fun z => by cases z)) ys_nil))
  have T_box_place := fd_mk (ps := ["part"]) (st := st_box_place) X G a0 l0 c0 k0 fun _ _ _ _ _ _ us hl => match us, hl with | [_], _ => rfl
  have T_form := fd_mk (ps := ["part"]) (st := st_form) X G a1 l1 c1 k1 fun _ _ _ _ _ _ us hl => match us, hl with | [_], _ => rfl
  have T_parts_in := fd_mk (ps := ["deed"]) (st := st_parts_in) X G a2 l2 c2 k2 fun _ _ _ _ _ _ us hl => match us, hl with | [_], _ => rfl
  have T_all_parts_in := fd_mk (ps := ["pattern"]) (st := st_all_parts_in) X G a3 l3 c3 k3 fun _ _ _ _ _ _ us hl => match us, hl with | [_], _ => rfl
  have T_words_in := fd_mk (ps := ["deed"]) (st := st_words_in) X G a4 l4 c4 k4 fun _ _ _ _ _ _ us hl => match us, hl with | [_], _ => rfl
  have T_box_parts := fd_mk (ps := ["pattern"]) (st := st_box_parts) X G a5 l5 c5 k5 fun _ _ _ _ _ _ us hl => match us, hl with | [_], _ => rfl
  have T_names_of_part := fd_mk (ps := ["part"]) (st := st_names_of_part) X G a6 l6 c6 k6 fun _ _ _ _ _ _ us hl => match us, hl with | [_], _ => rfl
  have T_number_names := fd_mk (ps := ["pattern"]) (st := st_number_names) X G a7 l7 c7 k7 fun _ _ _ _ _ _ us hl => match us, hl with | [_], _ => rfl
  have T_box_names := fd_mk (ps := ["pattern"]) (st := st_box_names) X G a8 l8 c8 k8 fun _ _ _ _ _ _ us hl => match us, hl with | [_], _ => rfl
  have T_names := fd_mk (ps := ["rule"]) (st := st_names) X G a9 l9 c9 k9 fun _ _ _ _ _ _ us hl => match us, hl with | [_], _ => rfl
  have T_written := fd_mk (ps := ["rule"]) (st := st_written) X G a10 l10 c10 k10 fun _ _ _ _ _ _ us hl => match us, hl with | [_], _ => rfl
  have T_boxes_left := fd_mk (ps := ["machine", "rule"]) (st := st_boxes_left) X G a11 l11 c11 k11 fun _ _ _ _ _ _ us hl => match us, hl with | [_, _], _ => rfl
  have T_fits := fd_mk (ps := ["machine", "rule"]) (st := st_fits) X G a12 l12 c12 k12 fun _ _ _ _ _ _ us hl => match us, hl with | [_, _], _ => rfl
  have T_need_fit := fd_mk (ps := ["machine", "rule"]) (st := st_need_fit) X G a13 l13 c13 k13 fun _ _ _ _ _ _ us hl => match us, hl with | [_, _], _ => rfl
  have T_is_plain := fd_mk (ps := ["pattern"]) (st := st_is_plain) X G a14 l14 c14 k14 fun _ _ _ _ _ _ us hl => match us, hl with | [_], _ => rfl
  have T_own_form := fd_mk (ps := ["part"]) (st := st_own_form) X G a15 l15 c15 k15 fun _ _ _ _ _ _ us hl => match us, hl with | [_], _ => rfl
  have T_number_form := fd_mk (ps := ["part"]) (st := st_number_form) X G a16 l16 c16 k16 fun _ _ _ _ _ _ us hl => match us, hl with | [_], _ => rfl
  have T_form_sum := fd_mk (ps := ["one", "other", "times"]) (st := st_form_sum) X G a17 l17 c17 k17 fun _ _ _ _ _ _ us hl => match us, hl with | [_, _, _], _ => rfl
  have T_form_behind := fd_mk (ps := ["deed", "held"]) (st := st_form_behind) X G a18 l18 c18 k18 fun _ _ _ _ _ _ us hl => match us, hl with | [_, _], _ => rfl
  have T_forms := fd_mk (ps := ["pattern"]) (st := st_forms) X G a19 l19 c19 k19 fun _ _ _ _ _ _ us hl => match us, hl with | [_], _ => rfl
  have T_first_unlike := fd_mk (ps := ["machine", "rule"]) (st := st_first_unlike) X G a20 l20 c20 k20 fun _ _ _ _ _ _ us hl => match us, hl with | [_, _], _ => rfl
  have T_parted_by_sums := fd_mk (ps := ["machine", "rule"]) (st := st_parted_by_sums) X G a21 l21 c21 k21 fun _ _ _ _ _ _ us hl => match us, hl with | [_, _], _ => rfl
  have T__law_pen := fd_mk (ps := ["_law_script"]) (st := st__law_pen) X G a22 l22 c22 k22 fun _ _ _ _ _ _ us hl => match us, hl with | [_], _ => rfl
  have T__law_draw := fd_mk (ps := ["_law_pen_here", "_law_many"]) (st := st__law_draw) X G a23 l23 c23 k23 fun _ _ _ _ _ _ us hl => match us, hl with | [_, _], _ => rfl
  have T__law_plain_deed := fd_mk (ps := ["_law_pen_here", "_law_boxes", "_law_numbers"]) (st := st__law_plain_deed) X G a24 l24 c24 k24 fun _ _ _ _ _ _ us hl => match us, hl with | [_, _, _], _ => rfl
  have T__law_boxes_in := fd_mk (ps := ["_law_pattern"]) (st := st__law_boxes_in) X G a25 l25 c25 k25 fun _ _ _ _ _ _ us hl => match us, hl with | [_], _ => rfl
  have T__law_names_of := fd_mk (ps := ["_law_part"]) (st := st__law_names_of) X G a26 l26 c26 k26 fun _ _ _ _ _ _ us hl => match us, hl with | [_], _ => rfl
  have T__law_names_in := fd_mk (ps := ["_law_pattern"]) (st := st__law_names_in) X G a27 l27 c27 k27 fun _ _ _ _ _ _ us hl => match us, hl with | [_], _ => rfl
  have T__law_machine := fd_mk (ps := ["_law_pen_here"]) (st := st__law_machine) X G a28 l28 c28 k28 fun _ _ _ _ _ _ us hl => match us, hl with | [_], _ => rfl
  have T__law_crooked := fd_mk (ps := ["_law_pen_here", "_law_boxes"]) (st := st__law_crooked) X G a29 l29 c29 k29 fun _ _ _ _ _ _ us hl => match us, hl with | [_, _], _ => rfl
  have T__law_spoilt := fd_mk (ps := ["_law_pen_here", "_law_side", "_law_boxes"]) (st := st__law_spoilt) X G a30 l30 c30 k30 fun _ _ _ _ _ _ us hl => match us, hl with | [_, _, _], _ => rfl
  have T__law_rule := fd_mk (ps := ["_law_pen_here"]) (st := st__law_rule) X G a31 l31 c31 k31 fun _ _ _ _ _ _ us hl => match us, hl with | [_], _ => rfl
  have T__law_is_plain := fd_mk (ps := ["_law_side"]) (st := st__law_is_plain) X G a32 l32 c32 k32 fun _ _ _ _ _ _ us hl => match us, hl with | [_], _ => rfl
  have T__law_due := fd_mk (ps := ["_law_machine_here", "_law_rule_here"]) (st := st__law_due) X G a33 l33 c33 k33 fun _ _ _ _ _ _ us hl => match us, hl with | [_, _], _ => rfl
  have T__law_heard := fd_mk (ps := ["_law_machine_here", "_law_rule_here"]) (st := st__law_heard) X G a34 l34 c34 k34 fun _ _ _ _ _ _ us hl => match us, hl with | [_, _], _ => rfl
  have T_law := fd_mk (ps := ["_law_script"]) (st := st_law) X G a35 l35 c35 k35 fun _ _ _ _ _ _ us hl => match us, hl with | [_], _ => rfl
  refine ⟨PySem.W.fnOf "law" "law" (defArgs st_law) (defBody st_law) (defScope st_law) .none kV35 dc35 pm35 an35 cd35 ct35, fun s v => .of_eq rfl, fun base _ _ => ?_⟩
  have G_box_place : FnG l.prog w K mg base 1 _ _ ["part"] F_box_place := (d_box_place (k := 0) B T_box_place.fu K_BOXES_AND_NAMES)
  have R_form : ∀ n, FnG l.prog w K mg base (0 + n) _ _ ["part"] (F_form n) := fun n => by
    induction n with
    | zero => exact FnG.no
    | succ n ih => exact (d_form (k := 0 + n) B T_form.fu T_form ih K_NUMBER_NAMES)
  have G_form := R_form 12
  have R_parts_in : ∀ n, FnG l.prog w K mg base (0 + n) _ _ ["deed"] (F_parts_in n) := fun n => by
    induction n with
    | zero => exact FnG.no
    | succ n ih => exact (d_parts_in (k := 0 + n) B T_parts_in.fu T_parts_in ih KK_KINDS)
  have G_parts_in := R_parts_in 12
  have G_all_parts_in : FnG l.prog w K mg base 13 _ _ ["pattern"] F_all_parts_in := (d_all_parts_in (k := 12) B T_all_parts_in.fu T_parts_in (G_parts_in.mono (by decide))).fz
  have R_words_in : ∀ n, FnG l.prog w K mg base (0 + n) _ _ ["deed"] (F_words_in n) := fun n => by
    induction n with
    | zero => exact FnG.no
    | succ n ih => exact (d_words_in (k := 0 + n) B T_words_in.fu T_words_in ih)
  have G_words_in := R_words_in 12
  have G_box_parts : FnG l.prog w K mg base 14 _ _ ["pattern"] F_box_parts := (d_box_parts (k := 13) B T_box_parts.fu T_all_parts_in (G_all_parts_in.mono (by decide)) T_box_place (G_box_place.mono (by decide)) (by decide)).fz
  have R_names_of_part : ∀ n, FnG l.prog w K mg base (0 + n) _ _ ["part"] (F_names_of_part n) := fun n => by
    induction n with
    | zero => exact FnG.no
    | succ n ih => exact (d_names_of_part (k := 0 + n) B T_names_of_part.fu T_names_of_part ih)
  have G_names_of_part := R_names_of_part 12
  have G_number_names : FnG l.prog w K mg base 14 _ _ ["pattern"] F_number_names := (d_number_names (k := 13) B T_number_names.fu T_all_parts_in (G_all_parts_in.mono (by decide)) T_names_of_part (G_names_of_part.mono (by decide))).fz
  have G_box_names : FnG l.prog w K mg base 15 _ _ ["pattern"] F_box_names := (d_box_names (k := 14) B T_box_names.fu T_box_parts (G_box_parts.mono (by decide)))
  have G_names : FnG l.prog w K mg base 16 _ _ ["rule"] F_names := (d_names (k := 15) B T_names.fu T_number_names (G_number_names.mono (by decide)) T_box_names (G_box_names.mono (by decide)))
  have G_written : FnG l.prog w K mg base 15 _ _ ["rule"] F_written := (d_written (k := 14) B T_written.fu T_box_parts (G_box_parts.mono (by decide)))
  have G_boxes_left : FnG l.prog w K mg base 16 _ _ ["machine", "rule"] F_boxes_left := (d_boxes_left (k := 15) B T_boxes_left.fu T_written (G_written.mono (by decide)))
  have G_fits : FnG l.prog w K mg base 17 _ _ ["machine", "rule"] F_fits := (d_fits (k := 16) B T_fits.fu T_boxes_left (G_boxes_left.mono (by decide)) T_box_names (G_box_names.mono (by decide)) T_written (G_written.mono (by decide)))
  have G_need_fit : FnG l.prog w K mg base 18 _ _ ["machine", "rule"] F_need_fit := (d_need_fit (k := 17) B T_need_fit.fu T_fits (G_fits.mono (by decide)) X_NoFit)
  have G_is_plain : FnG l.prog w K mg base 13 _ _ ["pattern"] F_is_plain := (d_is_plain (k := 12) B T_is_plain.fu T_words_in (G_words_in.mono (by decide)))
  have G_own_form : FnG l.prog w K mg base 2 _ _ ["part"] F_own_form := (d_own_form (k := 1) B T_own_form.fu T_box_place (G_box_place.mono (by decide)) K_MANY K_FIRST_BOX)
  have G_number_form : FnG l.prog w K mg base 13 _ _ ["part"] F_number_form := (d_number_form (k := 12) B T_number_form.fu T_form (G_form.mono (by decide)) K_MANY K_FIRST_BOX)
  have G_form_sum : FnG l.prog w K mg base 1 _ _ ["one", "other", "times"] F_form_sum := (d_form_sum (k := 0) B T_form_sum.fu)
  have G_form_behind : FnG l.prog w K mg base 14 _ _ ["deed", "held"] F_form_behind := (d_form_behind (k := 13) B T_form_behind.fu T_form_sum (G_form_sum.mono (by decide)) T_number_form (G_number_form.mono (by decide)))
  have G_forms : FnG l.prog w K mg base 15 _ _ ["pattern"] F_forms := (d_forms (k := 14) B T_forms.fu T_box_parts (G_box_parts.mono (by decide)) T_own_form (G_own_form.mono (by decide)) T_form_behind (G_form_behind.mono (by decide))).fz
  have G_first_unlike : FnG l.prog w K mg base 16 _ _ ["machine", "rule"] F_first_unlike := (d_first_unlike (k := 15) B T_first_unlike.fu T_box_parts (G_box_parts.mono (by decide)) T_forms (G_forms.mono (by decide)) T_own_form (G_own_form.mono (by decide)) K_MANY)
  have G_parted_by_sums : FnG l.prog w K mg base 19 _ _ ["machine", "rule"] F_parted_by_sums := (d_parted_by_sums (k := 18) B T_parted_by_sums.fu T_need_fit (G_need_fit.mono (by decide)) T_first_unlike (G_first_unlike.mono (by decide)) T_boxes_left (G_boxes_left.mono (by decide)) T_box_parts (G_box_parts.mono (by decide)) T_box_names (G_box_names.mono (by decide)) T_is_plain (G_is_plain.mono (by decide)) T_box_place (G_box_place.mono (by decide)) T_names (G_names.mono (by decide)) K_FIRST_BOX X_NotPlain).fz
  have G__law_pen : FnG l.prog w K mg base 1 _ _ ["_law_script"] F__law_pen := (d__law_pen (k := 0) B T__law_pen.fu)
  have G__law_draw : FnG l.prog w K mg base 1 _ _ ["_law_pen_here", "_law_many"] F__law_draw := (d__law_draw (k := 0) B T__law_draw.fu)
  have G__law_plain_deed : FnG l.prog w K mg base 2 _ _ ["_law_pen_here", "_law_boxes", "_law_numbers"] F__law_plain_deed := (d__law_plain_deed (k := 1) B T__law_plain_deed.fu T__law_draw (G__law_draw.mono (by decide)))
  have G__law_boxes_in : FnG l.prog w K mg base 1 _ _ ["_law_pattern"] F__law_boxes_in := (d__law_boxes_in (k := 0) B T__law_boxes_in.fu)
  have R__law_names_of : ∀ n, FnG l.prog w K mg base (0 + n) _ _ ["_law_part"] (F__law_names_of n) := fun n => by
    induction n with
    | zero => exact FnG.no
    | succ n ih => exact (d__law_names_of (k := 0 + n) B T__law_names_of.fu T__law_names_of ih)
  have G__law_names_of := R__law_names_of 12
  have G__law_names_in : FnG l.prog w K mg base 13 _ _ ["_law_pattern"] F__law_names_in := (d__law_names_in (k := 12) B T__law_names_in.fu T__law_names_of (G__law_names_of.mono (by decide)))
  have G__law_machine : FnG l.prog w K mg base 2 _ _ ["_law_pen_here"] F__law_machine := (d__law_machine (k := 1) B T__law_machine.fu T__law_draw (G__law_draw.mono (by decide)))
  have G__law_crooked : FnG l.prog w K mg base 2 _ _ ["_law_pen_here", "_law_boxes"] F__law_crooked := (d__law_crooked (k := 1) B T__law_crooked.fu T__law_draw (G__law_draw.mono (by decide)))
  have G__law_spoilt : FnG l.prog w K mg base 3 _ _ ["_law_pen_here", "_law_side", "_law_boxes"] F__law_spoilt := (d__law_spoilt (k := 2) B T__law_spoilt.fu T__law_draw (G__law_draw.mono (by decide)) T__law_crooked (G__law_crooked.mono (by decide)))
  have G__law_rule : FnG l.prog w K mg base 14 _ _ ["_law_pen_here"] F__law_rule := (d__law_rule (k := 13) B T__law_rule.fu T__law_draw (G__law_draw.mono (by decide)) T__law_boxes_in (G__law_boxes_in.mono (by decide)) T__law_spoilt (G__law_spoilt.mono (by decide)) T__law_names_in (G__law_names_in.mono (by decide)) T__law_plain_deed (G__law_plain_deed.mono (by decide)))
  have G__law_is_plain : FnG l.prog w K mg base 1 _ _ ["_law_side"] F__law_is_plain := (d__law_is_plain (k := 0) B T__law_is_plain.fu)
  have G__law_due : FnG l.prog w K mg base 2 _ _ ["_law_machine_here", "_law_rule_here"] F__law_due := (d__law_due (k := 1) B T__law_due.fu T__law_boxes_in (G__law_boxes_in.mono (by decide)) T__law_is_plain (G__law_is_plain.mono (by decide)))
  have G__law_heard : FnG l.prog w K mg base 20 _ _ ["_law_machine_here", "_law_rule_here"] F__law_heard := (d__law_heard (k := 19) B T__law_heard.fu T_parted_by_sums (G_parted_by_sums.mono (by decide)) XS N_Loose N_Needed N_NoBack N_NoBook N_NoName N_NoRow N_NoStep N_NoText N_NotSure N_NoWay N_TooMany N_ValueError N_NoFit N_NotPlain)
  have G_law : FnG l.prog w K mg base 21 _ _ ["_law_script"] F_law := (d_law (k := 20) B T_law.fu T__law_pen (G__law_pen.mono (by decide)) T__law_machine (G__law_machine.mono (by decide)) T__law_rule (G__law_rule.mono (by decide)) T_is_plain (G_is_plain.mono (by decide)) T__law_heard (G__law_heard.mono (by decide)) T__law_due (G__law_due.mono (by decide)) T__law_is_plain (G__law_is_plain.mono (by decide)))
  exact G_law
end K21

namespace K21
open PySem PySem.Spec PyProof.Rows L2 Pu
theorem draw_wp {ns : List Int} {a r m : Int} {t : HH} {Q : D → HH → Prop} (ha : 0 ≤ a) (hb : a < 2 ^ 40) (hr : 0 ≤ r) (hm : 0 < m) (hm2 : m < 2 ^ 250) 
    (hq : ∀ k a' r', 0 ≤ k → k < m → a ≤ a' → a' ≤ a + 1 → 0 ≤ r' → Q (.int k) (.lst [.frz (ns.map D.int), .int a', .int r'] :: t)) :
   Wp Q noE (F__law_draw [.ref 0, .int m] (.lst [.frz (ns.map D.int), .int a, .int r] :: t)) := by
  simp only [Int.reducePow] at hm2
  simp [F__law_draw, r__law_draw, b__law_draw]
  refine wi_dec (fun h0 => ?_) (fun h0 => ?_)
  · simp [hm, hm2]
    exact hq _ _ _ (Int.emod_nonneg _ (by omega)) (Int.emod_lt_of_pos _ hm) (by omega) (by omega) (Int.ediv_nonneg hr (by omega))
  · simp [hm, hm2]
    have c1 : ∀ c : Int, 0 ≤ c % 2147483587 ∧ c % 2147483587 < 2147483587 := fun c => by omega
    have c2 : ∀ x : Int, 0 ≤ x % 2147483647 * (x % 2147483647 % 65521 + 5) ∧ x % 2147483647 * (x % 2147483647 % 65521 + 5) ≤ 2147483646 * 65525 := fun x =>
      ⟨Int.mul_nonneg (by omega) (by omega), Int.mul_le_mul (by omega) (by omega) (by omega) (by omega)⟩
    refine wi_dec (fun h1 => ?_) (fun h1 => ?_)
    · simp
      obtain ⟨x, e1, _⟩ := atI_some (xs := ns.map D.int) (Int.emod_nonneg a (b := (ns.length : Int)) (by omega)) (by rw [List.length_map]; exact Int.emod_lt_of_pos _ (by omega))
      obtain ⟨c, e2⟩ : ∃ c, x = .int c := by
        obtain ⟨y, _, z⟩ := List.mem_map.mp ‹x ∈ _›
        exact ⟨y, z.symm⟩
      subst e2
      simp [e1, hm, hm2, h1]
      have := c1 c
      have := c2 ((c % 2147483587 + 40009 * a + 23) ^ 3)
      refine wi_of (fun h2 => ?_) (fun h2 => ?_)
      · simp
        refine wi_of (fun h2 => ?_) (fun h2 => ?_)
        · simp [hm, hm2]
          exact hq _ _ _ (Int.emod_nonneg _ (by omega)) (Int.emod_lt_of_pos _ hm) (by omega) (by omega) (Int.ediv_nonneg (by split <;> omega) (by omega))
        · simp [hm, hm2]
          refine ⟨by omega, by omega, by omega, ?_⟩
          exact hq _ _ _ (Int.emod_nonneg _ (by omega)) (Int.emod_lt_of_pos _ hm) (by omega) (by omega) hr
      · simp [hm, hm2]
        refine ⟨by omega, by omega, by omega, ?_⟩
        exact hq _ _ _ (Int.emod_nonneg _ (by omega)) (Int.emod_lt_of_pos _ hm) (by omega) (by omega) hr
    · simp [hm, hm2]
      have := c1 (104729 * a + 31)
      have := c2 (((104729 * a + 31) % 2147483587 + 40009 * a + 23) ^ 3)
      refine wi_of (fun h2 => ?_) (fun h2 => ?_)
      · simp at h2; omega
      · simp [hm, hm2]
        refine ⟨by omega, by omega, by omega, ?_⟩
        exact hq _ _ _ (Int.emod_nonneg _ (by omega)) (Int.emod_lt_of_pos _ hm) (by omega) (by omega) hr
end K21

namespace K21
open PySem PySem.Spec PyProof.Rows L2 Pu
theorem form_eq : ∀ (n : Nat) (p : Pt) (h : HH), p.ht < n → F_form n [p.toD] h = .ok p.fmD h
  | 0, _, _, z => absurd z (by omega)
  | n + 1, .num i, h, _ => by
    rw [← wp_eq]
    simp [F_form, r_form, b_form, Pt.toD, Pt.fmD, Pt.fml, Pt.c0, Pt.cf]
  | n + 1, .nm s, h, _ => by
    rw [← wp_eq]
    simp [F_form, r_form, b_form, Pt.toD, Pt.fmD, Pt.fml, Pt.c0, Pt.cf, wp_lc0, wp_lc1, sz]
  | n + 1, .bin w a b, h, z => by
    have za : a.ht < n := by simp only [Pt.ht] at z; omega
    have zb : b.ht < n := by simp only [Pt.ht] at z; omega
    rw [← wp_eq]
    simp [F_form, r_form, b_form, Pt.toD]
    rw [wp_of_eq (form_eq n a h za)]
    simp
    rw [wp_of_eq (form_eq n b h zb)]
    simp [Pt.fmD, Pt.fml]
    refine wi_dec (fun hw => ?_) (fun hw => ?_) <;> simp [wp_lc0, wp_lc1, sz, Pt.c0, Pt.cf, hw]
end K21

namespace K21
open PySem PySem.Spec PyProof.Rows L2 Pu
theorem place_eq {k : Ky} {h : HH} (hk : k ∈ all8) : F_box_place [kD k] h = .ok (.int (pl8 k : Nat)) h := by
  rw [← wp_eq]
  have e := occ8 hk
  rcases all8_cases hk with rfl | rfl | rfl | rfl | rfl | rfl | rfl | rfl <;> (simp [txt8] at e; simp [F_box_place, r_box_place, b_box_place, kD, e])
theorem parts_lone {P N} {d : Pd} {h : HH} (n : Nat) (o : d.lone P N) : F_parts_in (n + 1) [d.toD] h = .ok (.lst ((ptsP d).map ptD)) h := by
  rw [← wp_eq]
  have tl : ∀ (w : String) (r : List D), cut (D.str w :: r) (some 1) none = r := fun w r => by
    rw [show (1 : Int) = ((1 : Nat) : Int) by rfl, cut_from]; rfl
  cases d with
  | w1 w a =>
    rcases o.1 with rfl | rfl | rfl <;> simp [F_parts_in, r_parts_in, b_parts_in, Pd.toD, ptsP, ptD, tl, wp_lc0, wp_lc1, sz]
  | wn w a n =>
    rcases o.1 with rfl | rfl <;> simp [F_parts_in, r_parts_in, b_parts_in, Pd.toD, ptsP, ptD, tl, wp_lc0, wp_lc1, sz]
  | wb w a b =>
    rcases o.1 with rfl | rfl | rfl | rfl <;> simp [F_parts_in, r_parts_in, b_parts_in, Pd.toD, ptsP, ptD, tl, wp_lc0, wp_lc1, sz]
  | cond a d => exact o.elim
theorem parts_eq {P N} {d : Pd} {h : HH} (o : d.ok P N) : F_parts_in 12 [d.toD] h = .ok (.lst ((ptsP d).map ptD)) h := by
  cases d with
  | cond a d =>
    rw [← wp_eq, show (12 : Nat) = 11 + 1 from rfl, F_parts_in]
    have hl := (ptsP_lone o.2).1
    simp [r_parts_in, b_parts_in, Pd.toD]
    rw [wp_of_eq (parts_lone 10 o.2)]
    simp [ptsP, ptD, sz]
    omega
  | w1 w a => exact parts_lone (P := P) (N := N) (d := .w1 w a) 11 o
  | wn w a n => exact parts_lone (P := P) (N := N) (d := .wn w a n) 11 o
  | wb w a b => exact parts_lone (P := P) (N := N) (d := .wb w a b) 11 o
theorem allp_eq {P N} {ds : List Pd} {h : HH} (o : ∀ d ∈ ds, d.ok P N) (hl : ds.length ≤ 100) (hh : h.all (clO 0) = true) : F_all_parts_in [patD ds] h = .ok (.lst ((allP ds).map ptD)) h := by
  rw [← wp_eq]
  refine wp_fL ?_
  simp [r_all_parts_in, b_all_parts_in]
  refine wb_forI (fun i env h' => ∃ z : Option D, env = [some (patD ds), some (.ref h.length), z] ∧ h' = h ++ [.lst ((allP (ds.take i)).map ptD)]) ⟨none, rfl, rfl⟩ (fun _ _ _ _ => by simp) ?_ ?_
  · rintro i d env h' hd ⟨z, rfl, rfl⟩
    rw [List.getElem?_map] at hd
    obtain ⟨dd, e2, rfl⟩ := Option.map_eq_some_iff.mp hd
    have od := o dd (List.mem_of_getElem? e2)
    have hp := (ptsP_ok od).1
    have ha := (allP_ok (P := P) (N := N) (ds := ds.take i) fun d hd => o d (List.mem_of_mem_take hd)).1
    have hi : (ds.take i).length ≤ ds.length := by rw [List.length_take]; omega
    have et : allP (ds.take (i + 1)) = allP (ds.take i) ++ ptsP dd := by
      rw [List.take_add_one, e2]
      unfold allP
      simp
    simp
    rw [wp_of_eq (parts_eq od)]
    simp [et, sz]
    omega
  · rintro env h' ⟨z, rfl, rfl⟩
    simp
    exact FzL.end rfl hh rfl (cls_of fun d hd => by obtain ⟨p, _, rfl⟩ := List.mem_map.mp hd; exact cl_ptD p) ⟨rfl, rfl⟩
theorem boxes_eq {N} {ds : List Pd} {h : HH} (o : ∀ d ∈ ds, d.ok P8 N) (hl : ds.length ≤ 100) (hh : h.all (clO 0) = true) : F_box_parts [patD ds] h = .ok (kT (rk (bxsP ds))) h := by
  rw [← wp_eq]
  refine wp_fP ?_
  have al := allP_ok o
  simp [r_box_parts, b_box_parts]
  rw [wp_of_eq (allp_eq o hl (all_app hh rfl))]
  simp
  refine wb_forI (fun i env h' => ∃ (z2 z3 : Option D) (kvs : List (Ky × D)), env = [some (patD ds), some (.ref h.length), z2, z3] ∧ h' = h ++ [.dic kvs] ∧ Kset (lefts ((allP ds).take i)) kvs) ⟨none, none, [], rfl, rfl, Kset.nil⟩ (fun _ _ _ _ => by simp) ?_ ?_
  · rintro i d env h' hd ⟨z2, z3, kvs, rfl, rfl, ks⟩
    rw [List.getElem?_map] at hd
    obtain ⟨p, e2, rfl⟩ := Option.map_eq_some_iff.mp hd
    have op := al.2 p (List.mem_of_getElem? e2)
    have et : (allP ds).take (i + 1) = (allP ds).take i ++ [p] := by rw [List.take_add_one, e2]; rfl
    have hk := ks.len fun k hk => al.2 (.inl k) (List.mem_of_mem_take (lefts_mem.mp hk))
    rw [et, lefts_app]
    cases p with
    | inl a =>
      simp [ptD, lefts, sz]
      rw [if_pos (by omega)]
      exact ⟨_, _, _, rfl, rfl, ks.put⟩
    | inr n => simp [ptD, lefts]; exact ks
  · rintro env h' ⟨z2, z3, kvs, rfl, rfl, ks⟩
    rw [List.length_map, List.take_length] at ks
    obtain ⟨ps, e1, e2, e3⟩ := ks.sorted (F := F_box_place) (fun k hk => al.2 (.inl k) (lefts_mem.mp hk)) fun k hk => place_eq hk
    simp [cLstX_rd (h := h ++ [.dic kvs]) (i := h.length) (kvs := kvs) (by simp), e1, e2, e3]
    exact FzP.mk rfl hh (cl_kys _) ⟨rfl, rfl⟩
end K21

namespace K21
open PySem PySem.Spec PyProof.Rows L2 Pu
theorem namesp_eq : ∀ (m : Nat) (n : Pt) {h : HH}, n.ht < m → n.ht ≤ 12 → F_names_of_part m [n.toD] h = .ok (.lst (n.names.map D.str)) h
  | 0, _, _, z, _ => absurd z (by omega)
  | m + 1, .num i, h, _, _ => by
    rw [← wp_eq]; simp [F_names_of_part, r_names_of_part, b_names_of_part, Pt.toD, Pt.names]
  | m + 1, .nm s, h, _, _ => by
    rw [← wp_eq]; simp [F_names_of_part, r_names_of_part, b_names_of_part, Pt.toD, Pt.names]
  | m + 1, .bin w a b, h, z, y => by
    have za : a.ht < m := by simp only [Pt.ht] at z; omega
    have zb : b.ht < m := by simp only [Pt.ht] at z; omega
    have ya : a.ht ≤ 12 := by simp only [Pt.ht] at y; omega
    have yb : b.ht ≤ 12 := by simp only [Pt.ht] at y; omega
    have la := Pt.names_len (p := a)
    have lb := Pt.names_len (p := b)
    have pa : 2 ^ a.ht ≤ 2 ^ 12 := Nat.pow_le_pow_right (by decide) ya
    have pb : 2 ^ b.ht ≤ 2 ^ 12 := Nat.pow_le_pow_right (by decide) yb
    rw [← wp_eq]; simp [F_names_of_part, r_names_of_part, b_names_of_part, Pt.toD]
    rw [wp_of_eq (namesp_eq m a za ya)]
    simp
    rw [wp_of_eq (namesp_eq m b zb yb)]
    simp [Pt.names, sz]
    omega
theorem numbers_eq {P} {w : Nat} {ds : List Pd} {h : HH} (o : ∀ d ∈ ds, d.ok P (NP w)) (hw : w ≤ 10) (hl : ds.length ≤ 100) (hh : h.all (clO 0) = true) : F_number_names [patD ds] h = .ok (.tup ((rn (nmsP ds)).map D.str)) h := by
  rw [← wp_eq]
  refine wp_fP ?_
  have al := allP_ok o
  simp [r_number_names, b_number_names]
  rw [wp_of_eq (allp_eq o hl (all_app hh rfl))]
  simp
  refine wb_forI (fun i env h' => ∃ (z2 z3 z4 : Option D) (kvs : List (Ky × D)), env = [some (patD ds), some (.ref h.length), z2, z3, z4] ∧ h' = h ++ [.dic kvs] ∧ Sset ((rights ((allP ds).take i)).flatMap Pt.names) kvs) ⟨none, none, none, [], rfl, rfl, Kset.nil⟩ (fun _ _ _ _ => by simp) ?_ ?_
  · rintro i d env h' hd ⟨z2, z3, z4, kvs, rfl, rfl, ks⟩
    rw [List.getElem?_map] at hd
    obtain ⟨p, e2, rfl⟩ := Option.map_eq_some_iff.mp hd
    have op := al.2 p (List.mem_of_getElem? e2)
    have et : (allP ds).take (i + 1) = (allP ds).take i ++ [p] := by rw [List.take_add_one, e2]; rfl
    have sub : ∀ k ∈ (rights ((allP ds).take i)).flatMap Pt.names, k ∈ nms4 := fun k hk => by
      obtain ⟨n, hn, h2⟩ := List.mem_flatMap.mp hk
      have : PtOk P (NP w) (.inr n) := al.2 _ (List.mem_of_mem_take (rights_mem.mp hn))
      exact Pt.names_ok this.1 k h2
    rw [et, rights_app, List.flatMap_append]
    cases p with
    | inl a => simp [ptD, rights]; exact ks
    | inr n =>
      have on : NP w n := op
      simp [ptD, rights]
      rw [wp_of_eq (namesp_eq 12 n (by omega) (by omega))]
      simp
      refine wb_forI (fun j env h' => ∃ (z4 : Option D) (kvs : List (Ky × D)), env = [some (patD ds), some (.ref h.length), some (.str "n"), some n.toD, z4] ∧ h' = h ++ [.dic kvs] ∧ Sset ((rights ((allP ds).take i)).flatMap Pt.names ++ n.names.take j) kvs) ⟨_, kvs, rfl, rfl, by simpa using ks⟩ (fun _ _ _ _ => by simp) ?_ ?_
      · rintro j d env h' hd ⟨z4, kvs, rfl, rfl, ks⟩
        rw [List.getElem?_map] at hd
        obtain ⟨s, e3, rfl⟩ := Option.map_eq_some_iff.mp hd
        have et3 : n.names.take (j + 1) = n.names.take j ++ [s] := by rw [List.take_add_one, e3]; rfl
        have hk := ks.len fun k hk => by
          rcases List.mem_append.mp hk with z | z
          · exact sub k z
          · exact Pt.names_ok on.1 k (List.mem_of_mem_take z)
        rw [et3, ← List.append_assoc]
        simp [sz]
        rw [if_pos (by omega)]
        exact ⟨_, _, rfl, rfl, by simpa using ks.put⟩
      · rintro env h' ⟨z4, kvs, rfl, rfl, ks⟩
        rw [List.length_map, List.take_length] at ks
        exact ⟨_, _, _, _, rfl, rfl, by simpa using ks⟩
  · rintro env h' ⟨z2, z3, z4, kvs, rfl, rfl, ks⟩
    rw [List.length_map, List.take_length] at ks
    have e1 := ks.sorted (nmsP_ok o)
    simp [cLstX_rd (h := h ++ [.dic kvs]) (i := h.length) (kvs := kvs) (by simp), e1]
    exact FzP.mk rfl hh (by unfold cl; exact cls_of fun d hd => by obtain ⟨p, _, rfl⟩ := List.mem_map.mp hd; unfold cl; rfl) ⟨rfl, rfl⟩
end K21

namespace K21
open PySem PySem.Spec PyProof.Rows L2 Pu
theorem bxin_eq {N} {ds : List Pd} {h : HH} (o : ∀ d ∈ ds, d.ok P8 N) (hl : ds.length ≤ 100) : F__law_boxes_in [patD ds] h = .ok (.lst ((rk (bxsP ds)).map kD)) h := by
  rw [← wp_eq]
  have al := allP_ok o
  simp [F__law_boxes_in, r__law_boxes_in, b__law_boxes_in]
  refine wb_forI (fun i env h' => h' = h ∧ ∃ z2 z3 : Option D, env = [some (patD ds), some (.lst ((lefts (allP (ds.take i))).map kD)), z2, z3, none]) ⟨rfl, none, none, rfl⟩ (fun _ _ _ _ => by simp) ?_ ?_
  · rintro i d env h' hd ⟨rfl, z2, z3, rfl⟩
    rw [List.getElem?_map] at hd
    obtain ⟨dd, e2, rfl⟩ := Option.map_eq_some_iff.mp hd
    have od := o dd (List.mem_of_getElem? e2)
    have hi : (ds.take i).length ≤ ds.length := by rw [List.length_take]; omega
    have ha := (allP_ok (P := P8) (N := N) (ds := ds.take i) fun d hd => o d (List.mem_of_mem_take hd)).1
    have hb : ∀ l : List PtK, (lefts l).length ≤ l.length := fun l => by
      induction l with
      | nil => simp [lefts]
      | cons p l ih => cases p <;> simp [lefts] <;> omega
    have hb := hb (allP (ds.take i))
    have et : lefts (allP (ds.take (i + 1))) = lefts (allP (ds.take i)) ++ lefts (ptsP dd) := by
      rw [List.take_add_one, e2, ← lefts_app]
      unfold allP
      simp
    rw [et, List.map_append]
    revert hb
    generalize lefts (allP (ds.take i)) = acc
    intro hb
    have lone : ∀ (d : Pd) (z2 z3 : Option D), d.lone P8 N → ∀ (acc : List Ky) {K : Ks}, acc.length ≤ 1000 → (∀ z3, K.nx [some (patD ds), some (.lst (acc.map kD ++ (lefts (ptsP d)).map kD)), z2, z3, none] h') →
        Wb K (sSet 1 (eOp opAdd (eV 1) (eVal (fCall cLstX (aCons (eSl (eV 3) (oSo (eC (D.int 1))) (oSo (eOp opSub (eC (D.int 3)) (eCall cInt (aCons (eOp opInA (eOp opIxA (eV 3) (eC (D.int 0))) (eTup (aCons (eC (D.str "put")) (aCons (eC (D.str "more")) (aCons (eC (D.str "if")) aNil))))) aNil))))) aNil)))) [some (patD ds), some (.lst (acc.map kD)), z2, some d.toD, none] h') := fun d z2 z3 od acc {K} hacc hk => by
      cases d with
      | w1 w a => 
        have := hk (some (Pd.w1 w a).toD)
        rcases od.1 with rfl | rfl | rfl <;> (simp [Pd.toD, ptsP, lefts, sz] at this ⊢; exact ⟨by omega, this⟩)
      | wn w a n =>
        have := hk (some (Pd.wn w a n).toD)
        rcases od.1 with rfl | rfl <;> (simp [Pd.toD, ptsP, lefts, sz] at this ⊢; exact ⟨by omega, this⟩)
      | wb w a b =>
        have := hk (some (Pd.wb w a b).toD)
        rcases od.1 with rfl | rfl | rfl | rfl <;> (simp [Pd.toD, ptsP, lefts, sz] at this ⊢; exact ⟨by omega, this⟩)
      | cond a d => exact od.elim
    have ba : (allP (ds.take i)).length ≤ 300 := by omega
    have one : ∀ d : Pd, d.lone P8 N → ∀ (acc : List Ky) (z2 z3 : Option D) {K : Ks}, acc.length ≤ 1000 → (∀ z3, K.nx [some (patD ds), some (.lst (acc.map kD ++ (lefts (ptsP d)).map kD)), z2, z3, none] h') →
        Wb K (forGo [] (gN 3) (sSet 1 (eOp opAdd (eV 1) (eVal (fCall cLstX (aCons (eSl (eV 3) (oSo (eC (D.int 1))) (oSo (eOp opSub (eC (D.int 3)) (eCall cInt (aCons (eOp opInA (eOp opIxA (eV 3) (eC (D.int 0))) (eTup (aCons (eC (D.str "put")) (aCons (eC (D.str "more")) (aCons (eC (D.str "if")) aNil))))) aNil))))) aNil))))) [d.toD] [some (patD ds), some (.lst (acc.map kD)), z2, z3, none] h') := fun d od acc z2 z3 {K} hacc hk => by
      rw [wb_for1]
      refine ⟨rfl, ?_⟩
      refine lone d z2 z3 od acc hacc fun z3 => ?_
      dsimp only
      rw [wb_for0]
      exact ⟨rfl, hk z3⟩
    cases dd with
    | cond a d =>
      simp [Pd.toD]
      rw [wb_for1]
      refine ⟨rfl, ?_⟩
      simp [sz]
      refine ⟨by omega, ?_⟩
      have := one d od.2 (acc ++ [a]) (some (.tup [.str "if", kD a, d.toD])) (some (.tup [.str "if", kD a, d.toD])) (K := { nx := fun env h'_1 => h'_1 = h' ∧ ∃ z2 z3, env = [some (patD ds), some (D.lst (acc.map kD ++ (lefts (ptsP (Pd.cond a d))).map kD)), z2, z3, none], rt := fun x h'_1 => x = D.lst (List.map kD (rk (bxsP ds))) ∧ h'_1 = h', bk := fun _ _ => False, ct := fun _ _ => False, ex := noE }) (by simp; omega) fun z3 => ⟨rfl, some (.tup [.str "if", kD a, d.toD]), z3, by simp [ptsP, lefts]⟩
      rw [List.map_append] at this
      refine wb_mono this (fun _ _ w => w) (fun _ _ w => w) (fun _ _ w => w.elim) (fun _ _ w => w.elim) (fun _ _ w => w)
    | w1 w a =>
      have nif : ¬ w = "if" := by rcases od.1 with rfl | rfl | rfl <;> decide
      simp [Pd.toD, nif]
      exact one (.w1 w a) od acc _ _ (by omega) fun z3 => ⟨rfl, _, _, rfl⟩
    | wn w a n =>
      have nif : ¬ w = "if" := by rcases od.1 with rfl | rfl <;> decide
      simp [Pd.toD, nif]
      exact one (.wn w a n) od acc _ _ (by omega) fun z3 => ⟨rfl, _, _, rfl⟩
    | wb w a b =>
      have nif : ¬ w = "if" := by rcases od.1 with rfl | rfl | rfl | rfl <;> decide
      simp [Pd.toD, nif]
      exact one (.wb w a b) od acc _ _ (by omega) fun z3 => ⟨rfl, _, _, rfl⟩
  · rintro env h' ⟨rfl, z2, z3, rfl⟩
    rw [List.length_map, List.take_length]
    simp
    rw [show [D.int 0, D.int 1, D.int 2, D.int 3, D.str "A", D.str "B", D.str "C", D.str "D"] = all8.map kD from rfl]
    refine wp_of (lc_filter (ψ := fun y => match kyD y with | some k => decide (k ∈ bxsP ds) | none => false) (φ := fun d => d) rfl _ _ (by simp [sz, all8]) fun y hy => ?_) ?_
    · obtain ⟨k, hk, rfl⟩ := List.mem_map.mp hy
      refine ⟨_, rfl, ?_, fun _ => ?_⟩
      · rw [← wp_eq]
        simp [in_kysL]
        rfl
      · rw [← wp_eq]; simp
    · have e : ([] : List D) ++ ((all8.map kD).filter fun y => match kyD y with | some k => decide (k ∈ bxsP ds) | none => false).map (fun d => d) = (rk (bxsP ds)).map kD := by
        rw [List.nil_append, List.map_id', List.filter_map]
        unfold rk
        refine congrArg _ (List.filter_congr fun k _ => ?_)
        simp
      rw [e]
      exact ⟨rfl, rfl⟩
theorem lnames_eq : ∀ (m : Nat) (n : Pt) {h : HH}, n.ht < m → n.ht ≤ 12 → n.ok → F__law_names_of m [n.toD] h = .ok (.lst (n.names.map D.str)) h
  | 0, _, _, z, _, _ => absurd z (by omega)
  | m + 1, .num i, h, _, _, _ => by
    rw [← wp_eq]; simp [F__law_names_of, r__law_names_of, b__law_names_of, Pt.toD, Pt.names, wp_lc0, wp_lc1]
  | m + 1, .nm s, h, _, _, o => by
    simp [Pt.ok] at o
    rw [← wp_eq]
    rcases o with rfl | rfl | rfl | rfl <;> simp [F__law_names_of, r__law_names_of, b__law_names_of, Pt.toD, Pt.names, wp_lc0, wp_lc1, sz]
  | m + 1, .bin w a b, h, z, y, o => by
    have za : a.ht < m := by simp only [Pt.ht] at z; omega
    have zb : b.ht < m := by simp only [Pt.ht] at z; omega
    have ya : a.ht ≤ 12 := by simp only [Pt.ht] at y; omega
    have yb : b.ht ≤ 12 := by simp only [Pt.ht] at y; omega
    have la := Pt.names_len (p := a)
    have lb := Pt.names_len (p := b)
    have pa : 2 ^ a.ht ≤ 2 ^ 12 := Nat.pow_le_pow_right (by decide) ya
    have pb : 2 ^ b.ht ≤ 2 ^ 12 := Nat.pow_le_pow_right (by decide) yb
    rw [← wp_eq]; simp [F__law_names_of, r__law_names_of, b__law_names_of, Pt.toD]
    rw [wp_of_eq (lnames_eq m a za ya o.2.1)]
    simp
    rw [wp_of_eq (lnames_eq m b zb yb o.2.2)]
    simp [Pt.names, sz]
    omega
theorem nmin_eq {P} {w : Nat} {ds : List Pd} {h : HH} (o : ∀ d ∈ ds, d.ok P (NP w)) (hw : w ≤ 10) (hl : ds.length ≤ 100) : F__law_names_in [patD ds] h = .ok (.lst ((rn (nmsP ds)).map D.str)) h := by
  rw [← wp_eq]
  have al := allP_ok o
  have nl : ∀ ds : List Pd, (∀ d ∈ ds, d.ok P (NP w)) → (nmsP ds).length ≤ ds.length * 1024 := fun ds o => by
    induction ds with
    | nil => simp [nmsP, allP, rights]
    | cons d ds ih =>
      have h2 := ih fun x hx => o x (by simp [hx])
      have od := o d (by simp)
      have key : ∀ d : Pd, d.lone P (NP w) → ((rights (ptsP d)).flatMap Pt.names).length ≤ 1024 := fun d od => by
        cases d with
        | wn w2 a n =>
          have on : NP w n := od.2.2
          have := Pt.names_len (p := n)
          have h3 : 2 ^ n.ht ≤ 2 ^ 10 := Nat.pow_le_pow_right (by decide) (by omega)
          simp [ptsP, rights]; omega
        | w1 w2 a => simp [ptsP, rights]
        | wb w2 a b => simp [ptsP, rights]
        | cond a d => exact od.elim
      have h3 : ((rights (ptsP d)).flatMap Pt.names).length ≤ 1024 := by
        cases d with
        | cond a d => exact key d od.2
        | w1 w2 a => exact key _ od
        | wn w2 a n => exact key _ od
        | wb w2 a b => exact key _ od
      have e : nmsP (d :: ds) = (rights (ptsP d)).flatMap Pt.names ++ nmsP ds := by
        unfold nmsP allP
        rw [List.flatMap_cons, rights_app, List.flatMap_append]
      rw [e, List.length_append, List.length_cons]
      omega
  simp [F__law_names_in, r__law_names_in, b__law_names_in]
  refine wb_forI (fun i env h' => h' = h ∧ ∃ z2 z3 : Option D, env = [some (patD ds), some (.lst ((nmsP (ds.take i)).map D.str)), z2, z3, none]) ⟨rfl, none, none, rfl⟩ (fun _ _ _ _ => by simp) ?_ ?_
  · rintro i d env h' hd ⟨rfl, z2, z3, rfl⟩
    rw [List.getElem?_map] at hd
    obtain ⟨dd, e2, rfl⟩ := Option.map_eq_some_iff.mp hd
    have od := o dd (List.mem_of_getElem? e2)
    have hi : (ds.take i).length ≤ ds.length := by rw [List.length_take]; omega
    have hb := nl (ds.take i) fun d hd => o d (List.mem_of_mem_take hd)
    have et : nmsP (ds.take (i + 1)) = nmsP (ds.take i) ++ (rights (ptsP dd)).flatMap Pt.names := by
      rw [List.take_add_one, e2]
      unfold nmsP allP
      simp [rights_app]
    rw [et, List.map_append]
    have hb : (nmsP (ds.take i)).length ≤ 110000 := by omega
    revert hb
    generalize nmsP (ds.take i) = acc
    intro hb
    have one : ∀ d : Pd, d.lone P (NP w) → ∀ (z2 z3 : Option D) {K : Ks}, (∀ z3, K.nx [some (patD ds), some (.lst (acc.map D.str ++ ((rights (ptsP d)).flatMap Pt.names).map D.str)), z2, z3, none] h') →
        Wb K (forGo [] (gN 3) (sIf (tB (eOp opInA (eOp opIxA (eV 3) (eC (D.int 0))) (eTup (aCons (eC (D.str "put")) (aCons (eC (D.str "more")) aNil))))) (sSet 1 (eOp opAdd (eV 1) (eFn (F__law_names_of 12) (aCons (eOp opIxA (eV 3) (eC (D.int 2))) aNil)))) sNil) [d.toD] [some (patD ds), some (.lst (acc.map D.str)), z2, z3, none] h') := fun d od z2 z3 {K} hk => by
      rw [wb_for1]
      refine ⟨rfl, ?_⟩
      cases d with
      | w1 w a =>
        have := hk (some (Pd.w1 w a).toD)
        rcases od.1 with rfl | rfl | rfl <;> (simp [Pd.toD, ptsP, rights, wb_for0] at this ⊢; exact this)
      | wn w2 a n =>
        have := hk (some (Pd.wn w2 a n).toD)
        have on : NP w n := od.2.2
        have ln := Pt.names_len (p := n)
        have h3 : 2 ^ n.ht ≤ 2 ^ 10 := Nat.pow_le_pow_right (by decide) (by omega)
        rcases od.1 with rfl | rfl <;> (simp [Pd.toD, ptsP, rights] at this ⊢; rw [wp_of_eq (lnames_eq 12 n (by omega) (by omega) on.1)]; simp [sz, wb_for0]; exact ⟨by omega, this⟩)
      | wb w a b =>
        have := hk (some (Pd.wb w a b).toD)
        rcases od.1 with rfl | rfl | rfl | rfl <;> (simp [Pd.toD, ptsP, rights, wb_for0] at this ⊢; exact this)
      | cond a d => exact od.elim
    cases dd with
    | cond a d =>
      simp [Pd.toD]
      rw [wb_for1]
      refine ⟨rfl, ?_⟩
      simp
      have := one d od.2 (some (.tup [.str "if", kD a, d.toD])) (some (.tup [.str "if", kD a, d.toD])) (K := { nx := fun env h'_1 => h'_1 = h' ∧ ∃ z2 z3, env = [some (patD ds), some (D.lst (acc.map D.str ++ ((rights (ptsP (Pd.cond a d))).flatMap Pt.names).map D.str)), z2, z3, none], rt := fun x h'_1 => x = D.lst (List.map D.str (rn (nmsP ds))) ∧ h'_1 = h', bk := fun _ _ => False, ct := fun _ _ => False, ex := noE }) fun z3 => ⟨rfl, some (.tup [.str "if", kD a, d.toD]), z3, by simp [ptsP, rights]⟩
      refine wb_mono this (fun _ _ w => by simpa using w) (fun _ _ w => by simpa using w) (fun _ _ w => w.elim) (fun _ _ w => w.elim) (fun _ _ w => w)
    | w1 w a =>
      have nif : ¬ w = "if" := by rcases od.1 with rfl | rfl | rfl <;> decide
      simp [Pd.toD, nif]
      exact one (.w1 w a) od _ _ fun z3 => ⟨rfl, some (Pd.w1 w a).toD, z3, by simp [Pd.toD]⟩
    | wn w a n =>
      have nif : ¬ w = "if" := by rcases od.1 with rfl | rfl <;> decide
      simp [Pd.toD, nif]
      exact one (.wn w a n) od _ _ fun z3 => ⟨rfl, some (Pd.wn w a n).toD, z3, by simp [Pd.toD]⟩
    | wb w a b =>
      have nif : ¬ w = "if" := by rcases od.1 with rfl | rfl | rfl | rfl <;> decide
      simp [Pd.toD, nif]
      exact one (.wb w a b) od _ _ fun z3 => ⟨rfl, some (Pd.wb w a b).toD, z3, by simp [Pd.toD]⟩
  · rintro env h' ⟨rfl, z2, z3, rfl⟩
    rw [List.length_map, List.take_length]
    simp
    rw [show [D.str "k", D.str "l", D.str "m", D.str "n"] = nms4.map D.str from rfl]
    refine wp_of (lc_filter (ψ := fun y => match y with | .str k => decide (k ∈ nmsP ds) | _ => false) (φ := fun d => d) rfl _ _ (by simp [sz, nms4]) fun y hy => ?_) ?_
    · obtain ⟨k, hk, rfl⟩ := List.mem_map.mp hy
      refine ⟨_, rfl, ?_, fun _ => ?_⟩
      · rw [← wp_eq]
        simp [in_strsL]
      · rw [← wp_eq]; simp
    · have e : ([] : List D) ++ ((nms4.map D.str).filter fun y => match y with | .str k => decide (k ∈ nmsP ds) | _ => false).map (fun d => d) = (rn (nmsP ds)).map D.str := by
        rw [List.nil_append, List.map_id', List.filter_map]
        rfl
      rw [e]
      exact ⟨rfl, rfl⟩
end K21

namespace K21
open PySem PySem.Spec PyProof.Rows L2 Pu
theorem words_lone {P N} {d : Pd} {h : HH} (n : Nat) (o : d.lone P N) : F_words_in (n + 1) [d.toD] h = .ok (.lst ((wordsP d).map D.str)) h := by
  rw [← wp_eq]
  cases d with
  | w1 w a => have := (lw_ne (w := w) (v := w)).2.2.2.1 o.1; simp [F_words_in, r_words_in, b_words_in, Pd.toD, wordsP, this]
  | wn w a n => have := (lw_ne (w := w) (v := w)).2.2.2.2.1 o.1; simp [F_words_in, r_words_in, b_words_in, Pd.toD, wordsP, this]
  | wb w a b => have := (lw_ne (w := w) (v := w)).2.2.2.2.2 o.1; simp [F_words_in, r_words_in, b_words_in, Pd.toD, wordsP, this]
  | cond a d => exact o.elim
theorem words_eq {P N} {d : Pd} {h : HH} (o : d.ok P N) : F_words_in 12 [d.toD] h = .ok (.lst ((wordsP d).map D.str)) h := by
  cases d with
  | cond a d =>
    rw [← wp_eq, show (12 : Nat) = 11 + 1 from rfl, F_words_in]
    have hl : (wordsP d).length ≤ 1 := by
      cases d with
      | cond a d => exact o.2.elim
      | _ => simp [wordsP]
    simp [r_words_in, b_words_in, Pd.toD]
    rw [wp_of_eq (words_lone 10 o.2)]
    simp [wordsP, sz]
    omega
  | w1 w a => exact words_lone (P := P) (N := N) (d := .w1 w a) 11 o
  | wn w a n => exact words_lone (P := P) (N := N) (d := .wn w a n) 11 o
  | wb w a b => exact words_lone (P := P) (N := N) (d := .wb w a b) 11 o
def crooked (d : Pd) : Bool := (wordsP d).any fun w => decide (w ∈ ["right", "part", "if"])
def crkD : D → D
  | .str w => .bl (decide (w ∈ ["right", "part", "if"]))
  | d => d
theorem plain_eq {P N} {ds : List Pd} {h : HH} (o : ∀ d ∈ ds, d.ok P N) : F_is_plain [patD ds] h = .ok (.bl (!ds.any crooked)) h := by
  rw [← wp_eq]
  simp [F_is_plain, r_is_plain, b_is_plain]
  refine wb_forI (fun i env h' => h' = h ∧ (∃ z : Option D, env = [some (patD ds), z, none]) ∧ (ds.take i).any crooked = false) ⟨rfl, ⟨none, rfl⟩, rfl⟩ (fun _ _ _ _ => by simp) ?_ ?_
  · rintro i d env h' hd ⟨rfl, ⟨z, rfl⟩, al⟩
    rw [List.getElem?_map] at hd
    obtain ⟨dd, e2, rfl⟩ := Option.map_eq_some_iff.mp hd
    have od := o dd (List.mem_of_getElem? e2)
    have et : (ds.take (i + 1)).any crooked = crooked dd := by
      rw [List.take_add_one, e2, List.any_append, al]; simp
    have lw : (wordsP dd).length ≤ 2 := by
      cases dd with
      | cond a d =>
        cases d with
        | cond a d => exact od.2.elim
        | _ => simp [wordsP]
      | _ => simp [wordsP]
    simp
    rw [wp_of_eq (words_eq od)]
    simp
    refine wp_of (lc_map (φ := crkD) rfl ((wordsP dd).map D.str) [] (by simp [sz]; omega) fun y hy => ?_) ?_
    · obtain ⟨w, hw, rfl⟩ := List.mem_map.mp hy
      refine ⟨_, rfl, ?_⟩
      rw [← wp_eq]
      have e := fun h => in_strsT (h := h) (ks := ["right", "part", "if"]) (k := w)
      simp [crkD] at e ⊢
      exact e
    have e1 : ([] : List D) ++ ((wordsP dd).map D.str).map crkD = ((wordsP dd).map fun w => decide (w ∈ ["right", "part", "if"])).map D.bl := by
      rw [List.nil_append, List.map_map, List.map_map]; rfl
    rw [e1]
    simp only [wp_aNil, wp_aCons, wp_cAny, itemsL_lst, wo_some, blsD_map]
    have e2 : ((wordsP dd).map fun w => decide (w ∈ ["right", "part", "if"])).any id = crooked dd := by rw [List.any_map]; rfl
    rw [e2]
    cases hc : crooked dd with
    | true =>
      have : ds.any crooked = true := List.any_eq_true.mpr ⟨dd, List.mem_of_getElem? (by assumption), hc⟩
      simp [this]
    | false => simp [et, hc]
  · rintro env h' ⟨rfl, ⟨z, rfl⟩, al⟩
    rw [List.length_map, List.take_length] at al
    simp [al]
theorem own_eq {k : Ky} {h : HH} (hk : k ∈ all8) : F_own_form [kD k] h = .ok (FD (ownF k)) h := by
  rw [← wp_eq]
  have e := fun h => place_eq (h := h) hk
  rcases all8_cases hk with rfl | rfl | rfl | rfl | rfl | rfl | rfl | rfl <;>
  · simp [F_own_form, r_own_form, b_own_form]
    simp [intsL, List.range, List.range.loop, wp_lc0, wp_lc1, sz, wp_of_eq (e _), ownF, pl8]
theorem numf_eq {n : Pt} {h : HH} (z : n.ht < 12) : F_number_form [n.toD] h = .ok (FD (numF n)) h := by
  rw [← wp_eq]
  simp [F_number_form, r_number_form, b_number_form]
  rw [wp_of_eq (form_eq 12 n h z)]
  simp [intsL, List.range, List.range.loop, wp_lc0, wp_lc1, sz, numF, Pt.fmD, Pt.fml]
end K21

namespace K21
open PySem PySem.Spec PyProof.Rows L2 Pu
theorem zipD_map {α β : Type} {f : α → D} {g : β → D} : ∀ {xs : List α} {ys : List β}, zipD (xs.map f) (ys.map g) = (xs.zip ys).map fun p => .tux [f p.1, g p.2]
  | [], _ => by simp
  | _ :: _, [] => by simp [zipD]
  | x :: xs, y :: ys => by simp [zipD_map]
def sumD (t : Int) : D → D
  | .tux [.int a, .int b] => .int (a + t * b)
  | d => d
theorem fsum_zip {t : Int} : ∀ {F G : List Int}, ((F.zip G).map fun p => D.tux [.int p.1, .int p.2]).map (sumD t) = (fsum F G t).map D.int
  | [], _ => by simp [fsum]
  | _ :: _, [] => by simp [fsum]
  | a :: F, b :: G => by
    have ih := fsum_zip (t := t) (F := F) (G := G)
    unfold fsum at ih ⊢
    rw [List.zip_cons_cons, List.map_cons, List.map_cons, ih, List.zipWith_cons_cons, List.map_cons]; rfl
theorem fsum_eq {F G : List Int} {t : Int} {h : HH} (ht : -10 ≤ t ∧ t ≤ 10) (hl : F.length ≤ 100) (hG : G.length = F.length) : F_form_sum [FD F, FD G, .int t] h = .ok (FD (fsum F G t)) h := by
  rw [← wp_eq]
  simp [F_form_sum, r_form_sum, b_form_sum]
  rw [zipD_map]
  refine wp_of (lc_map (φ := sumD t) rfl ((F.zip G).map fun p => D.tux [.int p.1, .int p.2]) [] (by simp [sz]; omega) fun y hy => ?_) ?_
  · obtain ⟨⟨a, b⟩, _, rfl⟩ := List.mem_map.mp hy
    refine ⟨_, rfl, ?_⟩
    rw [← wp_eq]
    simp [sumD]
    exact .inl ⟨by omega, by omega⟩
  have e1 : ([] : List D) ++ ((F.zip G).map fun p => D.tux [.int p.1, .int p.2]).map (sumD t) = (fsum F G t).map D.int := by
    rw [List.nil_append, fsum_zip]
  rw [e1]
  simp
/-- the box that a deed puts -/
def fst : Pd → Ky
  | .w1 _ a => a
  | .wn _ a _ => a
  | .wb _ a _ => a
  | .cond a _ => a
theorem behind_eq {ks : List Ky} {F : Ky → List Int} {w : Nat} (hw : w ≤ 10) {d : Pd} (o : pln P8 (NP w) d) (hF : ∀ k ∈ ks, (F k).length = 13) (hk : ∀ k ∈ lefts (ptsP d), k ∈ ks) {h : HH} {i : Nat} (hi : h[i]? = some (.dic (tb ks fun k => FD (F k)))) :
    F_form_behind [d.toD, .ref i] h = .ok (FD (frm F d (fst d))) h := by
  rw [← wp_eq]
  cases d with
  | cond a d => exact o.elim
  | w1 w a =>
    have ga := tb_get (f := fun k => FD (F k)) (hk a (by simp [ptsP, lefts]))
    have la := hF a (hk a (by simp [ptsP, lefts]))
    rcases o.1 with rfl | rfl <;>
    · simp [F_form_behind, r_form_behind, b_form_behind, Pd.toD, hi, kyD_kD, ga]
      rw [wp_of_eq (fsum_eq (by decide) (by omega) rfl)]
      simp [frm, fst, up]
  | wn w2 a n =>
    have ga := tb_get (f := fun k => FD (F k)) (hk a (by simp [ptsP, lefts]))
    have la := hF a (hk a (by simp [ptsP, lefts]))
    have on : NP w n := o.2.2
    have en := fun h => numf_eq (n := n) (h := h) (by have := on.2; omega)
    rcases o.1 with rfl | rfl
    · simp [F_form_behind, r_form_behind, b_form_behind, Pd.toD, hi, kyD_kD, ga]
      rw [wp_of_eq (en _)]
      simp [frm, fst, up]
    · simp [F_form_behind, r_form_behind, b_form_behind, Pd.toD, hi, kyD_kD, ga]
      rw [wp_of_eq (en _)]
      simp
      rw [wp_of_eq (fsum_eq (by decide) (by omega) (numF_len.trans la.symm))]
      simp [frm, fst, up]
  | wb w2 a b =>
    have ga := tb_get (f := fun k => FD (F k)) (hk a (by simp [ptsP, lefts]))
    have la := hF a (hk a (by simp [ptsP, lefts]))
    have gb := tb_get (f := fun k => FD (F k)) (hk b (by simp [ptsP, lefts]))
    have lb := hF b (hk b (by simp [ptsP, lefts]))
    rcases o.1 with rfl | rfl | rfl
    · simp [F_form_behind, r_form_behind, b_form_behind, Pd.toD, hi, kyD_kD, ga, gb]
      simp [frm, fst, up]
    · simp [F_form_behind, r_form_behind, b_form_behind, Pd.toD, hi, kyD_kD, ga, gb]
      rw [wp_of_eq (fsum_eq (by decide) (by omega) (lb.trans la.symm))]
      simp [frm, fst, up]
    · simp [F_form_behind, r_form_behind, b_form_behind, Pd.toD, hi, kyD_kD, ga, gb]
      rw [wp_of_eq (fsum_eq (by decide) (by omega) (lb.trans la.symm))]
      simp [frm, fst, up]
end K21

namespace K21
open PySem PySem.Spec PyProof.Rows L2 Pu
/-- the boxes that stand there -/
abbrev prt (ds : List Pd) : List Ky := rk (bxsP ds)
def rowD (f : Ky → List Int) (k : Ky) : D := .tup [kD k, FD (f k)]
theorem lefts_sub {N} {ds : List Pd} (o : ∀ d ∈ ds, d.ok P8 N) {d : Pd} (hd : d ∈ ds) : ∀ k ∈ lefts (ptsP d), k ∈ prt ds := fun k hk => by
  have : k ∈ bxsP ds := by
    unfold bxsP
    refine lefts_mem.mpr ?_
    unfold allP
    exact List.mem_flatMap.mpr ⟨d, hd, lefts_mem.mp hk⟩
  exact rk_mem.mpr ⟨bxsP_ok o k this, this⟩
theorem fst_mem {P N} {d : Pd} (o : pln P N d) : fst d ∈ lefts (ptsP d) := by
  cases d with
  | cond a d => exact o.elim
  | _ => simp [fst, ptsP, lefts]
theorem frm_up {P N} {d : Pd} (o : pln P N d) {F : Ky → List Int} : frm F d = up F (fst d) (frm F d (fst d)) := by
  cases d with
  | cond a d => exact o.elim
  | w1 w a => simp only [frm, fst]; funext p; unfold up; split <;> simp_all
  | wn w a n => simp only [frm, fst]; funext p; unfold up; split <;> simp_all
  | wb w a b => simp only [frm, fst]; funext p; unfold up; split <;> simp_all
theorem frms_len {w : Nat} : ∀ {ds : List Pd} {F : Ky → List Int}, (∀ k ∈ all8, (F k).length = 13) → (∀ d ∈ ds, pln P8 (NP w) d) → ∀ k ∈ all8, (frms F ds k).length = 13 := fun {ds F} hF o k hk =>
  (frms_vals (G := fun _ => 0) (f := fun k => dt (cc fun _ => 0) (F k)) (fun k hk => ⟨hF k hk, rfl⟩) o k hk).1
theorem rk_nodup {ks : List Ky} : (rk ks).Nodup := by
  unfold rk
  exact List.Pairwise.filter _ (by unfold all8; decide)
theorem put_fd {ks : List Ky} {F : Ky → List Int} {a : Ky} {L : List Int} (h : a ∈ ks) : dPut (tb ks fun k => FD (F k)) a (FD L) = tb ks fun k => FD (up F a L k) := by
  rw [tb_put h]
  congr 1
  funext k
  unfold up
  split <;> rfl
theorem cl_FD {n : Nat} {F : List Int} : cl n (FD F) = true := by
  unfold cl
  exact cls_of fun d hd => by
    obtain ⟨k, _, rfl⟩ := List.mem_map.mp hd
    unfold cl; rfl
theorem cl_row {n : Nat} {f : Ky → List Int} {k : Ky} : cl n (rowD f k) = true := by
  unfold rowD cl cls cls cls
  rw [cl_kD, cl_FD]
  rfl
/-- the forms of a plain pattern -/
abbrev fms (ds : List Pd) : Ky → List Int := frms ownF ds
theorem forms_eq {w : Nat} (hw : w ≤ 10) {ds : List Pd} (o : ∀ d ∈ ds, pln P8 (NP w) d) (hl : ds.length ≤ 100) {h : HH} (hh : h.all (clO 0) = true) : F_forms [patD ds] h = .ok (.lst ((prt ds).map (rowD (fms ds)))) h := by
  rw [← wp_eq]
  refine wp_fP ?_
  have ok : ∀ d ∈ ds, d.ok P8 (NP w) := fun d hd => pln_ok (o d hd)
  have rl := rk_len (ks := bxsP ds)
  simp [r_forms, b_forms]
  rw [wp_of_eq (boxes_eq ok hl hh)]
  simp
  refine wb_forI (fun i env h' => ∃ z3 : Option D, env = [some (patD ds), some (kT (prt ds)), some (.ref h.length), z3, none] ∧ h' = h ++ [.dic (tb ((prt ds).take i) fun k => FD (ownF k))]) ⟨none, rfl, rfl⟩ (fun _ _ _ _ => by simp) ?_ ?_
  · rintro i d env h' hd ⟨z3, rfl, rfl⟩
    rw [List.getElem?_map] at hd
    obtain ⟨k, e2, rfl⟩ := Option.map_eq_some_iff.mp hd
    have hk := rk_sub k (List.mem_of_getElem? e2)
    have et : (prt ds).take (i + 1) = (prt ds).take i ++ [k] := by rw [List.take_add_one, e2]; rfl
    have nk : k ∉ (prt ds).take i := fun z => by
      have nd := (rk_nodup (ks := bxsP ds)).sublist (List.take_sublist (i + 1) _)
      rw [show List.take (i + 1) (rk (bxsP ds)) = _ from et] at nd
      exact (List.nodup_append.mp nd).2.2 k z k (by simp) rfl
    simp
    rw [wp_of_eq (own_eq hk)]
    rw [et]
    simp [kyD_kD, tb_new nk, sz]
    have pl : (prt ds).length ≤ 8 := rl
    rw [if_pos (by omega)]
    exact ⟨_, rfl, by rw [up_self (f := fun k => FD (ownF k))]⟩
  · rintro env h' ⟨z3, rfl, rfl⟩
    rw [List.length_map, List.take_length]
    simp
    refine wb_forI (fun i env h' => ∃ z3 z4 : Option D, env = [some (patD ds), some (kT (prt ds)), some (.ref h.length), z3, z4] ∧ h' = h ++ [.dic (tb (prt ds) fun k => FD (frms ownF (ds.take i) k))]) ⟨_, none, rfl, by simp [frms]⟩ (fun _ _ _ _ => by simp) ?_ ?_
    · rintro i d env h' hd ⟨z3, z4, rfl, rfl⟩
      rw [List.getElem?_map] at hd
      obtain ⟨dd, e2, rfl⟩ := Option.map_eq_some_iff.mp hd
      have m := List.mem_of_getElem? e2
      have od := o dd m
      have et : frms ownF (ds.take (i + 1)) = frm (frms ownF (ds.take i)) dd := by
        rw [List.take_add_one, e2]; simp [frms]
      have be := behind_eq (ks := prt ds) (F := frms ownF (ds.take i)) hw od (fun k hk => frms_len (fun _ _ => ownF_len) (fun x hx => o x (List.mem_of_mem_take hx)) k (rk_sub k hk)) (lefts_sub ok m) (h := h ++ [.dic (tb (prt ds) fun k => FD (frms ownF (ds.take i) k))]) (i := h.length) (by simp)
      simp
      rw [wp_of_eq be]
      have fm : fst dd ∈ prt ds := lefts_sub ok m _ (fst_mem od)
      rw [frm_up od] at et
      rw [et]
      generalize frm (frms ownF (ds.take i)) dd (fst dd) = L
      have pl : (prt ds).length ≤ 8 := rl
      cases dd with
      | cond a d => exact od.elim
      | w1 w2 a =>
        have e := put_fd (F := frms ownF (ds.take i)) (L := L) fm
        simp only [fst] at e
        simp [Pd.toD, kyD_kD, sz, fst, e]
        rw [if_pos (by omega)]
        exact ⟨_, _, rfl, rfl⟩
      | wn w2 a n =>
        have e := put_fd (F := frms ownF (ds.take i)) (L := L) fm
        simp only [fst] at e
        simp [Pd.toD, kyD_kD, sz, fst, e]
        rw [if_pos (by omega)]
        exact ⟨_, _, rfl, rfl⟩
      | wb w2 a b =>
        have e := put_fd (F := frms ownF (ds.take i)) (L := L) fm
        simp only [fst] at e
        simp [Pd.toD, kyD_kD, sz, fst, e]
        rw [if_pos (by omega)]
        exact ⟨_, _, rfl, rfl⟩
    · rintro env h' ⟨z3, z4, rfl, rfl⟩
      rw [List.length_map, List.take_length]
      simp
      refine wp_of (lc_map (φ := fun x => match kyD x with | some k => rowD (frms ownF ds) k | none => .non) rfl ((prt ds).map kD) [] (by have pl : (prt ds).length ≤ 8 := rl; simp [sz]; omega) fun y hy => ?_) ?_
      · obtain ⟨k, hk, rfl⟩ := List.mem_map.mp hy
        refine ⟨_, rfl, ?_⟩
        rw [← wp_eq]
        have g := tb_get (f := fun k => FD (frms ownF ds k)) hk
        simp [kyD_kD, g, rowD]
      · rw [List.nil_append, List.map_map]
        have e : ((prt ds).map ((fun x => match kyD x with | some k => rowD (frms ownF ds) k | none => .non) ∘ kD)) = (prt ds).map (rowD (frms ownF ds)) := List.map_congr_left fun k _ => by simp [kyD_kD]
        rw [e]
        exact FzP.mk rfl hh (by unfold cl; exact cls_of fun d hd => by obtain ⟨k, _, rfl⟩ := List.mem_map.mp hd; exact cl_row) ⟨rfl, rfl⟩
end K21

namespace K21
open PySem PySem.Spec PyProof.Rows L2 Pu
def bnm (ds : List Pd) : List Ky := (rk (bxsP ds)).filter isSK
def wri (ds : List Pd) : List Int := intsK (rk (bxsP ds))
theorem bnm_len {ds : List Pd} : (bnm ds).length ≤ 8 := Nat.le_trans (List.length_filter_le _ _) rk_len
theorem wri_len {ds : List Pd} : (wri ds).length ≤ 8 := Nat.le_trans (List.length_filterMap_le _ _) rk_len
theorem wri_eq {ds : List Pd} (o : ∀ k ∈ bxsP ds, k ∈ all8) : wri ds = Pu.ints4.filter fun i => decide (Sum.inl i ∈ bxsP ds) := by
  have hs := sorted_ext (l := wri ds) (m := Pu.ints4.filter fun i => decide (Sum.inl i ∈ bxsP ds)) ?_ ?_ ?_
  · exact hs
  · unfold wri
    have : (intsK (rk (bxsP ds))) = (rk (bxsP ds)).filterMap fun k => match k with | .inl i => some i | _ => none := rfl
    rw [this]
    have p := (Rs.rk (bxsP ds)).2
    refine List.pairwise_filterMap.mpr (p.imp_of_mem fun {a b} ha hb h x hx y hy => ?_)
    have ha := (rk_mem.mp ha).1
    have hb := (rk_mem.mp hb).1
    rcases all8_cases ha with rfl | rfl | rfl | rfl | rfl | rfl | rfl | rfl <;> rcases all8_cases hb with rfl | rfl | rfl | rfl | rfl | rfl | rfl | rfl <;> simp [pl8] at hx hy h <;> omega
  · exact List.Pairwise.filter _ (by unfold Pu.ints4; decide)
  · intro k
    unfold wri
    rw [intsK_mem, rk_mem, List.mem_filter, decide_eq_true_eq]
    constructor
    · rintro ⟨h1, h2⟩
      refine ⟨?_, h2⟩
      rcases all8_cases h1 with h | h | h | h | h | h | h | h <;> cases h <;> decide
    · rintro ⟨h1, h2⟩
      exact ⟨o _ h2, h2⟩
def isStrD : D → Bool
  | .str _ => true
  | _ => false
def isIntD : D → Bool
  | .int _ => true
  | _ => false
theorem strs_filter {ks : List Ky} : ((ks.map kD).filter isStrD).map (fun d => d) = (ks.filter isSK).map kD := by
  rw [List.map_id', List.filter_map]
  exact congrArg _ (List.filter_congr fun k _ => by cases k <;> rfl)
theorem ints_filter {ks : List Ky} : ((ks.map kD).filter isIntD).map (fun d => d) = (intsK ks).map D.int := by
  rw [List.map_id', List.filter_map, ← intsK_filter]
  exact congrArg _ (List.filter_congr fun k _ => by cases k <;> rfl)
theorem boxn_eq {N} {ds : List Pd} {h : HH} (o : ∀ d ∈ ds, d.ok P8 N) (hl : ds.length ≤ 100) (hh : h.all (clO 0) = true) : F_box_names [patD ds] h = .ok (.lst ((bnm ds).map kD)) h := by
  rw [← wp_eq]
  have rl := rk_len (ks := bxsP ds)
  simp [F_box_names, r_box_names, b_box_names]
  rw [wp_of_eq (boxes_eq o hl hh)]
  simp
  refine wp_of (lc_filter (ψ := isStrD) (φ := fun d => d) rfl _ _ (by simp [sz]; omega) fun y hy => ?_) ?_
  · obtain ⟨k, hk, rfl⟩ := List.mem_map.mp hy
    refine ⟨_, rfl, ?_, fun _ => ?_⟩
    · rw [← wp_eq]; cases k <;> simp [kD, isStrD, isIntD]
    · rw [← wp_eq]; simp
  · rw [List.nil_append, strs_filter]
    exact ⟨rfl, rfl⟩
theorem written_eq {w : Nat} {ls rs : List Pd} {f : D} {h : HH} (o : ∀ d ∈ ls ++ rs, d.ok P8 (NP w)) (hl : (ls ++ rs).length ≤ 100) (hh : h.all (clO 0) = true) : F_written [.tup [patD ls, patD rs, f]] h = .ok (.tup ((wri (ls ++ rs)).map D.int)) h := by
  rw [← wp_eq]
  have rl := rk_len (ks := bxsP (ls ++ rs))
  have hl2 := hl
  simp at hl2
  simp [F_written, r_written, b_written]
  refine ⟨by simp [sz]; omega, ?_⟩
  rw [← List.map_append, wp_of_eq (boxes_eq o hl hh)]
  simp
  refine wp_of (lc_filter (ψ := isIntD) (φ := fun d => d) rfl _ _ (by simp [sz]; omega) fun y hy => ?_) ?_
  · obtain ⟨k, hk, rfl⟩ := List.mem_map.mp hy
    refine ⟨_, rfl, ?_, fun _ => ?_⟩
    · rw [← wp_eq]; cases k <;> simp [kD, isStrD, isIntD]
    · rw [← wp_eq]; simp
  · rw [List.nil_append, ints_filter]
    simp
    rfl
theorem fits_law (p : Int → Bool) (m nb : Nat) (h1 : 1 ≤ m) (h4 : m ≤ 4) :
    ((Pu.ints4.filter p).all (fun i => decide (i < m)) && decide (nb ≤ ((List.range m).filter fun b : Nat => !decide ((b : Int) ∈ Pu.ints4.filter p)).length)) =
    (decide ((Pu.ints4.filter p).foldl max (-1) < (m : Int)) && decide ((nb : Int) ≤ m - ((Pu.ints4.filter p).length : Nat))) := by
  rcases (by omega : m = 1 ∨ m = 2 ∨ m = 3 ∨ m = 4) with rfl | rfl | rfl | rfl <;> cases h0 : p 0 <;> cases h1 : p 1 <;> cases h2 : p 2 <;> cases h3 : p 3 <;> simp [Pu.ints4, List.filter, h0, h1, h2, h3, List.range, List.range.loop] <;> first | omega | (rw [Bool.eq_iff_iff]; simp only [Bool.and_eq_true, decide_eq_true_eq]; omega)
def fitsB (ls rs : List Pd) (m : Nat) : Bool := (wri (ls ++ rs)).all (fun i => decide (i < m)) && decide ((bnm ls).length ≤ ((List.range m).filter fun b : Nat => !decide ((b : Int) ∈ wri (ls ++ rs))).length)
theorem fits_eq {w : Nat} {ls rs : List Pd} {f bits : D} {m : Nat} {h : HH} (o : ∀ d ∈ ls ++ rs, d.ok P8 (NP w)) (hm : m ≤ 4) (hl : (ls ++ rs).length ≤ 100) (hh : h.all (clO 0) = true) : F_fits [.tup [bits, .int (m : Nat)], .tup [patD ls, patD rs, f]] h = .ok (.bl (fitsB ls rs m)) h := by
  rw [← wp_eq]
  have wl := wri_len (ds := ls ++ rs)
  have ol : ∀ d ∈ ls, d.ok P8 (NP w) := fun d hd => o d (List.mem_append.mpr (.inl hd))
  have ll : ls.length ≤ 100 := by rw [List.length_append] at hl; omega
  have we := fun f => written_eq (f := f) o hl hh
  simp [F_fits, r_fits, b_fits]
  rw [wp_of_eq (we f)]
  simp
  refine wp_of (lc_map (φ := fun d => match d with | .int i => .bl (decide (i < (m : Int))) | d => d) rfl ((wri (ls ++ rs)).map D.int) [] (by simp [sz]; omega) fun d hd => ?_) ?_
  · obtain ⟨i, hi, rfl⟩ := List.mem_map.mp hd
    refine ⟨_, rfl, ?_⟩
    rw [← wp_eq]; simp
  have e1 : ([] : List D) ++ ((wri (ls ++ rs)).map D.int).map (fun d => match d with | .int i => .bl (decide (i < (m : Int))) | d => d) = ((wri (ls ++ rs)).map fun i => decide (i < (m : Int))).map D.bl := by simp
  rw [e1]
  simp only [wp_aNil, wp_aCons, wp_cAll, itemsL_lst, wo_some, blsD_map]
  have e2 : ((wri (ls ++ rs)).map fun i => decide (i < (m : Int))).all id = (wri (ls ++ rs)).all fun i => decide (i < (m : Int)) := by rw [List.all_map]; rfl
  rw [e2]
  unfold fitsB
  cases hc : (wri (ls ++ rs)).all fun i => decide (i < (m : Int)) with
  | false => simp
  | true =>
    simp [F_boxes_left, r_boxes_left, b_boxes_left]
    rw [wp_of_eq (we f)]
    simp
    rw [rgD_1 (by simp; omega)]
    simp
    refine wp_of (lc_filter (ψ := fun y => match y with | .int i => !decide (i ∈ wri (ls ++ rs)) | _ => false) (φ := fun d => d) rfl _ _ (by simp [sz]; omega) fun y hy => ?_) ?_
    · obtain ⟨i, hi, rfl⟩ := List.mem_map.mp (show y ∈ (List.range m).map fun i => D.int (0 + (i : Nat)) from hy)
      refine ⟨_, rfl, ?_, fun _ => ?_⟩
      · rw [← wp_eq]
        have e3 := fun h => in_tup (h := h) (a := D.int (0 + (i : Nat))) (xs := (wri (ls ++ rs)).map D.int) pl_int (isDs_ints _) (by rw [deeps_ints]; omega)
        have e4 : ((wri (ls ++ rs)).map D.int).any (fun y => eqv y (D.int (0 + (i : Nat)))) = decide ((0 + (i : Int)) ∈ wri (ls ++ rs)) := by
          generalize (0 + (i : Int)) = z
          generalize wri (ls ++ rs) = l
          induction l with
          | nil => rfl
          | cons a l ih =>
            rw [List.map_cons, List.any_cons, ih, eqv_ii, Bool.eq_iff_iff]
            by_cases h : a = z
            · simp [h]
            · have : ¬ z = a := fun e => h e.symm
              simp [h, this]
        rw [e4] at e3
        simp only [Int.zero_add] at e3
        simp [e3]
      · rw [← wp_eq]; simp
    · have e5 : ([] : List D) ++ ((intsL 0 m).filter fun y => match y with | .int i => !decide (i ∈ wri (ls ++ rs)) | _ => false).map (fun d => d) = ((List.range m).filter fun b : Nat => !decide ((b : Int) ∈ wri (ls ++ rs))).map fun i => D.int (0 + (i : Nat)) := by
        rw [List.nil_append, List.map_id']
        unfold intsL
        rw [List.filter_map]
        refine congrArg _ (List.filter_congr fun b _ => ?_)
        simp
      rw [e5]
      simp
      rw [wp_of_eq (boxn_eq ol ll hh)]
      simp
end K21

namespace K21
open PySem PySem.Spec PyProof.Rows L2 Pu
abbrev mD (b m : Nat) : D := .tup [.int (b : Nat), .int (m : Nat)]
abbrev ruD (ls rs : List Pd) (fs : List Ky) : D := .tup [patD ls, patD rs, kT fs]
theorem names_eq {w : Nat} {ls : List Pd} {r f : D} {h : HH} (o : ∀ d ∈ ls, d.ok P8 (NP w)) (hw : w ≤ 10) (hl : ls.length ≤ 100) (hh : h.all (clO 0) = true) : F_names [.tup [patD ls, r, f]] h = .ok (kT (bnm ls ++ (rn (nmsP ls)).map Sum.inr)) h := by
  rw [← wp_eq]
  have bl := bnm_len (ds := ls)
  have rl := rn_len (ss := nmsP ls)
  simp [F_names, r_names, b_names]
  rw [wp_of_eq (boxn_eq o hl hh)]
  simp
  rw [wp_of_eq (numbers_eq o hw hl hh)]
  simp [sz]
  refine ⟨by omega, ?_⟩
  intro s _; rfl
/-- the rows a machine has that no rule's number names -/
def lft (w : List Int) (m : Nat) : List Nat := (List.range m).filter fun b : Nat => !decide ((b : Int) ∈ w)
def lftI (w : List Int) (m : Nat) : List Int := (lft w m).map fun i : Nat => (i : Int)
theorem in_ints {h : HH} {l : List Int} {z : Int} (hl : l.length ≤ 100) : in? h (.int z) (.tup (l.map D.int)) = some (decide (z ∈ l)) := by
  rw [in_tup pl_int (isDs_ints _) (by rw [deeps_ints]; omega)]
  congr 1
  clear hl
  induction l with
  | nil => rfl
  | cons a l ih =>
    rw [List.map_cons, List.any_cons, ih, eqv_ii, Bool.eq_iff_iff]
    by_cases h : a = z
    · simp [h]
    · have : ¬ z = a := fun e => h e.symm
      simp [h, this]
theorem left_eq {w : Nat} {ls rs : List Pd} {f bits : D} {m : Nat} {h : HH} (o : ∀ d ∈ ls ++ rs, d.ok P8 (NP w)) (hm : m ≤ 4) (hl : (ls ++ rs).length ≤ 100) (hh : h.all (clO 0) = true) : F_boxes_left [.tup [bits, .int (m : Nat)], .tup [patD ls, patD rs, f]] h = .ok (.lst ((lftI (wri (ls ++ rs)) m).map D.int)) h := by
  rw [← wp_eq]
  have wl := wri_len (ds := ls ++ rs)
  have we := fun f => written_eq (f := f) o hl hh
  simp [F_boxes_left, r_boxes_left, b_boxes_left]
  rw [wp_of_eq (we f)]
  simp
  rw [rgD_1 (by simp; omega)]
  simp
  refine wp_of (lc_filter (ψ := fun y => match y with | .int i => !decide (i ∈ wri (ls ++ rs)) | _ => false) (φ := fun d => d) rfl _ _ (by simp [sz]; omega) fun y hy => ?_) ?_
  · obtain ⟨i, hi, rfl⟩ := List.mem_map.mp (show y ∈ (List.range m).map fun i => D.int (0 + (i : Nat)) from hy)
    refine ⟨_, rfl, ?_, fun _ => ?_⟩
    · rw [← wp_eq]
      simp [in_ints (l := wri (ls ++ rs)) (by omega)]
    · rw [← wp_eq]; simp
  · have e5 : ([] : List D) ++ ((intsL 0 m).filter fun y => match y with | .int i => !decide (i ∈ wri (ls ++ rs)) | _ => false).map (fun d => d) = (lftI (wri (ls ++ rs)) m).map D.int := by
      rw [List.nil_append, List.map_id']
      unfold intsL lftI lft
      rw [List.filter_map, List.map_map]
      have : (fun i : Nat => D.int (0 + (i : Nat))) = D.int ∘ fun i : Nat => (i : Int) := by funext i; simp
      rw [this]
      refine congrArg _ (List.filter_congr fun b _ => ?_)
      simp
    rw [e5]
    exact ⟨rfl, rfl⟩
theorem need_yes {w : Nat} {ls rs : List Pd} {fs : List Ky} (o : ∀ d ∈ ls ++ rs, d.ok P8 (NP w)) (hl : (ls ++ rs).length ≤ 100) {b m : Nat} (hm : m ≤ 4) {h : HH} (hh : h.all (clO 0) = true) (hf : fitsB ls rs m = true) : F_need_fit [mD b m, ruD ls rs fs] h = .ok .non h := by
  rw [← wp_eq]
  simp [F_need_fit, r_need_fit, b_need_fit]
  rw [wp_of_eq (fits_eq o hm hl hh), hf]
  simp
theorem need_no {w : Nat} {ls rs : List Pd} {fs : List Ky} (o : ∀ d ∈ ls ++ rs, d.ok P8 (NP w)) (hl : (ls ++ rs).length ≤ 100) {b m : Nat} (hm : m ≤ 4) {h : HH} (hh : h.all (clO 0) = true) (hf : fitsB ls rs m = false) {Q : D → HH → Prop} {E : String → HH → Prop} (hE : E "NoFit" h) : Wp Q E (F_need_fit [mD b m, ruD ls rs fs] h) := by
  simp [F_need_fit, r_need_fit, b_need_fit]
  rw [wp_of_eq (fits_eq o hm hl hh), hf]
  simp
  exact hE
theorem frms_out {P N} {k : Ky} : ∀ {ds : List Pd} {F : Ky → List Int}, (∀ d ∈ ds, pln P N d) → k ∉ bxsP ds → frms F ds k = F k
  | [], _, _, _ => rfl
  | d :: ds, F, o, hk => by
    have od := o d (by simp)
    have e : bxsP (d :: ds) = lefts (ptsP d) ++ bxsP ds := by
      unfold bxsP allP
      rw [List.flatMap_cons, lefts_app]
    rw [e, List.mem_append, not_or] at hk
    have ne : k ≠ fst d := fun z => hk.1 (z ▸ fst_mem od)
    show frms (frm F d) ds k = F k
    rw [frms_out (fun x hx => o x (by simp [hx])) hk.2, frm_up od]
    unfold up
    rw [if_neg ne]
theorem eqv_nil {xs : List D} : eqv (.lst xs) (.lst []) = xs.isEmpty := by
  rw [eqv_lst]
  cases xs <;> rfl
def difA (top : Int) (F G : List Int) : List Nat := (List.range 13).filter fun i => decide ((F.getD i 0 - G.getD i 0) % top ≠ 0)
def unl (top : Int) (ls rs : List Pd) (fs : List Ky) : Option Nat := (prt (ls ++ rs)).findSome? fun k => if k ∈ fs then none else (difA top (fms ls k) (fms rs k)).head?
def unD : Option Nat → D
  | none => .non
  | some i => .int (i : Nat)
theorem tb_none {k : Ky} {f : Ky → D} : ∀ {ks : List Ky}, k ∉ ks → dGet (tb ks f) k = none
  | [], _ => rfl
  | a :: ks, h => by
    have ne : ¬ a = k := fun z => h (z ▸ by simp)
    have := tb_none (f := f) (ks := ks) fun z => h (List.mem_cons_of_mem _ z)
    simpa [tb, dGet, List.find?_cons, ne] using this
theorem get_fm {w : Nat} {ds : List Pd} (o : ∀ d ∈ ds, pln P8 (NP w) d) {k : Ky} (hk : k ∈ all8) : (dGet (tb (prt ds) fun k => FD (fms ds k)) k).getD (FD (ownF k)) = FD (fms ds k) := by
  by_cases h : k ∈ bxsP ds
  · rw [tb_get (rk_mem.mpr ⟨hk, h⟩)]; rfl
  · rw [tb_none fun z => h (rk_mem.mp z).2, show fms ds k = ownF k from frms_out o h]; rfl
theorem dict_rows {ds : List Pd} {h : HH} : dictX h [.lst ((prt ds).map (rowD (fms ds)))] = some (tb (prt ds) fun k => FD (fms ds k)) := by
  rw [dictX_l]
  have := pairsD_tb (f := fun k => FD (fms ds k)) (ks := prt ds)
  unfold rowD
  rw [this, Option.map_some, tb_mer rk_nodup]
theorem unlike_eq {ls rs : List Pd} {fs : List Ky} {w : Nat} (hw : w ≤ 10) (ol : ∀ d ∈ ls, pln P8 (NP w) d) (or : ∀ d ∈ rs, pln P8 (NP w) d) (hl : (ls ++ rs).length ≤ 100) (hfl : fs.length ≤ 100) {b m : Nat} (hb : b ≤ 60) {h : HH} (hh : h.all (clO 0) = true) :
    F_first_unlike [mD b m, ruD ls rs fs] h = .ok (unD (unl (2 ^ b) ls rs fs)) h := by
  have hl2 := hl
  rw [List.length_append] at hl2
  have ob : ∀ d ∈ ls ++ rs, d.ok P8 (NP w) := fun d hd => by
    rcases List.mem_append.mp hd with z | z
    · exact pln_ok (ol d z)
    · exact pln_ok (or d z)
  rw [← wp_eq]
  simp [F_first_unlike, r_first_unlike, b_first_unlike]
  rw [wp_of_eq (forms_eq hw ol (by omega) hh)]
  simp [-dictX_l, dict_rows]
  rw [wp_of_eq (forms_eq hw or (by omega) hh)]
  simp [-dictX_l, dict_rows]
  refine ⟨by simp [sz]; omega, ?_⟩
  rw [← List.map_append, wp_of_eq (boxes_eq ob hl hh)]
  simp
  refine wb_forI (fun i env h' => h' = h ∧ (∃ z4 z5 z6 z7 : Option D, env = [some (mD b m), some (ruD ls rs fs), some (.dic (tb (prt ls) fun k => FD (fms ls k))), some (.dic (tb (prt rs) fun k => FD (fms rs k))), z4, z5, z6, z7, none]) ∧
    unl (2 ^ b) ls rs fs = ((prt (ls ++ rs)).drop i).findSome? fun k => if k ∈ fs then none else (difA (2 ^ b) (fms ls k) (fms rs k)).head?) ⟨rfl, ⟨none, none, none, none, rfl⟩, rfl⟩ (fun _ _ _ _ => by simp) ?_ ?_
  · rintro i d env h' hd ⟨rfl, ⟨z4, z5, z6, z7, rfl⟩, hu⟩
    rw [List.getElem?_map] at hd
    obtain ⟨k, e2, rfl⟩ := Option.map_eq_some_iff.mp hd
    have hk := rk_sub k (List.mem_of_getElem? e2)
    have l1 : (fms ls k).length = 13 := frms_len (fun _ _ => ownF_len) ol k hk
    have l2 : (fms rs k).length = 13 := frms_len (fun _ _ => ownF_len) or k hk
    obtain ⟨hi, e3⟩ := List.getElem?_eq_some_iff.mp e2
    rw [List.drop_eq_getElem_cons hi, e3, List.findSome?_cons] at hu
    have g5 := get_fm ol hk
    have g6 := get_fm or hk
    obtain ⟨F, hF⟩ : ∃ F, F = fms ls k := ⟨_, rfl⟩
    obtain ⟨G, hG⟩ : ∃ G, G = fms rs k := ⟨_, rfl⟩
    rw [← hF] at l1 g5 hu
    rw [← hG] at l2 g6 hu
    have ch : ∀ h : HH, chkOk h [] = true := fun _ => rfl
    simp
    rw [wp_of_eq (own_eq hk)]
    simp [kyD_kD]
    rw [wp_of_eq (own_eq hk)]
    simp only [kyD_kD, wo_some, g5, g6]
    simp [g5, g6]
    have pp : (0 : Int) < 2 ^ b := Int.pow_pos (by omega)
    refine wp_of (lc_filter (ψ := fun y => match y with | .int i => decide ((F.getD i.toNat 0 - G.getD i.toNat 0) % 2 ^ b ≠ 0) | _ => false) (φ := fun d => d) rfl _ _ (by simp [sz]) fun y hy => ?_) ?_
    · obtain ⟨j, hj, rfl⟩ := List.mem_map.mp (show y ∈ (List.range 13).map fun i => D.int (0 + (i : Nat)) from hy)
      have hj := List.mem_range.mp hj
      refine ⟨_, rfl, ?_, fun _ => ?_⟩
      · rw [← wp_eq]
        have g1 := get_ints (st := F) (a := j) (by omega)
        have g2 := get_ints (st := G) (a := j) (by omega)
        simp [g5, g6, g1, g2]
        refine ⟨by omega, pp, ?_⟩
        unfold at0
        rw [List.getD_eq_getElem?_getD, List.getD_eq_getElem?_getD, Bool.eq_iff_iff]
        simp
      · rw [← wp_eq]; simp
    · have e5 : ([] : List D) ++ ((intsL 0 13).filter fun y => match y with | .int i => decide ((F.getD i.toNat 0 - G.getD i.toNat 0) % 2 ^ b ≠ 0) | _ => false).map (fun d => d) = ((difA (2 ^ b) F G).map fun i : Nat => (i : Int)).map D.int := by
        rw [List.nil_append, List.map_id', List.map_map]
        unfold intsL difA
        rw [List.filter_map]
        have : (fun i : Nat => D.int (0 + (i : Nat))) = D.int ∘ fun i : Nat => (i : Int) := by funext i; simp
        rw [this]
        refine congrArg _ (List.filter_congr fun b _ => ?_)
        simp
      rw [e5]
      simp [g5, g6, in_kysT]
      by_cases hf : k ∈ fs
      · rw [if_pos hf] at hu
        simp [hf]
        exact hu
      · rw [if_neg hf] at hu
        have en := fun h => same_pl (h := h) (a := .lst (((difA (2 ^ b) F G).map fun i : Nat => (i : Int)).map D.int)) (b := .lst []) pl_intsL ⟨by decide, by decide⟩
        simp only [eqv_nil, List.map_map] at en
        simp [hf]
        rw [en]
        cases hd : difA (2 ^ b) F G with
        | nil =>
          rw [hd] at hu
          simp
          exact hu
        | cons a r =>
          rw [hd] at hu
          simp
          rw [hu]
          rfl
  · rintro env h' ⟨rfl, ⟨z4, z5, z6, z7, rfl⟩, hu⟩
    rw [List.length_map, List.drop_length] at hu
    rw [hu]
    simp [unD]
end K21

namespace K21
open PySem PySem.Spec PyProof.Rows L2 Pu
theorem get2a {A : HH} {a b : O} {n : Nat} (h : n = A.length) : (A ++ [a, b])[n]? = some a := by subst h; simp
theorem get2b {A : HH} {a b : O} {n : Nat} (h : n = A.length) : (A ++ [a, b])[n + 1]? = some b := by
  subst h
  rw [List.getElem?_append_right (by omega)]
  simp
theorem set2a {c : O} : ∀ {A : HH} {a b : O} {n : Nat}, n = A.length → (A ++ [a, b]).set n c = A ++ [c, b]
  | [], a, b, _, rfl => rfl
  | x :: A, a, b, _, rfl => by
    have := set2a (A := A) (a := a) (b := b) (c := c) rfl
    rw [List.cons_append, List.length_cons, List.set_cons_succ, this]; rfl
theorem set2b {c : O} : ∀ {A : HH} {a b : O} {n : Nat}, n = A.length → (A ++ [a, b]).set (n + 1) c = A ++ [a, c]
  | [], a, b, _, rfl => rfl
  | x :: A, a, b, _, rfl => by
    have := set2b (A := A) (a := a) (b := b) (c := c) rfl
    rw [List.cons_append, List.length_cons, List.set_cons_succ, this]; rfl
theorem lc_mapT {α : Type} {fD φ : α → D} {c : List (Nat × List D)} {g : Tg} {f : Ex} {env : En} {h : HH} (hc : chkOk h c = true) : ∀ (xs : List α) (acc : List D), acc.length + xs.length ≤ sz →
    (∀ x ∈ xs, ∃ env1, g (fD x) env = some env1 ∧ f env1 h = .ok (φ x) h) → lcGo c g tYesD f env (xs.map fD) acc h = .ok (acc ++ xs.map φ) h
  | [], acc, _, _ => by unfold lcGo; simp [hc]
  | x :: xs, acc, hl, hs => by
    rw [List.map_cons]
    unfold lcGo
    rw [if_pos hc]
    obtain ⟨env1, e1, e2⟩ := hs x (by simp)
    rw [e1]
    simp only [ofO, tYesD, bindX, if_true, e2]
    rw [List.length_cons] at hl
    rw [if_pos (by omega), lc_mapT hc xs (acc ++ [φ x]) (by rw [List.length_append, List.length_singleton]; omega) fun d hd => hs d (by simp [hd])]
    simp
/-- the place of a key -/
def ix (ns : List Ky) (k : Ky) : Nat := ns.findIdx fun x => decide (x = k)
theorem ix_lt {ns : List Ky} {k : Ky} (h : k ∈ ns) : ix ns k < ns.length := List.findIdx_lt_length_of_exists ⟨k, h, by simp⟩
theorem ix_get {ns : List Ky} {k : Ky} (h : ix ns k < ns.length) : ns[ix ns k] = k := of_decide_eq_true (List.findIdx_getElem (w := h))
theorem ix_out {ns : List Ky} {k : Ky} (h : k ∉ ns) : ix ns k = ns.length := by
  refine Nat.le_antisymm List.findIdx_le_length (Nat.le_of_not_lt fun z => h ?_)
  have := ix_get z
  rw [← this]
  exact List.getElem_mem z
theorem ix_at {ns : List Ky} (nd : ns.Nodup) {i : Nat} (hi : i < ns.length) : ix ns ns[i] = i := by
  have h := ix_lt (List.getElem_mem hi)
  exact (List.getElem_inj nd).mp (ix_get h)
/-- what the names stand for, so far -/
def gvI (ns : List Ky) (lf : List Int) (i : Nat) : Ky → D := fun k => if ix ns k < i then .int (lf.getD (ix ns k) 0) else kD k
theorem gvI_0 {ns : List Ky} {lf : List Int} : gvI ns lf 0 = kD := by funext k; simp [gvI]
theorem gvI_up {ns : List Ky} {lf : List Int} (nd : ns.Nodup) {i : Nat} (hi : i < ns.length) : up (gvI ns lf i) ns[i] (.int (lf.getD i 0)) = gvI ns lf (i + 1) := by
  funext k
  have e0 : ix ns ns[i] = i := ix_at nd hi
  unfold up gvI
  by_cases hk : k = ns[i]
  · rw [if_pos hk, hk, e0, if_pos (by omega)]
  · rw [if_neg hk]
    have : ix ns k ≠ i := fun z => hk (by
      have hl : ix ns k < ns.length := by omega
      have := ix_get hl
      rw [← this]; congr 1)
    by_cases h1 : ix ns k < i
    · rw [if_pos h1, if_pos (by omega)]
    · rw [if_neg h1, if_neg (by omega)]
/-- the box a part stands for -/
def bxI (ns : List Ky) (lf : List Int) : Ky → Int
  | .inl i => i
  | .inr s => lf.getD (ix ns (.inr s)) 0
theorem gvI_end {ns : List Ky} {lf : List Int} {k : Ky} (h1 : isSK k = true → k ∈ ns) (h2 : ∀ k ∈ ns, isSK k = true) : gvI ns lf ns.length k = .int (bxI ns lf k) := by
  unfold gvI
  cases k with
  | inl i =>
    have : (Sum.inl i : Ky) ∉ ns := fun z => by have := h2 _ z; cases this
    rw [ix_out this, if_neg (by omega)]; rfl
  | inr s => rw [if_pos (ix_lt (h1 rfl))]; rfl
def stF (at_ : Nat) (bx : Ky → Int) (m : Nat) (P : List Ky) : List Int := P.foldl (fun st k => if 5 + pl8 k = at_ then st.set (bx k).toNat 1 else st) (List.replicate m 0)
theorem stF_len {at_ : Nat} {bx : Ky → Int} {m : Nat} {P : List Ky} : (stF at_ bx m P).length = m := by
  have : ∀ (P : List Ky) (st : List Int), (P.foldl (fun st k => if 5 + pl8 k = at_ then st.set (bx k).toNat 1 else st) st).length = st.length := fun P => by
    induction P with
    | nil => intro st; rfl
    | cons k P ih =>
      intro st
      rw [List.foldl_cons, ih]
      split <;> simp
  unfold stF
  rw [this]; simp
/-- what all names stand for -/
def gA (ns : List Ky) (lf : List Int) (at_ : Nat) : Ky → Int
  | .inl i => i
  | .inr s => if s = "k" then (if (1 : Int) = (at_ : Nat) then 1 else 0) else if s = "l" then (if (2 : Int) = (at_ : Nat) then 1 else 0) else if s = "m" then (if (3 : Int) = (at_ : Nat) then 1 else 0) else if s = "n" then (if (4 : Int) = (at_ : Nat) then 1 else 0) else lf.getD (ix ns (.inr s)) 0
def nmK (ls : List Pd) : List Ky := bnm ls ++ (rn (nmsP ls)).map Sum.inr
def resD (m : Nat) (ls rs : List Pd) : Option Nat → D
  | none => .non
  | some at_ => .tup [filD (nmK ls) (gA (bnm ls) (lftI (wri (ls ++ rs)) m) at_), FD (stF at_ (bxI (bnm ls) (lftI (wri (ls ++ rs)) m)) m (prt (ls ++ rs)))]
theorem lft_in {w : List Int} {m : Nat} {i : Int} (h : i ∈ lftI w m) : 0 ≤ i ∧ i < m := by
  unfold lftI lft at h
  obtain ⟨j, hj, rfl⟩ := List.mem_map.mp h
  have := List.mem_range.mp (List.mem_filter.mp hj).1
  omega
theorem getD_in {l : List Int} {i : Nat} (h : i < l.length) : l.getD i 0 ∈ l := by
  rw [List.getD_eq_getElem?_getD, List.getElem?_eq_getElem h]
  exact List.getElem_mem h
theorem bx_in {ls rs : List Pd} {m : Nat} (hf : fitsB ls rs m = true) (hs : ∀ k ∈ prt (ls ++ rs), isSK k = true → k ∈ bnm ls) {k : Ky} (hk : k ∈ prt (ls ++ rs)) : 0 ≤ bxI (bnm ls) (lftI (wri (ls ++ rs)) m) k ∧ bxI (bnm ls) (lftI (wri (ls ++ rs)) m) k < m := by
  unfold fitsB at hf
  rw [Bool.and_eq_true, decide_eq_true_eq] at hf
  cases k with
  | inl i =>
    have h8 := rk_sub _ hk
    have hw : i ∈ wri (ls ++ rs) := intsK_mem.mpr hk
    have := of_decide_eq_true (List.all_eq_true.mp hf.1 i hw)
    refine ⟨?_, this⟩
    show 0 ≤ i
    rcases all8_cases h8 with h | h | h | h | h | h | h | h <;> cases h <;> decide
  | inr s =>
    have hn := hs _ hk rfl
    have hl := ix_lt hn
    refine lft_in (getD_in ?_)
    unfold lftI lft
    rw [List.length_map]
    omega
theorem parted_no {w : Nat} {ls rs : List Pd} {fs : List Ky} (o : ∀ d ∈ ls ++ rs, d.ok P8 (NP w)) (hl : (ls ++ rs).length ≤ 100) {b m : Nat} (hm : m ≤ 4) {h : HH} (hh : h.all (clO 0) = true) (hf : fitsB ls rs m = false) {Q : D → HH → Prop} {E : String → HH → Prop} (hE : E "NoFit" h) :
    Wp Q E (F_parted_by_sums [mD b m, ruD ls rs fs] h) := by
  refine wp_fE hh ?_
  simp [r_parted_by_sums, b_parted_by_sums]
  exact need_no o hl hm hh hf ⟨rfl, hE⟩
theorem parted_np {w : Nat} {ls rs : List Pd} {fs : List Ky} (o : ∀ d ∈ ls ++ rs, d.ok P8 (NP w)) (hl : (ls ++ rs).length ≤ 100) {b m : Nat} (hm : m ≤ 4) {h : HH} (hh : h.all (clO 0) = true) (hf : fitsB ls rs m = true) (hp : (ls ++ rs).any crooked = true) {Q : D → HH → Prop} {E : String → HH → Prop} (hE : E "NotPlain" h) :
    Wp Q E (F_parted_by_sums [mD b m, ruD ls rs fs] h) := by
  refine wp_fE hh ?_
  simp [r_parted_by_sums, b_parted_by_sums]
  rw [wp_of_eq (need_yes o hl hm hh hf)]
  simp
  rw [wp_of_eq (plain_eq (ds := ls) fun d hd => o d (List.mem_append.mpr (.inl hd)))]
  rw [List.any_append] at hp
  cases h1 : ls.any crooked with
  | true => simp; exact hE
  | false =>
    rw [h1, Bool.false_or] at hp
    simp
    rw [wp_of_eq (plain_eq (ds := rs) fun d hd => o d (List.mem_append.mpr (.inr hd))), hp]
    simp
    exact hE
theorem plain_any {P N} {ds : List Pd} (o : ∀ d ∈ ds, pln P N d) : ds.any crooked = false := List.any_eq_false.mpr fun d hd => by
  have od := o d hd
  cases d with
  | cond a d => exact od.elim
  | w1 w a => rcases od.1 with rfl | rfl <;> simp [crooked, wordsP]
  | wn w a n => rcases od.1 with rfl | rfl <;> simp [crooked, wordsP]
  | wb w a n => rcases od.1 with rfl | rfl | rfl <;> simp [crooked, wordsP]
theorem prt_bnm {ls rs : List Pd} (o : ∀ d ∈ ls, d.ok P8 N) : ∀ k ∈ bnm ls, k ∈ prt (ls ++ rs) := fun k hk => by
  have h1 := (List.mem_filter.mp hk).1
  have h2 := rk_mem.mp h1
  refine rk_mem.mpr ⟨h2.1, ?_⟩
  have := lefts_mem.mp h2.2
  refine lefts_mem.mpr ?_
  unfold allP at this ⊢
  rw [List.flatMap_append]
  exact List.mem_append.mpr (.inl this)
theorem bnm_nd {ls : List Pd} : (bnm ls).Nodup := rk_nodup.sublist (List.filter_sublist ..)
theorem parted_eq {w : Nat} (hw : w ≤ 10) {ls rs : List Pd} {fs : List Ky} (ol : ∀ d ∈ ls, pln P8 (NP w) d) (or : ∀ d ∈ rs, pln P8 (NP w) d) (hl : (ls ++ rs).length ≤ 100) (hfl : fs.length ≤ 100) {b m : Nat} (hb : b ≤ 60) (hm : m ≤ 4) {h : HH} (hh : h.all (clO 0) = true) (hf : fitsB ls rs m = true)
    (hs : ∀ k ∈ prt (ls ++ rs), isSK k = true → k ∈ bnm ls) : F_parted_by_sums [mD b m, ruD ls rs fs] h = .ok (resD m ls rs (unl (2 ^ b) ls rs fs)) h := by
  have hl2 := hl
  rw [List.length_append] at hl2
  have okl : ∀ d ∈ ls, d.ok P8 (NP w) := fun d hd => pln_ok (ol d hd)
  have ob : ∀ d ∈ ls ++ rs, d.ok P8 (NP w) := fun d hd => by
    rcases List.mem_append.mp hd with z | z
    · exact pln_ok (ol d z)
    · exact pln_ok (or d z)
  have bi := fun k => bx_in (k := k) hf hs
  have nd := bnm_nd (ls := ls)
  have bl := bnm_len (ds := ls)
  have nl := rn_len (ss := nmsP ls)
  have pl : (prt (ls ++ rs)).length ≤ 8 := rk_len
  have hfl2 : (bnm ls).length ≤ (lftI (wri (ls ++ rs)) m).length := by
    unfold fitsB at hf
    rw [Bool.and_eq_true, decide_eq_true_eq] at hf
    unfold lftI lft
    rw [List.length_map]
    exact hf.2
  rw [← wp_eq]
  refine wp_fP ?_
  simp [r_parted_by_sums, b_parted_by_sums]
  rw [wp_of_eq (need_yes ob hl hm hh hf)]
  simp
  rw [wp_of_eq (plain_eq okl), plain_any ol]
  simp
  rw [wp_of_eq (plain_eq (ds := rs) fun d hd => pln_ok (or d hd)), plain_any or]
  simp
  rw [wp_of_eq (unlike_eq hw ol or hl hfl hb hh)]
  cases hu : unl (2 ^ b) ls rs fs with
  | none =>
    simp [unD]
    exact ⟨h, [], by simp, rfl, hh, rfl, rfl, rfl⟩
  | some at_ =>
    simp [unD]
    rw [wp_of_eq (left_eq ob hm hl hh)]
    simp
    refine ⟨by simp [sz]; omega, ?_⟩
    rw [← List.map_append, wp_of_eq (boxes_eq ob hl (all_app hh rfl))]
    simp
    have lfm : ∀ i ∈ lftI (wri (ls ++ rs)) m, 0 ≤ i ∧ i < m := fun i hi => lft_in hi
    revert lfm hfl2 bi
    unfold resD
    generalize lftI (wri (ls ++ rs)) m = lf
    intro bi hfl2 lfm
    refine wb_forI (fun i env h' => ∃ z5 : Option D, env = [some (mD b m), some (ruD ls rs fs), some (.int (at_ : Nat)), some (.lst (lf.map D.int)), some (.ref h.length), z5, none, none, none, none] ∧ h' = h ++ [.dic (tb ((prt (ls ++ rs)).take i) kD)]) ⟨none, rfl, rfl⟩ (fun _ _ _ _ => by simp) ?_ ?_
    · rintro i d env h' hd ⟨z5, rfl, rfl⟩
      rw [List.getElem?_map] at hd
      obtain ⟨k, e2, rfl⟩ := Option.map_eq_some_iff.mp hd
      have et : (prt (ls ++ rs)).take (i + 1) = (prt (ls ++ rs)).take i ++ [k] := by rw [List.take_add_one, e2]; rfl
      have nk : k ∉ (prt (ls ++ rs)).take i := fun z => by
        have nd := (rk_nodup (ks := bxsP (ls ++ rs))).sublist (List.take_sublist (i + 1) _)
        rw [show List.take (i + 1) (rk (bxsP (ls ++ rs))) = _ from et] at nd
        exact (List.nodup_append.mp nd).2.2 k z k (by simp) rfl
      rw [et]
      simp [kyD_kD, tb_new nk, sz]
      rw [if_pos (by omega)]
      exact ⟨_, rfl, by rw [up_self (f := kD)]⟩
    · rintro env h' ⟨z5, rfl, rfl⟩
      rw [List.length_map, List.take_length]
      simp
      rw [wp_of_eq (boxn_eq okl (by omega) (all_app hh (by simpa [clO] using cl_tb fun k _ => cl_kD k)))]
      simp
      rw [zipD_map]
      refine wb_forI (fun i env h' => ∃ z6 z7 : Option D, env = [some (mD b m), some (ruD ls rs fs), some (.int (at_ : Nat)), some (.lst (lf.map D.int)), some (.ref h.length), z5, z6, z7, none, none] ∧ h' = h ++ [.dic (tb (prt (ls ++ rs)) (gvI (bnm ls) lf i))]) ⟨none, none, rfl, by rw [gvI_0]⟩ (fun _ _ _ _ => by simp) ?_ ?_
      · rintro i d env h' hd ⟨z6, z7, rfl, rfl⟩
        rw [List.getElem?_map] at hd
        obtain ⟨⟨k, v⟩, e2, rfl⟩ := Option.map_eq_some_iff.mp hd
        rw [List.getElem?_zip_eq_some] at e2
        obtain ⟨e3, e4⟩ := e2
        obtain ⟨hi, e3⟩ := List.getElem?_eq_some_iff.mp e3
        have e5 : lf.getD i 0 = v := by rw [List.getD_eq_getElem?_getD, e4]; rfl
        have hm := prt_bnm (rs := rs) okl _ (List.getElem_mem hi)
        have up2 := gvI_up (lf := lf) nd hi
        rw [e3] at hm up2
        rw [e5] at up2
        have tp := tb_put (d := D.int v) (f := gvI (bnm ls) lf i) hm
        simp [kyD_kD, sz, tp, up2]
        rw [if_pos (by omega)]
        exact ⟨_, _, rfl, rfl⟩
      · rintro env h' ⟨z6, z7, rfl, rfl⟩
        have hz : (((bnm ls).zip lf).map fun p => D.tux [kD p.1, .int p.2]).length = (bnm ls).length := by simp; omega
        rw [hz]
        have eg : tb (prt (ls ++ rs)) (gvI (bnm ls) lf (bnm ls).length) = tb (prt (ls ++ rs)) fun k => .int (bxI (bnm ls) lf k) := by
          unfold tb
          refine List.map_congr_left fun k hk => ?_
          rw [gvI_end (hs k hk) fun k hk => (List.mem_filter.mp hk).2]
        rw [eg]
        simp
        rw [rgD_1 (by simp; omega)]
        simp
        refine wp_of (lc_map (φ := fun _ => D.int 0) rfl (intsL 0 m) [] (by simp [intsL, sz]; omega) fun d hd => ⟨_, rfl, ?_⟩) ?_
        · rw [← wp_eq]; simp
        have e0 : ([] : List D) ++ (intsL 0 m).map (fun _ => D.int 0) = (stF at_ (bxI (bnm ls) lf) m []).map D.int := by
          unfold intsL stF
          rw [List.nil_append, List.map_map, List.foldl_nil, List.map_replicate]
          have : ((fun _ : D => D.int 0) ∘ fun i : Nat => D.int (0 + (i : Nat))) = fun _ => D.int 0 := rfl
          rw [this, List.map_const', List.length_range]
        rw [e0]
        simp
        rw [wb_sForD rfl (get2a rfl), set2a rfl]
        have ek : ((tb (prt (ls ++ rs)) fun k => D.int (bxI (bnm ls) lf k)).map fun p => kD p.1) = (prt (ls ++ rs)).map kD := by unfold tb; rw [List.map_map]; rfl
        rw [ek]
        refine wb_forI (fun i env h' => (∃ z5 : Option D, env = [some (mD b m), some (ruD ls rs fs), some (.int (at_ : Nat)), some (.lst (lf.map D.int)), some (.ref h.length), z5, z6, z7, some (.ref (h.length + 1)), none]) ∧ h' = h ++ [.lkd (tb (prt (ls ++ rs)) fun k => .int (bxI (bnm ls) lf k)), .lst ((stF at_ (bxI (bnm ls) lf) m ((prt (ls ++ rs)).take i)).map D.int)]) ⟨⟨z5, rfl⟩, rfl⟩ (fun _ _ _ _ => by simp) ?_ ?_
        · rintro i d env h' hd ⟨⟨z5, rfl⟩, rfl⟩
          rw [List.getElem?_map] at hd
          obtain ⟨k, e2, rfl⟩ := Option.map_eq_some_iff.mp hd
          have hk := List.mem_of_getElem? e2
          have et : (prt (ls ++ rs)).take (i + 1) = (prt (ls ++ rs)).take i ++ [k] := by rw [List.take_add_one, e2]; rfl
          obtain ⟨b0, b1⟩ := bi k hk
          obtain ⟨n, hn⟩ := Int.eq_ofNat_of_zero_le b0
          have hnm : n < m := by omega
          have es : stF at_ (bxI (bnm ls) lf) m ((prt (ls ++ rs)).take i ++ [k]) = if 5 + pl8 k = at_ then (stF at_ (bxI (bnm ls) lf) m ((prt (ls ++ rs)).take i)).set n 1 else stF at_ (bxI (bnm ls) lf) m ((prt (ls ++ rs)).take i) := by
            unfold stF
            rw [List.foldl_append, List.foldl_cons, List.foldl_nil, hn]; rfl
          have sl := stF_len (at_ := at_) (bx := bxI (bnm ls) lf) (m := m) (P := (prt (ls ++ rs)).take i)
          rw [et, es]
          have tg := tb_get (f := fun k => D.int (bxI (bnm ls) lf k)) hk
          simp
          rw [wp_of_eq (place_eq (rk_sub k hk))]
          simp
          refine wi_of (fun h4 => ?_) (fun h4 => ?_)
          · have h4 : 5 + pl8 k = at_ := by simp at h4; omega
            rw [if_pos h4]
            simp [get2a, get2b, set2b, kyD_kD, tg, hn, sl, hnm, sz]
          · have h4 : ¬ 5 + pl8 k = at_ := by simp at h4; omega
            rw [if_neg h4]
            simp
        · rintro env h' ⟨⟨z5, rfl⟩, rfl⟩
          rw [List.length_map, List.take_length]
          generalize stF at_ (bxI (bnm ls) lf) m (prt (ls ++ rs)) = st
          simp [Kun]
          rw [set2a rfl]
          have ez : zpR (D.tup [D.str "k", D.str "l", D.str "m", D.str "n"]) [D.int 1, D.int 5] = some ⟨[.tux [.str "k", .int 1], .tux [.str "l", .int 2], .tux [.str "m", .int 3], .tux [.str "n", .int 4]], []⟩ := by
            simp [zpR, intsL, List.range, List.range.loop]
          rw [ez]
          simp only [wo_some]
          have np : ∀ s : String, s ∈ nms4 → (Sum.inr s : Ky) ∉ prt (ls ++ rs) := fun s hs z => by
            have := rk_sub _ z
            simp [nms4] at hs
            rcases hs with rfl | rfl | rfl | rfl <;> simp [all8] at this
          have n1 := np "k" (by decide)
          have n2 := np "l" (by decide)
          have n3 := np "m" (by decide)
          have n4 := np "n" (by decide)
          have t1 := fun d => tb_new (d := d) (f := fun k => D.int (bxI (bnm ls) lf k)) n1
          have t2 := fun f d => tb_new (d := d) (f := f) (k := Sum.inr "l") (ks := prt (ls ++ rs) ++ [Sum.inr "k"]) (by simp; exact n2)
          have t3 := fun f d => tb_new (d := d) (f := f) (k := Sum.inr "m") (ks := prt (ls ++ rs) ++ [Sum.inr "k"] ++ [Sum.inr "l"]) (by simp; exact n3)
          have t4 := fun f d => tb_new (d := d) (f := f) (k := Sum.inr "n") (ks := prt (ls ++ rs) ++ [Sum.inr "k"] ++ [Sum.inr "l"] ++ [Sum.inr "m"]) (by simp; exact n4)
          rw [wb_for1]
          refine ⟨rfl, ?_⟩
          simp [get2a, set2a, kyD_kD, sz, t1]
          rw [if_pos (by omega)]
          simp only [wo_some]
          rw [wb_for1]
          refine ⟨rfl, ?_⟩
          simp [get2a, set2a, kyD_kD, sz, t2, -List.append_assoc]
          rw [if_pos (by omega)]
          simp only [wo_some]
          rw [wb_for1]
          refine ⟨rfl, ?_⟩
          simp [get2a, set2a, kyD_kD, sz, t3, -List.append_assoc]
          rw [if_pos (by omega)]
          simp only [wo_some]
          rw [wb_for1]
          refine ⟨rfl, ?_⟩
          simp [get2a, set2a, kyD_kD, sz, t4, -List.append_assoc]
          rw [if_pos (by omega)]
          simp only [wo_some]
          rw [wb_for0]
          refine ⟨rfl, ?_⟩
          simp
          generalize hG : up (up (up (up (fun k => D.int (bxI (bnm ls) lf k)) (Sum.inr "k") (D.int (if (1 : Int) = (at_ : Nat) then 1 else 0))) (Sum.inr "l") (D.int (if (2 : Int) = (at_ : Nat) then 1 else 0))) (Sum.inr "m") (D.int (if (3 : Int) = (at_ : Nat) then 1 else 0))) (Sum.inr "n") (D.int (if (4 : Int) = (at_ : Nat) then 1 else 0)) = G
          have iG : ∀ k, G k = .int (gA (bnm ls) lf at_ k) := fun k => by
            rw [← hG]
            unfold up
            cases k with
            | inl i => simp [gA, bxI]
            | inr s =>
              simp only [gA, bxI, Sum.inr.injEq]
              by_cases h1 : s = "k"
              · subst h1; simp
              · by_cases h2 : s = "l"
                · subst h2; simp
                · by_cases h3 : s = "m"
                  · subst h3; simp
                  · by_cases h4 : s = "n"
                    · subst h4; simp
                    · simp [h1, h2, h3, h4]
          have mG : ∀ k ∈ nmK ls, k ∈ prt (ls ++ rs) ++ [Sum.inr "k", Sum.inr "l", Sum.inr "m", Sum.inr "n"] := fun k hk => by
            rcases List.mem_append.mp hk with z | z
            · exact List.mem_append_left _ (prt_bnm okl k z)
            · obtain ⟨s, hs, rfl⟩ := List.mem_map.mp z
              have s4 := (rn_mem.mp hs).1
              simp [nms4] at s4
              refine List.mem_append_right _ ?_
              rcases s4 with rfl | rfl | rfl | rfl <;> simp
          have hp : (h ++ [O.dic (tb (prt (ls ++ rs) ++ [Sum.inr "k", Sum.inr "l", Sum.inr "m", Sum.inr "n"]) G), O.lst (st.map D.int)]).all (clO 0) = true := by
            rw [List.all_append, hh]
            simp only [List.all_cons, List.all_nil, Bool.true_and, Bool.and_true, Bool.and_eq_true]
            refine ⟨cl_tb fun k _ => by rw [iG]; unfold cl; rfl, cls_of fun d hd => ?_⟩
            obtain ⟨i, _, rfl⟩ := List.mem_map.mp hd
            unfold cl; rfl
          rw [wp_of_eq (names_eq okl hw (by omega) hp)]
          have kl : (nmK ls).length ≤ 12 := by unfold nmK; simp; omega
          rw [show bnm ls ++ (rn (nmsP ls)).map Sum.inr = nmK ls from rfl]
          simp
          refine wp_of (lc_mapT (fD := kD) (φ := fun k => D.tup [kD k, .int (gA (bnm ls) lf at_ k)]) rfl (nmK ls) [] (by simp [sz]; omega) fun k hk => ⟨_, rfl, ?_⟩) ?_
          · rw [← wp_eq]
            simp [get2a, kyD_kD, tb_get (mG k hk), iG]
          simp [get2b]
          refine FzP.mk rfl hh ?_ ⟨rfl, rfl⟩
          have ci : ∀ (n : Nat) (i : Int), cl n (.int i) = true := fun n i => by unfold cl; rfl
          have c2 : ∀ x ∈ (nmK ls).map fun k => D.tup [kD k, D.int (gA (bnm ls) lf at_ k)], cl 0 x = true := fun x hx => by
            obtain ⟨k, _, rfl⟩ := List.mem_map.mp hx
            unfold cl cls cls cls
            rw [cl_kD, ci]; rfl
          have c3 : ∀ x ∈ st.map D.int, cl 0 x = true := fun x hx => by
            obtain ⟨i, _, rfl⟩ := List.mem_map.mp hx
            exact ci 0 i
          have c4 : ∀ xs : List D, (∀ x ∈ xs, cl 0 x = true) → cl 0 (.tup xs) = true := fun xs h => by unfold cl; exact cls_of h
          exact c4 _ fun x hx => by
            simp only [List.mem_cons, List.not_mem_nil, or_false] at hx
            rcases hx with rfl | rfl
            · exact c4 _ c2
            · exact c4 _ c3
end K21

namespace K21
open PySem PySem.Spec PyProof.Rows L2 Pu
theorem draws : Draws F__law_draw := Draws.of draw_wp
theorem deed_wp {bs : List Ky} {ns : List Pt} (b0 : bs ≠ []) (b1 : bs.length ≤ 1000) (n0 : ns ≠ []) (n1 : ns.length ≤ 1000) {b : Int} {t h : HH} {Q : D → HH → Prop} (hp : Pen b t h) (hb : b < 100000000000)
    (hq : ∀ (d : Pd) h', pln (· ∈ bs) (· ∈ ns) d → Pen (b + 3) t h' → Q d.toD h') : Wp Q noE (F__law_plain_deed [.ref 0, .lst (bs.map kD), .lst (ns.map Pt.toD)] h) := by
  have bl : 0 < bs.length := List.length_pos_iff.mpr b0
  have nl : 0 < ns.length := List.length_pos_iff.mpr n0
  simp [F__law_plain_deed, r__law_plain_deed, b__law_plain_deed]
  refine draws hp (by omega) (by omega) (by omega) fun w h1 w0 w1 p1 => ?_
  have two : ∀ (s : String), s = "copy" ∨ s = "sum" ∨ s = "less" → ∀ (a k : Ky) (h2 : HH), a ∈ bs → k ∈ bs → Pen (b + 1 + 1 + 1) t h2 → Q (.tup [.str s, kD a, kD k]) h2 := fun s hs a k h2 ha hk p2 =>
    hq (.wb s a k) h2 ⟨hs, ha, hk⟩ (p2.le (by omega))
  have num : ∀ (s : String), s = "put" ∨ s = "more" → ∀ (a : Ky) (k : Pt) (h2 : HH), a ∈ bs → k ∈ ns → Pen (b + 1 + 1 + 1) t h2 → Q (.tup [.str s, kD a, k.toD]) h2 := fun s hs a k h2 ha hk p2 =>
    hq (.wn s a k) h2 ⟨hs, ha, hk⟩ (p2.le (by omega))
  have one : ∀ (s : String), s = "turn" ∨ s = "left" → ∀ (a : Ky) (h2 : HH), a ∈ bs → Pen (b + 1 + 1) t h2 → Q (.tup [.str s, kD a]) h2 := fun s hs a h2 ha p2 =>
    hq (.w1 s a) h2 ⟨hs, ha⟩ (p2.le (by omega))
  rcases (by omega : w = 0 ∨ w = 1 ∨ w = 2 ∨ w = 3 ∨ w = 4 ∨ w = 5 ∨ w = 6) with rfl | rfl | rfl | rfl | rfl | rfl | rfl <;> simp <;>
    refine draws p1 (by omega) (by omega) (by omega) fun a h2 a0 a1 p2 => ?_ <;> (refine wp_at a0 (by simpa using a1) fun d hd => ?_) <;> obtain ⟨a, ha, rfl⟩ := List.mem_map.mp hd <;> simp <;>
    first
      | exact (one _ (by simp) a h2 ha p2)
      | (refine draws p2 (by omega) (by omega) (by omega) fun c h3 c0 c1 p3 => ?_
         refine wp_at c0 (by simpa using c1) fun d hd => ?_
         obtain ⟨k, hk, rfl⟩ := List.mem_map.mp hd
         simp
         first
           | exact two _ (by simp) a k h3 ha hk p3
           | exact num _ (by simp) a k h3 ha hk p3)

theorem crooked_wp {bs : List Ky} (b0 : bs ≠ []) (b1 : bs.length ≤ 1000) {b : Int} {t h : HH} {Q : D → HH → Prop} (hp : Pen b t h) (hb : b < 100000000000)
    (hq : ∀ (d : Pd) h', d.ok (· ∈ bs) (NP 1) → crooked d = true → Pen (b + 3) t h' → Q d.toD h') : Wp Q noE (F__law_crooked [.ref 0, .lst (bs.map kD)] h) := by
  have bl : 0 < bs.length := List.length_pos_iff.mpr b0
  simp [F__law_crooked, r__law_crooked, b__law_crooked]
  refine draws hp (by omega) (by omega) (by omega) fun x h0 x0 x1 p0 => ?_
  simp
  refine draws p0 (by omega) (by omega) (by omega) fun a h1 a0 a1 p1 => ?_
  refine wp_at a0 (by simpa using a1) fun d hd => ?_
  obtain ⟨a, ha, rfl⟩ := List.mem_map.mp hd
  simp
  refine draws p1 (by omega) (by omega) (by omega) fun c h2 c0 c1 p2 => ?_
  refine wp_at c0 (by simpa using c1) fun d hd => ?_
  obtain ⟨k, hk, rfl⟩ := List.mem_map.mp hd
  simp [sz]
  have p3 : Pen (b + 3) t h2 := p2.le (by omega)
  refine wo_at x0 (by simp; omega) fun d hd => ?_
  simp at hd
  rcases hd with rfl | rfl | rfl | rfl | rfl | rfl
  · exact hq (.w1 "right" a) h2 ⟨by simp, ha⟩ (by simp [crooked, wordsP]) p3
  · exact hq (.wb "part" a k) h2 ⟨by simp, ha, hk⟩ (by simp [crooked, wordsP]) p3
  · exact hq (.cond k (.w1 "turn" a)) h2 ⟨hk, by simp, ha⟩ (by simp [crooked, wordsP]) p3
  · exact hq (.cond a (.wb "copy" k a)) h2 ⟨ha, by simp, hk, ha⟩ (by simp [crooked, wordsP]) p3
  · exact hq (.cond k (.w1 "right" a)) h2 ⟨hk, by simp, ha⟩ (by simp [crooked, wordsP]) p3
  · exact hq (.cond k (.wb "part" a a)) h2 ⟨hk, by simp, ha, ha⟩ (by simp [crooked, wordsP]) p3
theorem deep_lone {P w} {d : Pd} (o : d.lone P (NP w)) : deep d.toD ≤ w + 1 := by
  have dk : ∀ k : Ky, deep (kD k) = 0 := fun k => by cases k <;> simp [kD, deep]
  cases d with
  | cond a d => exact o.elim
  | w1 w a => simp [Pd.toD, deep, dk]
  | wb w a b => simp [Pd.toD, deep, dk]
  | wn w a n =>
    have on : NP _ n := o.2.2
    have := n.deep_toD
    have := on.2
    simp [Pd.toD, deep, dk]
    omega
theorem deep_ok {P w} {d : Pd} (o : d.ok P (NP w)) : deep d.toD ≤ w + 2 := by
  have dk : ∀ k : Ky, deep (kD k) = 0 := fun k => by cases k <;> simp [kD, deep]
  cases d with
  | cond a d =>
    have := deep_lone o.2
    simp [Pd.toD, deep, dk]
    omega
  | w1 w2 a => have := deep_lone (P := P) (w := w) (d := .w1 w2 a) o; omega
  | wb w2 a b => have := deep_lone (P := P) (w := w) (d := .wb w2 a b) o; omega
  | wn w2 a n => have := deep_lone (P := P) (w := w) (d := .wn w2 a n) o; omega
theorem pl_side {P} {ds : List Pd} (o : ∀ d ∈ ds, d.ok P (NP 1)) : plD (patD ds) := by
  have h1 := isDs_of (xs := ds.map Pd.toD) fun x hx => by obtain ⟨d, _, rfl⟩ := List.mem_map.mp hx; exact d.isD_toD
  have h2 := deeps_le (n := 3) (xs := ds.map Pd.toD) fun x hx => by obtain ⟨d, hd, rfl⟩ := List.mem_map.mp hx; exact deep_ok (o d hd)
  exact ⟨by simpa using h1, by simp; omega⟩
theorem eqv_nilT {xs : List D} : eqv (.tup xs) (.tup []) = xs.isEmpty := by
  rw [eqv_tup]
  cases xs <;> rfl
theorem spoilt_wp {P} {ds : List Pd} (o : ∀ d ∈ ds, d.ok P (NP 1)) (hl : ds.length ≤ 4) {bs : List Ky} (b0 : bs ≠ []) (b1 : bs.length ≤ 1000) {b : Int} {t h : HH} {Q : D → HH → Prop} (hp : Pen b t h) (hb : b < 10000000000)
    (hq : ∀ (es : List Pd) h', 1 ≤ es.length → es.length ≤ 4 → (∀ e ∈ es, e ∈ ds ∨ e.ok (· ∈ bs) (NP 1) ∧ crooked e = true) → Pen (b + 4) t h' → Q (patD es) h') : Wp Q noE (F__law_spoilt [.ref 0, patD ds, .lst (bs.map kD)] h) := by
  have en := fun h => same_pl (h := h) (pl_side o) (b := .tup []) ⟨by decide, by decide⟩
  simp only [eqv_nilT] at en
  simp [F__law_spoilt, r__law_spoilt, b__law_spoilt, en]
  refine wi_of (fun hn => ?_) (fun hn => ?_)
  · simp
    refine crooked_wp b0 b1 hp (by omega) fun d h1 od cd p1 => ?_
    exact hq [d] h1 (by simp) (by simp) (fun e he => by rw [List.mem_singleton.mp he]; exact .inr ⟨od, cd⟩) (p1.le (by omega))
  · have hne : 0 < ds.length := by
      cases ds with
      | nil => simp at hn
      | cons a r => simp
    simp
    refine draws hp (by omega) (by omega) (by omega) fun v h1 v0 v1 p1 => ?_
    obtain ⟨v, rfl⟩ := Int.eq_ofNat_of_zero_le v0
    simp
    refine crooked_wp b0 b1 p1 (by omega) fun d h2 od cd p2 => ?_
    simp
    have hv : v < ds.length := by omega
    refine ⟨by simp [sz]; omega, by simp [sz]; omega, ?_⟩
    have := hq (ds.take v ++ d :: ds.drop (v + 1)) h2 (by simp; omega) (by simp; omega) (fun e he => by
      rcases List.mem_append.mp he with z | z
      · exact .inl (List.mem_of_mem_take z)
      · rcases List.mem_cons.mp z with z | z
        · rw [z]; exact .inr ⟨od, cd⟩
        · exact .inl (List.mem_of_mem_drop z)) (p2.le (by omega))
    simp only [patD, List.map_append, List.map_cons, List.map_take, List.map_drop] at this
    exact this
/-- a deed that is plain, or just not -/
def cpl (P : Ky → Prop) (d : Pd) : Prop := d.ok P (NP 1) ∧ (crooked d = true ∨ pln P (NP 1) d)
theorem cpl_mono {P P' : Ky → Prop} (hp : ∀ k, P k → P' k) {d : Pd} (h : cpl P d) : cpl P' d :=
  ⟨Pd.ok_mono hp (fun _ h => h) h.1, h.2.imp id fun h => pln_mono hp (fun _ h => h) h⟩
/-- so many plain deeds -/
theorem deeds_wp {bs : List Ky} {ns : List Pt} (b0 : bs ≠ []) (b1 : bs.length ≤ 1000) (n0 : ns ≠ []) (n1 : ns.length ≤ 1000) (hN : ∀ n ∈ ns, NP 1 n) {env : En} {f : Ex} {m : Nat} (hm : m ≤ 5) {b : Int} {t h : HH} {q : List D → HH → Prop} (hp : Pen b t h) (hb : b < 1000000000)
    (hf : ∀ (k : Nat) (h' : HH), ∃ env1, gN 8 (.int (k : Nat)) env = some env1 ∧ ∀ Q, Wp Q noE (F__law_plain_deed [.ref 0, .lst (bs.map kD), .lst (ns.map Pt.toD)] h') → Wp Q noE (f env1 h'))
    (hq : ∀ (ds : List Pd) h', ds.length = m → (∀ d ∈ ds, cpl (· ∈ bs) d) → Pen (b + 15) t h' → q (ds.map Pd.toD) h') : Wp q noE (lcGo [] (gN 8) tYesD f env (intsL 0 m) [] h) := by
  refine wp_lcF (fun i acc h' => ∃ ds : List Pd, acc = ds.map Pd.toD ∧ ds.length = i ∧ (∀ d ∈ ds, cpl (· ∈ bs) d) ∧ Pen (b + 3 * i) t h') ⟨[], rfl, rfl, by simp, by simpa using hp⟩ (by simp [intsL, sz]; omega) (fun _ _ _ _ => rfl) ?_ ?_ ?_
  · rintro i acc h' ⟨ds, rfl, hl, _, _⟩
    simp; omega
  · rintro i d acc h' hd ⟨ds, rfl, hl, ho, p⟩
    have hi := (intsL_get hd).2
    rw [(intsL_get hd).1]
    simp only [Int.zero_add]
    obtain ⟨env1, e1, e2⟩ := hf i h'
    have e3 := e2 (fun y h2 => ∃ ds' : List Pd, ds.map Pd.toD ++ [y] = ds'.map Pd.toD ∧ ds'.length = i + 1 ∧ (∀ d ∈ ds', cpl (· ∈ bs) d) ∧ Pen (b + 3 * (i + 1 : Nat)) t h2) (deed_wp b0 b1 n0 n1 p (by omega) fun d h2 od p2 => by
      refine ⟨ds ++ [d], by simp, by simp [hl], fun x hx => ?_, p2.le (by omega)⟩
      rcases List.mem_append.mp hx with z | z
      · exact ho x z
      · rw [List.mem_singleton.mp z]
        exact ⟨pln_ok (pln_mono (fun _ h => h) hN od), .inr (pln_mono (fun _ h => h) hN od)⟩)
    rw [e1]
    exact e3
  · rintro acc h' ⟨ds, rfl, hl, ho, p⟩
    have e : (intsL 0 m).length = m := by simp [intsL]
    exact hq ds h' (by omega) ho (p.le (by omega))
/-- both ways to one place -/
theorem wi_join {s1 s2 : S} {c : Bool} {K : Ks} (J : En → HH → Prop) (h1 : c = true → Wb ⟨J, fun _ _ => False, fun _ _ => False, fun _ _ => False, noE⟩ s1) (h2 : c = false → Wb ⟨J, fun _ _ => False, fun _ _ => False, fun _ _ => False, noE⟩ s2)
    (k : ∀ env h, J env h → K.nx env h) (e : K.ex = noE := by rfl) : Wi (Wb K s1) (Wb K s2) c := by
  cases c with
  | true => exact wb_mono (h1 rfl) k (fun _ _ z => z.elim) (fun _ _ z => z.elim) (fun _ _ z => z.elim) (fun _ _ z => by rw [e]; exact z)
  | false => exact wb_mono (h2 rfl) k (fun _ _ z => z.elim) (fun _ _ z => z.elim) (fun _ _ z => z.elim) (fun _ _ z => by rw [e]; exact z)
theorem rule_wp {b : Int} {t h : HH} {Q : D → HH → Prop} (hp : Pen b t h) (hb : b < 100000000)
    (hq : ∀ (ls rs : List Pd) (fs : List Ky) h', 1 ≤ ls.length → ls.length ≤ 4 → rs.length ≤ 4 → (∀ d ∈ ls, cpl P8 d) → (∀ d ∈ rs, cpl (· ∈ prt ls) d) → fs.length ≤ 8 → Pen (b + 50) t h' → Q (.tup [patD ls, patD rs, kT fs]) h') : Wp Q noE (F__law_rule [.ref 0] h) := by
  simp [F__law_rule, r__law_rule, b__law_rule]
  refine draws hp (by omega) (by omega) (by omega) fun w h1 w0 w1 p1 => ?_
  simp
  refine draws p1 (by omega) (by omega) (by omega) fun s h2 s0 s1 p2 => ?_
  simp
  refine draws p2 (by omega) (by omega) (by omega) fun n h3 n0 n1 p3 => ?_
  obtain ⟨n, rfl⟩ := Int.eq_ofNat_of_zero_le n0
  simp
  rw [show (1 : Int) + (n : Int) = ((1 + n : Nat) : Int) by omega, rgD_1 (by simp; omega)]
  simp
  refine wp_lcI (fun acc h2 => ∃ ks : List Ky, acc = ks.map kD ∧ (∀ k ∈ ks, k ∈ all8) ∧ Pen (b + 3) t h2) (1 + (n : Int)).toNat ⟨[], rfl, by simp, p3.le (by omega)⟩ (by simp) (by simp [sz]; omega) (fun _ _ _ => by simp) ?_ ?_
  · rintro d acc h2 hd hl ⟨ks, rfl, ho, p⟩
    obtain ⟨i, hi, rfl⟩ := List.mem_map.mp (show d ∈ (List.range (1 + (n : Int)).toNat).map fun i => D.int (0 + (i : Nat)) from hd)
    have hi2 := List.mem_range.mp hi
    simp
    refine wo_at (Int.emod_nonneg _ (by omega)) (by have := Int.emod_lt_of_pos (s + (i : Int)) (show (0 : Int) < 8 by omega); simp; omega) fun d hd => ?_
    have : d ∈ [Sum.inr "A", Sum.inr "B", Sum.inl 0, Sum.inr "C", Sum.inl 1, Sum.inr "D", Sum.inl 2, Sum.inl 3].map kD := hd
    obtain ⟨k, hk, rfl⟩ := List.mem_map.mp this
    refine ⟨ks ++ [k], by simp, fun x hx => ?_, p⟩
    rcases List.mem_append.mp hx with z | z
    · exact ho x z
    · rw [List.mem_singleton.mp z]
      simp at hk
      rcases hk with rfl | rfl | rfl | rfl | rfl | rfl | rfl | rfl <;> decide
  rintro acc h4 hl ⟨bs, rfl, ob, p4⟩
  have bl : bs.length = 1 + n := by simp at hl; omega
  have b0 : bs ≠ [] := fun z => by rw [z] at bl; simp at bl; omega
  simp
  refine draws p4 (by omega) (by omega) (by omega) fun m h5 m0 m1 p5 => ?_
  obtain ⟨m, rfl⟩ := Int.eq_ofNat_of_zero_le m0
  simp
  rw [show (1 : Int) + (m : Int) = ((1 + m : Nat) : Int) by omega, rgD_1 (by simp; omega)]
  simp
  have nsE : D.lst [.str "k", .int 1, .str "l", .int 7] = .lst ([Pt.nm "k", .num 1, .nm "l", .num 7].map Pt.toD) := by simp [Pt.toD]
  refine deeds_wp (bs := bs) (ns := [.nm "k", .num 1, .nm "l", .num 7]) b0 (by omega) (by simp) (by simp) (by simp [NP, Pt.ok, Pt.ht]) (by omega) p5 (by omega) (fun k h' => ⟨_, rfl, fun Q w => by rw [← nsE] at w; simpa using w⟩) fun l0 h6 e6 o6 p6 => ?_
  simp
  have l6 : l0.length ≤ 4 := by omega
  refine wi_join (fun env h' => ∃ ls : List Pd, env = [some (.ref 0), some (.int w), some (.int s), some (.lst (bs.map kD)), some (patD ls), none, none, none, none] ∧ 1 ≤ ls.length ∧ ls.length ≤ 4 ∧ (∀ d ∈ ls, cpl P8 d) ∧ Pen (b + 25) t h') (fun _ => ?_) (fun _ => ?_) fun env h' z => ?_
  · simp
    refine spoilt_wp (fun d hd => (o6 d hd).1) l6 b0 (by omega) p6 (by omega) fun es h7 e1 e2 e3 p7 => ?_
    exact ⟨es, rfl, e1, e2, fun d hd => (e3 d hd).elim (fun z => cpl_mono ob (o6 d z)) fun z => cpl_mono ob ⟨z.1, .inl z.2⟩, p7.le (by omega)⟩
  · simp
    exact ⟨l0, rfl, by omega, by omega, fun d hd => cpl_mono ob (o6 d hd), p6.le (by omega)⟩
  obtain ⟨ls, rfl, l1, l4, ol, p7⟩ := z
  have okl : ∀ d ∈ ls, d.ok P8 (NP 1) := fun d hd => (ol d hd).1
  have rl : (prt ls).length ≤ 8 := rk_len
  have rnl := rn_len (ss := nmsP ls)
  simp
  rw [wp_of_eq (bxin_eq okl (by omega))]
  simp
  rw [wp_of_eq (nmin_eq okl (by omega) (by omega))]
  simp
  have e2 : (rn (nmsP ls)).map D.str ++ [.int 0, .tup [.str "minus", .int 8, .int 2]] = ((rn (nmsP ls)).map Pt.nm ++ [Pt.num 0, Pt.bin "minus" (.num 8) (.num 2)]).map Pt.toD := by
    simp [Pt.toD]
  have hN : ∀ x ∈ (rn (nmsP ls)).map Pt.nm ++ [Pt.num 0, Pt.bin "minus" (.num 8) (.num 2)], NP 1 x := fun x hx => by
    rcases List.mem_append.mp hx with z | z
    · obtain ⟨s, hs, rfl⟩ := List.mem_map.mp z
      exact ⟨(rn_mem.mp hs).1, by simp [Pt.ht]⟩
    · simp at z
      rcases z with rfl | rfl <;> simp [NP, Pt.ok, Pt.ht]
  refine ⟨by simp [sz]; omega, ?_⟩
  have kne : prt ls ≠ [] := by
    intro z
    cases ls with
    | nil => exfalso; simp at l1
    | cons d r =>
      have hx : ∃ k, k ∈ bxsP (d :: r) := by
        cases d <;> exact ⟨_, by unfold bxsP allP; rw [List.flatMap_cons]; exact List.mem_cons_self⟩
      obtain ⟨k, hk⟩ := hx
      have : k ∈ rk (bxsP (d :: r)) := rk_mem.mpr ⟨bxsP_ok okl k hk, hk⟩
      rw [show rk (bxsP (d :: r)) = [] from z] at this
      cases this
  rw [e2]
  have nsl : ((rn (nmsP ls)).map Pt.nm ++ [Pt.num 0, Pt.bin "minus" (.num 8) (.num 2)]).length ≤ 1000 := by simp; omega
  have nse : (rn (nmsP ls)).map Pt.nm ++ [Pt.num 0, Pt.bin "minus" (.num 8) (.num 2)] ≠ [] := by simp
  revert hN nsl nse
  generalize (rn (nmsP ls)).map Pt.nm ++ [Pt.num 0, Pt.bin "minus" (.num 8) (.num 2)] = ns2
  intro hN nsl nse
  refine draws p7 (by omega) (by omega) (by omega) fun m2 h8 m20 m21 p8 => ?_
  obtain ⟨m2, rfl⟩ := Int.eq_ofNat_of_zero_le m20
  simp
  rw [rgD_1 (by simp; omega)]
  simp
  refine deeds_wp (bs := prt ls) (ns := ns2) kne (by omega) nse nsl hN (by omega) p8 (by omega) (fun k h' => ⟨_, rfl, fun Q w => by simpa using w⟩) fun r0 h9 e9 o9 p9 => ?_
  have l9 : r0.length ≤ 4 := by omega
  simp
  refine wi_join (fun env h' => ∃ (rs : List Pd) (z6 : Option D), env = [some (.ref 0), some (.int w), some (.int s), some (.lst (bs.map kD)), some (patD ls), some (.lst ((prt ls).map kD)), z6, some (patD rs), none] ∧ rs.length ≤ 4 ∧ (∀ d ∈ rs, cpl (· ∈ prt ls) d) ∧ Pen (b + 45) t h') (fun _ => ?_) (fun _ => ?_) fun env h' z => ?_
  · simp
    refine spoilt_wp (fun d hd => (o9 d hd).1) l9 kne (by omega) p9 (by omega) fun es h7 e1 e2 e3 p7 => ?_
    exact ⟨es, _, rfl, e2, fun d hd => (e3 d hd).elim (fun z => o9 d z) fun z => ⟨z.1, .inl z.2⟩, p7.le (by omega)⟩
  · exact ⟨r0, _, rfl, by omega, o9, p9.le (by omega)⟩
  obtain ⟨rs, z6, rfl, r4, or, p10⟩ := z
  simp
  refine draws p10 (by omega) (by omega) (by omega) fun v h11 v0 v1 p11 => ?_
  obtain ⟨v, rfl⟩ := Int.eq_ofNat_of_zero_le v0
  simp
  rw [← List.map_take]
  exact hq ls rs ((prt ls).take v) h11 l1 l4 r4 ol or (by rw [List.length_take]; omega) (p11.le (by omega))
end K21

namespace K21
open PySem PySem.Spec PyProof.Rows L2 Pu
theorem machine_wp {b : Int} {t h : HH} {Q : D → HH → Prop} (hp : Pen b t h) (hb : b < 1000000000)
    (hq : ∀ (x m : Nat) h', x ≤ 60 → 1 ≤ x → 1 ≤ m → m ≤ 4 → Pen (b + 3) t h' → Q (mD x m) h') : Wp Q noE (F__law_machine [.ref 0] h) := by
  simp [F__law_machine, r__law_machine, b__law_machine]
  refine draws hp (by omega) (by omega) (by omega) fun w h1 w0 w1 p1 => ?_
  simp
  refine draws p1 (by omega) (by omega) (by omega) fun k h2 k0 k1 p2 => ?_
  simp
  refine wo_at w0 (by simp; omega) fun d hd => ?_
  obtain ⟨x, rfl, x1, x2⟩ : ∃ x : Nat, d = .int (x : Nat) ∧ 1 ≤ x ∧ x ≤ 60 := by
    simp at hd
    rcases hd with rfl | rfl | rfl | rfl | rfl | rfl
    · exact ⟨1, rfl, by omega, by omega⟩
    · exact ⟨2, rfl, by omega, by omega⟩
    · exact ⟨3, rfl, by omega, by omega⟩
    · exact ⟨8, rfl, by omega, by omega⟩
    · exact ⟨60, rfl, by omega, by omega⟩
    · exact ⟨(1 + k).toNat, by congr 1; omega, by omega, by omega⟩
  simp
  refine draws p2 (by omega) (by omega) (by omega) fun j h3 j0 j1 p3 => ?_
  have := hq x (1 + j).toNat h3 x2 x1 (by omega) (by omega) (p3.le (by omega))
  have e : ((1 + j).toNat : Int) = 1 + j := by omega
  simp only [mD, e] at this
  simpa using this

def fstC : D → Bool
  | .tup (.str w :: _) => decide (w ∈ ["right", "part", "if"])
  | _ => false
theorem fstC_eq {P N} {d : Pd} (o : d.ok P N) : fstC d.toD = crooked d := by
  cases d with
  | cond a d => simp [Pd.toD, fstC, crooked, wordsP]
  | w1 w a => simp [Pd.toD, fstC, crooked, wordsP]
  | wn w a n => simp [Pd.toD, fstC, crooked, wordsP]
  | wb w a b => simp [Pd.toD, fstC, crooked, wordsP]
theorem lplain_eq {P N} {ds : List Pd} {h : HH} (o : ∀ d ∈ ds, d.ok P N) (hl : ds.length ≤ 100) : F__law_is_plain [patD ds] h = .ok (.bl (!ds.any crooked)) h := by
  rw [← wp_eq]
  simp [F__law_is_plain, r__law_is_plain, b__law_is_plain]
  refine wp_of (lc_filter (ψ := fstC) (φ := fun d => d) rfl (ds.map Pd.toD) [] (by simp [sz]; omega) fun y hy => ?_) ?_
  · obtain ⟨d, hd, rfl⟩ := List.mem_map.mp hy
    refine ⟨_, rfl, ?_, fun _ => ?_⟩
    · rw [← wp_eq]
      have e := fun h k => in_strsT (h := h) (ks := ["right", "part", "if"]) (k := k)
      simp only [List.map_cons, List.map_nil] at e
      cases d <;> simp [Pd.toD, fstC, e]
    · rw [← wp_eq]; simp
  · have e1 : ([] : List D) ++ ((ds.map Pd.toD).filter fstC).map (fun d => d) = (ds.filter crooked).map Pd.toD := by
      rw [List.nil_append, List.map_id', List.filter_map]
      exact congrArg _ (List.filter_congr fun d hd => fstC_eq (o d hd))
    rw [e1]
    simp
    rw [Bool.eq_iff_iff]
    simp
theorem fitsB_eq {ls rs : List Pd} {m : Nat} (o : ∀ k ∈ bxsP (ls ++ rs), k ∈ all8) (m1 : 1 ≤ m) (m4 : m ≤ 4) : fitsB ls rs m = (decide ((wri (ls ++ rs)).foldl max (-1) < (m : Int)) && decide (((bnm ls).length : Int) ≤ m - ((wri (ls ++ rs)).length : Nat))) := by
  unfold fitsB
  rw [wri_eq o]
  exact fits_law _ m (bnm ls).length m1 m4
def verd (ls rs : List Pd) (m : Nat) : String := if fitsB ls rs m = true then (if (ls ++ rs).any crooked = true then "plain" else "told") else "fit"
theorem due_eq {ls rs : List Pd} {fs : List Ky} (o : ∀ d ∈ ls ++ rs, d.ok P8 (NP 1)) (hl : (ls ++ rs).length ≤ 100) {b m : Nat} (m1 : 1 ≤ m) (m4 : m ≤ 4) {h : HH} : F__law_due [mD b m, ruD ls rs fs] h = .ok (.str (verd ls rs m)) h := by
  have hl2 := hl
  rw [List.length_append] at hl2
  have ol : ∀ d ∈ ls, d.ok P8 (NP 1) := fun d hd => o d (List.mem_append.mpr (.inl hd))
  have rl := rk_len (ks := bxsP (ls ++ rs))
  have rl1 := rk_len (ks := bxsP ls)
  have wl := wri_len (ds := ls ++ rs)
  have fe := fitsB_eq (ls := ls) (rs := rs) (bxsP_ok o) m1 m4
  rw [← wp_eq]
  simp [F__law_due, r__law_due, b__law_due]
  refine ⟨by simp [sz]; omega, ?_⟩
  rw [← List.map_append, wp_of_eq (bxin_eq o hl)]
  simp
  refine wp_of (lc_filter (ψ := isIntD) (φ := fun d => d) rfl _ _ (by simp [sz]; omega) fun y hy => ?_) ?_
  · obtain ⟨k, hk, rfl⟩ := List.mem_map.mp hy
    refine ⟨_, rfl, ?_, fun _ => ?_⟩
    · rw [← wp_eq]; cases k <;> simp [kD, isStrD, isIntD]
    · rw [← wp_eq]; simp
  rw [List.nil_append, ints_filter]
  rw [show intsK (rk (bxsP (ls ++ rs))) = wri (ls ++ rs) from rfl]
  simp
  rw [wp_of_eq (bxin_eq ol (by omega))]
  simp
  refine wp_of (lc_filter (ψ := isStrD) (φ := fun d => d) rfl _ _ (by simp [sz]; omega) fun y hy => ?_) ?_
  · obtain ⟨k, hk, rfl⟩ := List.mem_map.mp hy
    refine ⟨_, rfl, ?_, fun _ => ?_⟩
    · rw [← wp_eq]; cases k <;> simp [kD, isStrD, isIntD]
    · rw [← wp_eq]; simp
  rw [List.nil_append, strs_filter]
  rw [show (rk (bxsP ls)).filter isSK = bnm ls from rfl]
  simp
  refine ⟨by simp [sz]; omega, ?_⟩
  rw [wp_of_eq (cMaxX_l (n := -1))]
  simp
  by_cases hA : (m : Int) ≤ (wri (ls ++ rs)).foldl max (-1)
  · have hf : fitsB ls rs m = false := by
      rw [fe, Bool.and_eq_false_iff]
      exact .inl (decide_eq_false (by omega))
    have hv : verd ls rs m = "fit" := by unfold verd; rw [hf]; rfl
    rw [hv]
    simp [hA]
  · by_cases hB : (m : Int) - ((wri (ls ++ rs)).length : Nat) < ((bnm ls).length : Nat)
    · have hf : fitsB ls rs m = false := by
        rw [fe, Bool.and_eq_false_iff]
        exact .inr (decide_eq_false (by omega))
      have hv : verd ls rs m = "fit" := by unfold verd; rw [hf]; rfl
      rw [hv]
      simp [hA, hB]
    · have hf : fitsB ls rs m = true := by
        rw [fe, Bool.and_eq_true]
        exact ⟨decide_eq_true (by omega), decide_eq_true (by omega)⟩
      have hv : verd ls rs m = if (ls ++ rs).any crooked = true then "plain" else "told" := by unfold verd; rw [if_pos hf]
      rw [hv]
      simp [hA, hB]
      refine ⟨by simp [sz]; omega, ?_⟩
      rw [← List.map_append, wp_of_eq (lplain_eq o hl)]
      rw [List.any_append]
      cases ls.any crooked <;> cases rs.any crooked <;> simp
theorem heard_eq {ls rs : List Pd} {fs : List Ky} (cl_ : ∀ d ∈ ls, cpl P8 d) (cr : ∀ d ∈ rs, cpl (· ∈ prt ls) d) (l4 : ls.length ≤ 4) (r4 : rs.length ≤ 4) (hfl : fs.length ≤ 8) {b m : Nat} (hb : b ≤ 60) (m4 : m ≤ 4) {h : HH} (hh : h.all (clO 0) = true) :
    F__law_heard [mD b m, ruD ls rs fs] h = .ok (.str (verd ls rs m)) h := by
  have ol : ∀ d ∈ ls, d.ok P8 (NP 1) := fun d hd => (cl_ d hd).1
  have cr8 : ∀ d ∈ rs, cpl P8 d := fun d hd => cpl_mono (fun k hk => rk_sub k hk) (cr d hd)
  have o : ∀ d ∈ ls ++ rs, d.ok P8 (NP 1) := fun d hd => by
    rcases List.mem_append.mp hd with z | z
    · exact ol d z
    · exact (cr8 d z).1
  have hl : (ls ++ rs).length ≤ 100 := by simp; omega
  have x1 : "NoFit" ∈ xcs := by decide
  have x2 : "NotPlain" ∈ xcs := by decide
  rw [← wp_eq]
  simp [r__law_heard, F__law_heard, b__law_heard]
  cases hf : fitsB ls rs m with
  | false =>
    have hv : verd ls rs m = "fit" := by unfold verd; rw [hf]; rfl
    refine parted_no o hl m4 hh hf ?_
    simp [x1, subX, hv]
  | true =>
    cases hp : (ls ++ rs).any crooked with
    | true =>
      have hv : verd ls rs m = "plain" := by unfold verd; rw [hf, hp]; rfl
      refine parted_np o hl m4 hh hf hp ?_
      simp [x2, subX, hv]
    | false =>
      have hv : verd ls rs m = "told" := by unfold verd; rw [hf, hp]; rfl
      have np : ∀ d ∈ ls ++ rs, crooked d = false := fun d hd => by
        have := List.any_eq_false.mp hp d hd
        simpa using this
      have pl : ∀ d ∈ ls, pln P8 (NP 1) d := fun d hd => (cl_ d hd).2.resolve_left fun z => by rw [np d (List.mem_append.mpr (.inl hd))] at z; cases z
      have pr : ∀ d ∈ rs, pln P8 (NP 1) d := fun d hd => (cr8 d hd).2.resolve_left fun z => by rw [np d (List.mem_append.mpr (.inr hd))] at z; cases z
      have hs : ∀ k ∈ prt (ls ++ rs), isSK k = true → k ∈ bnm ls := fun k hk z => by
        have h1 := (rk_mem.mp hk).2
        have h2 := lefts_mem.mp h1
        unfold allP at h2
        rw [List.flatMap_append, List.mem_append] at h2
        rcases h2 with h2 | h2
        · exact List.mem_filter.mpr ⟨rk_mem.mpr ⟨rk_sub k hk, lefts_mem.mpr h2⟩, z⟩
        · have op : k ∈ prt ls := (allP_ok (P := (· ∈ prt ls)) (N := NP 1) (fun d hd => (cr d hd).1)).2 _ h2
          exact List.mem_filter.mpr ⟨op, z⟩
      have e := fun h hh => parted_eq (h := h) (by omega) pl pr hl (by omega) hb m4 hh hf hs (fs := fs)
      rw [wp_of_eq (e h hh)]
      cases unl (2 ^ b) ls rs fs with
      | none => simp [resD, hv]
      | some i => simp [resD, hv]
end K21

namespace K21
open PySem PySem.Spec PyProof.Rows L2 Pu
theorem law_ok : ∀ ns : List Int, ns.length ≤ 63 → ∃ h', F_law [.frz (ns.map D.int)] [] = .ok (.bl true) h' := fun ns _ => by
  have w : Wp (fun d _ => d = .bl true) noE (F_law [.frz (ns.map D.int)] []) := by
    simp [F_law, r_law, b_law, F__law_pen, r__law_pen, b__law_pen]
    refine wb_forI (fun i env h2 => ∃ a b c d e f : Option D, env = [some (.frz (ns.map D.int)), some (.ref 0), a, b, c, d, e, f] ∧ Pen (i * 60) [] h2) ⟨_, _, _, _, _, _, rfl, ⟨ns, 0, 0, rfl, by simp, by simp, by simp⟩⟩ (fun _ _ _ _ => by simp) ?_ ?_
    · rintro i d env h2 hd ⟨_, _, _, _, _, _, rfl, p2⟩
      have hi := (intsL_get hd).2
      rw [(intsL_get hd).1]
      have hi : i < 8 := by simpa using hi
      simp
      refine machine_wp p2 (by omega) fun x m h3 hx x1 m1 m4 p3 => ?_
      simp
      refine rule_wp p3 (by omega) fun ls rs fs h4 l1 l4 r4 cl_ cr hfl p4 => ?_
      have hh := p4.pure rfl
      have ol : ∀ d ∈ ls, d.ok P8 (NP 1) := fun d hd => (cl_ d hd).1
      have or : ∀ d ∈ rs, d.ok P8 (NP 1) := fun d hd => (cpl_mono (fun k hk => rk_sub k hk) (cr d hd)).1
      have o : ∀ d ∈ ls ++ rs, d.ok P8 (NP 1) := fun d hd => by
        rcases List.mem_append.mp hd with z | z
        · exact ol d z
        · exact or d z
      simp
      refine wb_forI (fun j env h' => h' = h4 ∧ ∃ d e f : Option D, env = [some (.frz (ns.map D.int)), some (.ref 0), some (.int (i : Nat)), some (mD x m), some (ruD ls rs fs), d, e, f]) ⟨rfl, _, _, _, rfl⟩ (fun _ _ _ _ => by simp) ?_ ?_
      · rintro j d env h' hd ⟨rfl, z5, z6, z7, rfl⟩
        obtain ⟨x2, m2, rfl, hx2, m21, m24⟩ : ∃ x2 m2 : Nat, d = mD x2 m2 ∧ x2 ≤ 60 ∧ 1 ≤ m2 ∧ m2 ≤ 4 := by
          have := List.mem_of_getElem? hd
          simp only [List.mem_cons, List.not_mem_nil, or_false] at this
          rcases this with rfl | rfl | rfl | rfl
          · exact ⟨x, m, rfl, hx, m1, m4⟩
          · exact ⟨x, 4, rfl, hx, by omega, by omega⟩
          · exact ⟨60, 1, rfl, by omega, by omega, by omega⟩
          · exact ⟨x, m, rfl, hx, m1, m4⟩
        simp
        rw [wp_of_eq (heard_eq cl_ cr l4 r4 hfl hx2 m24 hh)]
        simp
        rw [wp_of_eq (due_eq o (by simp; omega) m21 m24)]
        simp
      · rintro env h' ⟨rfl, z5, z6, z7, rfl⟩
        simp
        refine wb_forI (fun j env h'' => h'' = h' ∧ ∃ d e f : Option D, env = [some (.frz (ns.map D.int)), some (.ref 0), some (.int (i : Nat)), some (mD x m), some (ruD ls rs fs), d, e, f]) ⟨rfl, _, _, _, rfl⟩ (fun _ _ _ _ => by simp) ?_ ?_
        · rintro j d env h'' hd ⟨rfl, z5, z6, z7, rfl⟩
          obtain ⟨ds, rfl, hds, hdl⟩ : ∃ ds : List Pd, d = patD ds ∧ (∀ d ∈ ds, d.ok P8 (NP 1)) ∧ ds.length ≤ 4 := by
            have := List.mem_of_getElem? hd
            simp at this
            rcases this with rfl | rfl
            · exact ⟨ls, rfl, ol, l4⟩
            · exact ⟨rs, rfl, or, r4⟩
          simp
          rw [wp_of_eq (plain_eq hds)]
          simp
          rw [wp_of_eq (lplain_eq hds (by omega))]
          simp
        · rintro env h'' ⟨rfl, z5, z6, z7, rfl⟩
          exact ⟨_, _, _, _, _, _, rfl, p4.le (by omega)⟩
    · rintro env h2 ⟨_, _, _, _, _, _, rfl, p2⟩
      simp
  obtain ⟨d, h', e, rfl⟩ := wp_ex.mp w
  exact ⟨h', e⟩
end K21

open PySem PySem.W PyProof.Rows in
set_option maxRecDepth 100000 in
set_option maxHeartbeats 0 in
theorem PySem.Challenge.cw_rowlets_k21_rules_that_are_not_plain_holds : PySem.Challenge.rw_rowlets_k21_rules_that_are_not_plain.Holds := by
  w_on; o_law; k_head; (case hw => w_witness2)
  k_fill
  refine Pu.walk_G (l := PySem.Challenge.rw_rowlets_k21_rules_that_are_not_plain) (n := 63) (k := 21) (x := "_law_script") (F := K21.F_law) rfl (by decide) rfl ⟨rfl, by decide, by decide⟩ (fun w h Y => PySem.W.kIn_of Y) ?F K21.law_ok
  case F =>
    intro w mg fa h KX G hmg
    refine' K21.all_mk KX G hmg ?a0 ?l0 ?c0 ?k0 ?a1 ?l1 ?c1 ?k1 ?a2 ?l2 ?c2 ?k2 ?a3 ?l3 ?c3 ?k3 ?a4 ?l4 ?c4 ?k4 ?a5 ?l5 ?c5 ?k5 ?a6 ?l6 ?c6 ?k6 ?a7 ?l7 ?c7 ?k7 ?a8 ?l8 ?c8 ?k8 ?a9 ?l9 ?c9 ?k9 ?a10 ?l10 ?c10 ?k10 ?a11 ?l11 ?c11 ?k11 ?a12 ?l12 ?c12 ?k12 ?a13 ?l13 ?c13 ?k13 ?a14 ?l14 ?c14 ?k14 ?a15 ?l15 ?c15 ?k15 ?a16 ?l16 ?c16 ?k16 ?a17 ?l17 ?c17 ?k17 ?a18 ?l18 ?c18 ?k18 ?a19 ?l19 ?c19 ?k19 ?a20 ?l20 ?c20 ?k20 ?a21 ?l21 ?c21 ?k21 ?a22 ?l22 ?c22 ?k22 ?a23 ?l23 ?c23 ?k23 ?a24 ?l24 ?c24 ?k24 ?a25 ?l25 ?c25 ?k25 ?a26 ?l26 ?c26 ?k26 ?a27 ?l27 ?c27 ?k27 ?a28 ?l28 ?c28 ?k28 ?a29 ?l29 ?c29 ?k29 ?a30 ?l30 ?c30 ?k30 ?a31 ?l31 ?c31 ?k31 ?a32 ?l32 ?c32 ?k32 ?a33 ?l33 ?c33 ?k33 ?a34 ?l34 ?c34 ?k34 ?a35 ?l35 ?c35 ?k35 ?z_abs ?z_all ?z_any ?z_bool ?z_dict ?z_int ?z_isinstance ?z_len ?z_list ?z_max ?z_range ?z_sorted ?z_str ?z_tuple ?z_zip ?y_BOXES_AND_NAMES ?y_NUMBER_NAMES ?m6 ?y_MANY ?y_FIRST_BOX ?y_KINDS ?d_KINDS ?h_KINDS ?o_KINDS ?v0_KINDS ?v1_KINDS ?v2_KINDS ?v3_KINDS ?v4_KINDS ?v5_KINDS ?v6_KINDS ?v7_KINDS ?v8_KINDS ?xN ?xT ?xn_NoFit ?xx_NoFit ?xk_NoFit ?xt_NoFit ?xg_NoFit ?xq_NoFit ?xs_NoFit ?xd_NoFit ?xa_NoFit ?xm_NoFit ?xn_NotPlain ?xx_NotPlain ?xk_NotPlain ?xt_NotPlain ?xg_NotPlain ?xq_NotPlain ?xs_NotPlain ?xd_NotPlain ?xa_NotPlain ?xm_NotPlain ?xr1 ?xr2 ?xr3 ?xr4 ?xe_NoFit ?xe_NotPlain ?yn_Loose ?yc_Loose ?yt_Loose ?yo_Loose ?yS_NoFit_Loose ?o_NoFit_Loose ?yS_NotPlain_Loose ?o_NotPlain_Loose ?yn_Needed ?yc_Needed ?yt_Needed ?yo_Needed ?yS_NoFit_Needed ?o_NoFit_Needed ?yS_NotPlain_Needed ?o_NotPlain_Needed ?yn_NoBack ?yc_NoBack ?yt_NoBack ?yo_NoBack ?yS_NoFit_NoBack ?o_NoFit_NoBack ?yS_NotPlain_NoBack ?o_NotPlain_NoBack ?yn_NoBook ?yc_NoBook ?yt_NoBook ?yo_NoBook ?yS_NoFit_NoBook ?o_NoFit_NoBook ?yS_NotPlain_NoBook ?o_NotPlain_NoBook ?yn_NoName ?yc_NoName ?yt_NoName ?yo_NoName ?yS_NoFit_NoName ?o_NoFit_NoName ?yS_NotPlain_NoName ?o_NotPlain_NoName ?yn_NoRow ?yc_NoRow ?yt_NoRow ?yo_NoRow ?yS_NoFit_NoRow ?o_NoFit_NoRow ?yS_NotPlain_NoRow ?o_NotPlain_NoRow ?yn_NoStep ?yc_NoStep ?yt_NoStep ?yo_NoStep ?yS_NoFit_NoStep ?o_NoFit_NoStep ?yS_NotPlain_NoStep ?o_NotPlain_NoStep ?yn_NoText ?yc_NoText ?yt_NoText ?yo_NoText ?yS_NoFit_NoText ?o_NoFit_NoText ?yS_NotPlain_NoText ?o_NotPlain_NoText ?yn_NotSure ?yc_NotSure ?yt_NotSure ?yo_NotSure ?yS_NoFit_NotSure ?o_NoFit_NotSure ?yS_NotPlain_NotSure ?o_NotPlain_NotSure ?yn_NoWay ?yc_NoWay ?yt_NoWay ?yo_NoWay ?yS_NoFit_NoWay ?o_NoFit_NoWay ?yS_NotPlain_NoWay ?o_NotPlain_NoWay ?yn_TooMany ?yc_TooMany ?yt_TooMany ?yo_TooMany ?yS_NoFit_TooMany ?o_NoFit_TooMany ?yS_NotPlain_TooMany ?o_NotPlain_TooMany ?zx_ValueError ?yV_NoFit ?yV_NotPlain ?yn_NoFit ?yc_NoFit ?yt_NoFit ?yo_NoFit ?yS_NoFit_NoFit ?yS_NotPlain_NoFit ?o_NotPlain_NoFit ?yn_NotPlain ?yc_NotPlain ?yt_NotPlain ?yo_NotPlain ?yS_NoFit_NotPlain ?o_NoFit_NotPlain ?yS_NotPlain_NotPlain
    (case a0 => k_is)
    (case l0 => k_is)
    (case c0 => k_is)
    (case k0 => k_is)
    (case a1 => k_is)
    (case l1 => k_is)
    (case c1 => k_is)
    (case k1 => k_is)
    (case a2 => k_is)
    (case l2 => k_is)
    (case c2 => k_is)
    (case k2 => k_is)
    (case a3 => k_is)
    (case l3 => k_is)
    (case c3 => k_is)
    (case k3 => k_is)
    (case a4 => k_is)
    (case l4 => k_is)
    (case c4 => k_is)
    (case k4 => k_is)
    (case a5 => k_is)
    (case l5 => k_is)
    (case c5 => k_is)
    (case k5 => k_is)
    (case a6 => k_is)
    (case l6 => k_is)
    (case c6 => k_is)
    (case k6 => k_is)
    (case a7 => k_is)
    (case l7 => k_is)
    (case c7 => k_is)
    (case k7 => k_is)
    (case a8 => k_is)
    (case l8 => k_is)
    (case c8 => k_is)
    (case k8 => k_is)
    (case a9 => k_is)
    (case l9 => k_is)
    (case c9 => k_is)
    (case k9 => k_is)
    (case a10 => k_is)
    (case l10 => k_is)
    (case c10 => k_is)
    (case k10 => k_is)
    (case a11 => k_is)
    (case l11 => k_is)
    (case c11 => k_is)
    (case k11 => k_is)
    (case a12 => k_is)
    (case l12 => k_is)
    (case c12 => k_is)
    (case k12 => k_is)
    (case a13 => k_is)
    (case l13 => k_is)
    (case c13 => k_is)
    (case k13 => k_is)
    (case a14 => k_is)
    (case l14 => k_is)
    (case c14 => k_is)
    (case k14 => k_is)
    (case a15 => k_is)
    (case l15 => k_is)
    (case c15 => k_is)
    (case k15 => k_is)
    (case a16 => k_is)
    (case l16 => k_is)
    (case c16 => k_is)
    (case k16 => k_is)
    (case a17 => k_is)
    (case l17 => k_is)
    (case c17 => k_is)
    (case k17 => k_is)
    (case a18 => k_is)
    (case l18 => k_is)
    (case c18 => k_is)
    (case k18 => k_is)
    (case a19 => k_is)
    (case l19 => k_is)
    (case c19 => k_is)
    (case k19 => k_is)
    (case a20 => k_is)
    (case l20 => k_is)
    (case c20 => k_is)
    (case k20 => k_is)
    (case a21 => k_is)
    (case l21 => k_is)
    (case c21 => k_is)
    (case k21 => k_is)
    (case a22 => k_is)
    (case l22 => k_is)
    (case c22 => k_is)
    (case k22 => k_is)
    (case a23 => k_is)
    (case l23 => k_is)
    (case c23 => k_is)
    (case k23 => k_is)
    (case a24 => k_is)
    (case l24 => k_is)
    (case c24 => k_is)
    (case k24 => k_is)
    (case a25 => k_is)
    (case l25 => k_is)
    (case c25 => k_is)
    (case k25 => k_is)
    (case a26 => k_is)
    (case l26 => k_is)
    (case c26 => k_is)
    (case k26 => k_is)
    (case a27 => k_is)
    (case l27 => k_is)
    (case c27 => k_is)
    (case k27 => k_is)
    (case a28 => k_is)
    (case l28 => k_is)
    (case c28 => k_is)
    (case k28 => k_is)
    (case a29 => k_is)
    (case l29 => k_is)
    (case c29 => k_is)
    (case k29 => k_is)
    (case a30 => k_is)
    (case l30 => k_is)
    (case c30 => k_is)
    (case k30 => k_is)
    (case a31 => k_is)
    (case l31 => k_is)
    (case c31 => k_is)
    (case k31 => k_is)
    (case a32 => k_is)
    (case l32 => k_is)
    (case c32 => k_is)
    (case k32 => k_is)
    (case a33 => k_is)
    (case l33 => k_is)
    (case c33 => k_is)
    (case k33 => k_is)
    (case a34 => k_is)
    (case l34 => k_is)
    (case c34 => k_is)
    (case k34 => k_is)
    (case a35 => k_is)
    (case l35 => k_is)
    (case c35 => k_is)
    (case k35 => k_is)
    (case z_abs => k_is)
    (case z_all => k_is)
    (case z_any => k_is)
    (case z_bool => k_is)
    (case z_dict => k_is)
    (case z_int => k_is)
    (case z_isinstance => k_is)
    (case z_len => k_is)
    (case z_list => k_is)
    (case z_max => k_is)
    (case z_range => k_is)
    (case z_sorted => k_is)
    (case z_str => k_is)
    (case z_tuple => k_is)
    (case z_zip => k_is)
    (case y_BOXES_AND_NAMES => k_is)
    (case y_NUMBER_NAMES => k_is)
    (case m6 => k_is)
    (case y_MANY => k_is)
    (case y_FIRST_BOX => k_is)
    (case y_KINDS => k_is)
    (case d_KINDS => k_is)
    (case h_KINDS => rfl)
    (case o_KINDS => decide)
    (case v0_KINDS => k_is)
    (case v1_KINDS => k_is)
    (case v2_KINDS => k_is)
    (case v3_KINDS => k_is)
    (case v4_KINDS => k_is)
    (case v5_KINDS => k_is)
    (case v6_KINDS => k_is)
    (case v7_KINDS => k_is)
    (case v8_KINDS => k_is)
    (case xN => k_is)
    (case xT => k_is)
    (case xn_NoFit => k_is)
    (case xx_NoFit => k_exc)
    (case xk_NoFit => k_is)
    (case xt_NoFit => k_is)
    (case xg_NoFit => k_is)
    (case xq_NoFit => k_is)
    (case xs_NoFit => k_is)
    (case xd_NoFit => k_is)
    (case xa_NoFit => k_is)
    (case xm_NoFit => k_is)
    (case xn_NotPlain => k_is)
    (case xx_NotPlain => k_exc)
    (case xk_NotPlain => k_is)
    (case xt_NotPlain => k_is)
    (case xg_NotPlain => k_is)
    (case xq_NotPlain => k_is)
    (case xs_NotPlain => k_is)
    (case xd_NotPlain => k_is)
    (case xa_NotPlain => k_is)
    (case xm_NotPlain => k_is)
    (case xr1 => k_is)
    (case xr2 => k_is)
    (case xr3 => k_is)
    (case xr4 => k_is)
    (case xe_NoFit => k_is)
    (case xe_NotPlain => k_is)
    (case yn_Loose => k_is)
    (case yc_Loose => k_is)
    (case yt_Loose => k_is)
    (case yo_Loose => k_is)
    (case yS_NoFit_Loose => k_is)
    (case o_NoFit_Loose => decide)
    (case yS_NotPlain_Loose => k_is)
    (case o_NotPlain_Loose => decide)
    (case yn_Needed => k_is)
    (case yc_Needed => k_is)
    (case yt_Needed => k_is)
    (case yo_Needed => k_is)
    (case yS_NoFit_Needed => k_is)
    (case o_NoFit_Needed => decide)
    (case yS_NotPlain_Needed => k_is)
    (case o_NotPlain_Needed => decide)
    (case yn_NoBack => k_is)
    (case yc_NoBack => k_is)
    (case yt_NoBack => k_is)
    (case yo_NoBack => k_is)
    (case yS_NoFit_NoBack => k_is)
    (case o_NoFit_NoBack => decide)
    (case yS_NotPlain_NoBack => k_is)
    (case o_NotPlain_NoBack => decide)
    (case yn_NoBook => k_is)
    (case yc_NoBook => k_is)
    (case yt_NoBook => k_is)
    (case yo_NoBook => k_is)
    (case yS_NoFit_NoBook => k_is)
    (case o_NoFit_NoBook => decide)
    (case yS_NotPlain_NoBook => k_is)
    (case o_NotPlain_NoBook => decide)
    (case yn_NoName => k_is)
    (case yc_NoName => k_is)
    (case yt_NoName => k_is)
    (case yo_NoName => k_is)
    (case yS_NoFit_NoName => k_is)
    (case o_NoFit_NoName => decide)
    (case yS_NotPlain_NoName => k_is)
    (case o_NotPlain_NoName => decide)
    (case yn_NoRow => k_is)
    (case yc_NoRow => k_is)
    (case yt_NoRow => k_is)
    (case yo_NoRow => k_is)
    (case yS_NoFit_NoRow => k_is)
    (case o_NoFit_NoRow => decide)
    (case yS_NotPlain_NoRow => k_is)
    (case o_NotPlain_NoRow => decide)
    (case yn_NoStep => k_is)
    (case yc_NoStep => k_is)
    (case yt_NoStep => k_is)
    (case yo_NoStep => k_is)
    (case yS_NoFit_NoStep => k_is)
    (case o_NoFit_NoStep => decide)
    (case yS_NotPlain_NoStep => k_is)
    (case o_NotPlain_NoStep => decide)
    (case yn_NoText => k_is)
    (case yc_NoText => k_is)
    (case yt_NoText => k_is)
    (case yo_NoText => k_is)
    (case yS_NoFit_NoText => k_is)
    (case o_NoFit_NoText => decide)
    (case yS_NotPlain_NoText => k_is)
    (case o_NotPlain_NoText => decide)
    (case yn_NotSure => k_is)
    (case yc_NotSure => k_is)
    (case yt_NotSure => k_is)
    (case yo_NotSure => k_is)
    (case yS_NoFit_NotSure => k_is)
    (case o_NoFit_NotSure => decide)
    (case yS_NotPlain_NotSure => k_is)
    (case o_NotPlain_NotSure => decide)
    (case yn_NoWay => k_is)
    (case yc_NoWay => k_is)
    (case yt_NoWay => k_is)
    (case yo_NoWay => k_is)
    (case yS_NoFit_NoWay => k_is)
    (case o_NoFit_NoWay => decide)
    (case yS_NotPlain_NoWay => k_is)
    (case o_NotPlain_NoWay => decide)
    (case yn_TooMany => k_is)
    (case yc_TooMany => k_is)
    (case yt_TooMany => k_is)
    (case yo_TooMany => k_is)
    (case yS_NoFit_TooMany => k_is)
    (case o_NoFit_TooMany => decide)
    (case yS_NotPlain_TooMany => k_is)
    (case o_NotPlain_TooMany => decide)
    (case zx_ValueError => k_is)
    (case yV_NoFit => k_is)
    (case yV_NotPlain => k_is)
    (case yn_NoFit => k_is)
    (case yc_NoFit => k_is)
    (case yt_NoFit => k_is)
    (case yo_NoFit => k_is)
    (case yS_NoFit_NoFit => k_is)
    (case yS_NotPlain_NoFit => k_is)
    (case o_NotPlain_NoFit => decide)
    (case yn_NotPlain => k_is)
    (case yc_NotPlain => k_is)
    (case yt_NotPlain => k_is)
    (case yo_NotPlain => k_is)
    (case yS_NoFit_NotPlain => k_is)
    (case o_NoFit_NotPlain => decide)
    (case yS_NotPlain_NotPlain => k_is)
