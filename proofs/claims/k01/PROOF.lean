import PyProof.Rows.All
import Wide.All
import OpenK.AllK
import Wide.FinOn
import HandS.ForMost
import HandS.ForExc
import HandS.TupMul
import HandS.Lambda
import HandS.IsInst
import HandS.ExcIs
import HandS.ExcOwn
import HandS.TupAny
import HandS.Style
import HandS.Flow
import HandS.Deep
import HandS.Wide
import HandS.WideBits
import HandS.TupLe
import HandS.Text
import PyProof.Rows.InDataRows
import HandS.Walk
import HandS.Zip
import HandS.Rev
import KE.GoesEnum
import HandS.SetFor
import HandS.Strs
import HandS.Conv
import HandS.SortInts
import KE.DatumIndex
import HandS.SetTxt0
import KE.SortKeyHeap
import HandS.SortKw
import HandS.Replace
import HandS.RaiseMore
import KE.DataMinMax
import HandS.More
import KE.KDictPairs
import KE.KIndexArg
import KE.KDictZip
import PyProof.ListNew
import KE.SortData
import HandS.EndTab
import PySem.Challenge.RW_rowlets_k01_machines_and_stands
set_option Elab.async false
set_option linter.all false
set_option maxRecDepth 100000
set_option maxHeartbeats 4000000
namespace Pu
open PySem PySem.Spec PyProof.Rows L2

/-! ### values as trees, objects that change -/
abbrev Ky := Sum Int String
inductive D where
  | non | bl (b : Bool) | int (i : Int) | str (s : String) | tup (xs : List D) | lst (xs : List D) | dic (kvs : List (Sum Int String × D)) | ref (a : Nat)
  | ty (n : String) | frz (xs : List D) | xc (c : String) | tux (xs : List D) | lam (f c : Addr) (q : Str) (ds : List D) (vs : List V)
instance : Inhabited D := ⟨.non⟩
inductive O where
  | lst (xs : List D) | dic (kvs : List (Ky × D)) | lkd (kvs : List (Ky × D))
instance : Inhabited O := ⟨.lst []⟩
abbrev HH := List O
abbrev En := List (Option D)
inductive R (α : Type) where
  | ok (a : α) (h : HH) | exc (c : String) (h : HH) | stuck
abbrev Ex := En → HH → R D
abbrev Exs := En → HH → R (List D)
abbrev Et := En → HH → R Bool

def kyV : Ky → Key
  | .inl i => .inl i
  | .inr s => .inr (Str.ofString s)
/-- which addresses hold the objects that change; which no value may lean on; the tables of code objects -/
structure Tk where
  L : List Addr
  B : Addr → Prop
  Q : List (Addr × Str)
/-- the defs that make lambdas: a table of code objects that grows belongs to each -/
def lamNames : List String := ["law"]
/-- such a def's code object in a known part of the heap: its table, and the name that its lambdas' code objects bear -/
def markQ (p : Addr × Obj) : Option (Addr × Str) := match p.2.data with
  | .fields vs => (match (vs[1]? : Option Value), (vs[11]? : Option Value) with
    | some (Value.str n _), some (Value.ref P) => if (lamNames.any fun s => n == Str.ofString s) = true then some (P, n ++ ".<locals>." ++ "<lambda>") else none
    | _, _ => none)
  | _ => none
def QK (K : PySem.W.Frag) : List (Addr × Str) := K.filterMap markQ
theorem QK_nil {K : PySem.W.Frag} (h : lamNames = []) : QK K = [] := by
  unfold QK
  refine List.filterMap_eq_nil_iff.mpr fun p _ => ?_
  have e : ∀ n : Str, (lamNames.any fun s => n == Str.ofString s) = false := fun n => by rw [h]; rfl
  unfold markQ
  simp only [e]
  split
  · split <;> simp
  · rfl
/-- an exception that was caught, of the class C, at a -/
def ExT (C : Value) (a : Addr) : HO := .ext fun h => ∃ (oe : Obj) (vs : Array Value), h.get? a = some oe ∧ Zc C none oe ∧ oe.data = .fields vs
theorem ExT.nt {C : Value} {a : Addr} {ps : Array Value} : ExT C a ≠ .tbl ps := fun z => nomatch z

/-- a tuple that is known to have no dict of its own -/
def XT (K : PySem.W.Frag) (H : Hp) (a : Addr) (xs : List V) : Prop := (∃ o : Obj, H a = some (.frz o (.tup xs)) ∧ o.dict = none) ∨
  ∃ (o : Obj) (its : Array Value) (n : Nat), K.lookup a = some o ∧ o.cls = .type "tuple" ∧ o.data = .seq its n ∧ its.size ≤ sizeLine ∧ Vals xs its.toList ∧ o.dict = none
theorem XT.sq {K : PySem.W.Frag} {H : Hp} {a : Addr} {xs : List V} (x : XT K H a xs) : SqT K H a xs := by
  rcases x with ⟨o, e, _⟩ | ⟨o, its, n, e, c, d, z, v, _⟩
  · exact .inl (.inr ⟨o, e⟩)
  · exact .inr ⟨o, its, n, e, c, d, z, v⟩
section
variable (K : PySem.W.Frag) (T : Tk) (H : Hp)
mutual
def rel : D → V → Prop
  | .non, v => v = .non
  | .bl b, v => v = .bl b
  | .int i, v => v = .int i
  | .str s, v => v = .str (Str.ofString s)
  | .tup ds, v => ∃ a vs, v = .ref a ∧ XT K H a vs ∧ rels ds vs
  | .tux ds, v => ∃ a vs, v = .ref a ∧ SqT K H a vs ∧ rels ds vs
  | .lst ds, v => ∃ a vs, v = .ref a ∧ H a = some (.lst vs) ∧ ¬ T.B a ∧ rels ds vs
  | .frz ds, v => ∃ a vs, v = .ref a ∧ ((Rd H a (.lst vs) ∧ ¬ T.B a) ∨ (∀ G, SqL K G a vs)) ∧ rels ds vs
  | .dic ds, v => ∃ a vs, v = .ref a ∧ H a = some (.dK vs) ∧ ¬ T.B a ∧ relk ds vs
  | .ref i, v => ∃ a, v = .ref a ∧ T.L[i]? = some a
  | .ty n, v => v = .ty n
  | .xc c, v => ∃ a C, v = .ref a ∧ PySem.W.nsIn K mainGlobals (Str.ofString c) = some (some C) ∧ H a = some (ExT C a)
  | .lam f c q ds vs, v => v = .ref f ∧ H c = some (LamX.CodeO c q) ∧ rels ds vs
def rels : List D → List V → Prop
  | [], vs => vs = []
  | d :: ds, vs => ∃ v r, vs = v :: r ∧ rel d v ∧ rels ds r
def relk : List (Sum Int String × D) → List (Key × V) → Prop
  | [], vs => vs = []
  | (k, d) :: ds, vs => ∃ v r, vs = (kyV k, v) :: r ∧ rel d v ∧ relk ds r
end
def relO (a : Addr) : O → Prop
  | .lst ds => ∃ vs, H a = some (.lst vs) ∧ rels K T H ds vs
  | .dic ds => ∃ vs, H a = some (.dK vs) ∧ relk K T H ds vs
  | .lkd ds => ∃ vs, (∃ o, H a = some (.frz o (.dK vs))) ∧ relk K T H ds vs
structure RelH (h : HH) : Prop where
  len : T.L.length = h.length
  nd : T.L.Nodup
  at_ : ∀ (i : Nat) (o : O), h[i]? = some o → ∃ a, T.L[i]? = some a ∧ relO K T H a o
  sub : ∀ a, a ∈ T.L → T.B a
  occ : ∀ a, T.B a → ∃ xs, H a = some (.lst xs) ∨ ∃ xs, H a = some (.dK xs) ∨ ∃ o, H a = some (.frz o (.dK xs))
  tabs : LamX.Tabs (QK K) H
def relE (env : En) (σ : L2.St) : Prop := env.length = σ.length ∧ ∀ (i : Nat) (d : D), env[i]? = some (some d) → ∃ v, σ[i]? = some (some v) ∧ rel K T H d v
end

structure Le (T : Tk) (H : Hp) (T' : Tk) (H' : Hp) : Prop where
  pre : ∃ M, T'.L = T.L ++ M
  more : ∀ a, T.B a → T'.B a
  fresh : ∀ a, T'.B a → T.B a ∨ H a = none
  freshL : ∀ a, a ∈ T'.L → a ∈ T.L ∨ H a = none
  keep : ∀ a o, H a = some o → a ∉ T.L → (∀ ps, o ≠ .tbl ps) → H' a = some o
  kt : ∀ a ps, H a = some (.tbl ps) → a ∉ T.L → ∃ ps', H' a = some (.tbl ps')
  tq : T'.Q = T.Q
  lk : ∀ a q xs, H a = some (.frz q (.dK xs)) → H' a = some (.frz q (.dK xs))

section
variable {K : PySem.W.Frag} {T T' T'' : Tk} {H H' H'' : Hp} {h h' : HH}
theorem Le.refl : Le T H T H := ⟨⟨[], by simp⟩, fun _ h => h, fun _ h => .inl h, fun _ h => .inl h, fun _ _ e _ _ => e, fun _ ps e _ => ⟨ps, e⟩, rfl, fun _ _ _ e => e⟩
theorem Le.get {i : Nat} {a : Addr} (l : Le T H T' H') (e : T.L[i]? = some a) : T'.L[i]? = some a := by
  obtain ⟨M, q⟩ := l.pre
  rw [q, List.getElem?_append_left (List.getElem?_eq_some_iff.mp e).1]
  exact e
theorem Le.not {a : Addr} {o : HO} (l : Le T H T' H') (e : H a = some o) (n : ¬ T.B a) : ¬ T'.B a := fun q => by
  rcases l.fresh a q with z | z
  · exact n z
  · rw [z] at e; cases e
theorem RelH.out (r : RelH K T H h) {a : Addr} (n : ¬ T.B a) : a ∉ T.L := fun q => n (r.sub a q)
/-- what is told as changing is a list, a dict -/
structure Mu (T : Tk) (H : Hp) : Prop where
  sub : ∀ a, a ∈ T.L → T.B a
  occ : ∀ a, T.B a → ∃ xs, H a = some (.lst xs) ∨ ∃ xs, H a = some (.dK xs) ∨ ∃ o, H a = some (.frz o (.dK xs))
theorem RelH.mut (r : RelH K T H h) : Mu T H := ⟨r.sub, r.occ⟩
theorem Mu.out (m : Mu T H) {a : Addr} (n : ¬ T.B a) : a ∉ T.L := fun q => n (m.sub a q)
theorem Mu.free (m : Mu T H) {a : Addr} (n : H a = none) : ¬ T.B a := fun q => by
  obtain ⟨_, z | ⟨_, z | ⟨_, z⟩⟩⟩ := m.occ a q <;> (rw [n] at z; cases z)
theorem Le.trans (a : Le T H T' H') (m : Mu T H) (b : Le T' H' T'' H'') : Le T H T'' H'' := by
  have k : ∀ x o, H x = some o → x ∉ T.L → x ∉ T'.L := fun x o e n q => by
    rcases a.freshL x q with z | z
    · exact n z
    · rw [z] at e; cases e
  have gone : ∀ x, H' x = none → x ∈ T.L ∨ H x = none := fun x z => by
    by_cases hl : x ∈ T.L
    · exact .inl hl
    · cases q : H x with
      | none => exact .inr rfl
      | some o =>
        by_cases ht : ∃ ps, o = .tbl ps
        · obtain ⟨ps, rfl⟩ := ht
          obtain ⟨ps', e⟩ := a.kt x ps q hl
          rw [e] at z; cases z
        · rw [a.keep x o q hl fun ps e => ht ⟨ps, e⟩] at z; cases z
  refine ⟨?_, fun x hx => b.more x (a.more x hx), fun x hx => ?_, fun x hx => ?_, fun x o e n ht => b.keep x o (a.keep x o e n ht) (k x o e n) ht, fun x ps e n => ?_, b.tq.trans a.tq, fun x q xs e => b.lk x q xs (a.lk x q xs e)⟩
  · obtain ⟨M, q⟩ := a.pre
    obtain ⟨M', q'⟩ := b.pre
    exact ⟨M ++ M', by rw [q', q, List.append_assoc]⟩
  · rcases b.fresh x hx with z | z
    · exact a.fresh x z
    · exact (gone x z).imp (m.sub x) id
  · rcases b.freshL x hx with z | z
    · exact a.freshL x z
    · exact gone x z
  · obtain ⟨ps', e'⟩ := a.kt x ps e n
    exact b.kt x ps' e' (k x _ e n)
theorem Le.rd {a : Addr} {u : HO} (l : Le T H T' H') (m : Mu T H) (r : Rd H a u) (n : ¬ T.B a) (hu : ∀ ps, u ≠ .tbl ps := by exact fun _ z => nomatch z) : Rd H' a u ∧ ¬ T'.B a := by
  rcases r with r | ⟨o, r⟩
  · exact ⟨.inl (l.keep _ _ r (m.out n) hu), l.not r n⟩
  · exact ⟨.inr ⟨o, l.keep _ _ r (m.out n) fun _ z => nomatch z⟩, l.not r n⟩
theorem Mu.nt (m : Mu T H) {a : Addr} {xs : List V} (e : Rd H a (.tup xs)) : ¬ T.B a := fun q => by
  rcases e with e | ⟨o, e⟩
  · obtain ⟨ys, z | ⟨_, z | ⟨_, z⟩⟩⟩ := m.occ a q <;> (rw [e] at z; cases z)
  · obtain ⟨ys, z | ⟨_, z | ⟨_, z⟩⟩⟩ := m.occ a q <;> (rw [e] at z; cases z)
theorem Le.sqT (l : Le T H T' H') (m : Mu T H) {a : Addr} {xs : List V} (e : SqT K H a xs) : SqT K H' a xs := by
  rcases e with e | e
  · exact .inl (l.rd m e (m.nt e)).1
  · exact .inr e
theorem Le.xt (l : Le T H T' H') (m : Mu T H) {a : Addr} {xs : List V} (e : XT K H a xs) : XT K H' a xs := by
  rcases e with ⟨o, e, d⟩ | e
  · refine .inl ⟨o, l.keep _ _ e (fun q => ?_) (fun _ z => nomatch z), d⟩
    obtain ⟨ys, z | ⟨_, z | ⟨_, z⟩⟩⟩ := m.occ a (m.sub a q) <;> (rw [e] at z; cases z)
  · exact .inr e
mutual
theorem rel_mono (l : Le T H T' H') (m : Mu T H) : ∀ (d : D) (v : V), rel K T H d v → rel K T' H' d v
  | .non, v, r => by unfold rel at r ⊢; exact r
  | .bl b, v, r => by unfold rel at r ⊢; exact r
  | .int i, v, r => by unfold rel at r ⊢; exact r
  | .str s, v, r => by unfold rel at r ⊢; exact r
  | .ty s, v, r => by unfold rel at r ⊢; exact r
  | .xc s, v, r => by
    unfold rel at r ⊢
    obtain ⟨a, C, e, n, h⟩ := r
    exact ⟨a, C, e, n, l.keep _ _ h (fun q => by
      obtain ⟨xs, z | ⟨ys, z | ⟨_, z⟩⟩⟩ := m.occ a (m.sub a q) <;> (rw [h] at z; cases z)) fun ps => ExT.nt⟩
  | .lam f c q ds vs, v, r => by
    unfold rel at r ⊢
    obtain ⟨e, h, q⟩ := r
    exact ⟨e, l.keep _ _ h (fun q => by
      obtain ⟨xs, z | ⟨ys, z | ⟨_, z⟩⟩⟩ := m.occ c (m.sub c q) <;> (rw [h] at z; cases z)) fun ps => LamX.codeO_ne ps, rels_mono l m ds vs q⟩
  | .tup ds, v, r => by
    unfold rel at r ⊢
    obtain ⟨a, vs, e, s, q⟩ := r
    exact ⟨a, vs, e, l.xt m s, rels_mono l m ds vs q⟩
  | .tux ds, v, r => by
    unfold rel at r ⊢
    obtain ⟨a, vs, e, s, q⟩ := r
    exact ⟨a, vs, e, l.sqT m s, rels_mono l m ds vs q⟩
  | .lst ds, v, r => by
    unfold rel at r ⊢
    obtain ⟨a, vs, e, s, n, q⟩ := r
    exact ⟨a, vs, e, l.keep _ _ s (m.out n) (fun _ z => nomatch z), l.not s n, rels_mono l m ds vs q⟩
  | .frz ds, v, r => by
    unfold rel at r ⊢
    obtain ⟨a, vs, e, s, q⟩ := r
    refine ⟨a, vs, e, ?_, rels_mono l m ds vs q⟩
    rcases s with ⟨s, n⟩ | s
    · exact .inl (l.rd m s n)
    · exact .inr s
  | .dic ds, v, r => by
    unfold rel at r ⊢
    obtain ⟨a, vs, e, s, n, q⟩ := r
    exact ⟨a, vs, e, l.keep _ _ s (m.out n) (fun _ z => nomatch z), l.not s n, relk_mono l m ds vs q⟩
  | .ref i, v, r => by
    unfold rel at r ⊢
    obtain ⟨a, e, q⟩ := r
    exact ⟨a, e, l.get q⟩
theorem rels_mono (l : Le T H T' H') (m : Mu T H) : ∀ (ds : List D) (vs : List V), rels K T H ds vs → rels K T' H' ds vs
  | [], vs, r => by unfold rels at r ⊢; exact r
  | d :: ds, vs, r => by
    unfold rels at r ⊢
    obtain ⟨v, t, e, r1, r2⟩ := r
    exact ⟨v, t, e, rel_mono l m d v r1, rels_mono l m ds t r2⟩
theorem relk_mono (l : Le T H T' H') (m : Mu T H) : ∀ (ds : List (Sum Int String × D)) (vs : List (Key × V)), relk K T H ds vs → relk K T' H' ds vs
  | [], vs, r => by unfold relk at r ⊢; exact r
  | (k, d) :: ds, vs, r => by
    unfold relk at r ⊢
    obtain ⟨v, t, e, r1, r2⟩ := r
    exact ⟨v, t, e, rel_mono l m d v r1, relk_mono l m ds t r2⟩
end
theorem relE_mono (l : Le T H T' H') (m : Mu T H) {env : En} {σ : L2.St} (r : relE K T H env σ) : relE K T' H' env σ :=
  ⟨r.1, fun i d e => let ⟨v, e1, q⟩ := r.2 i d e; ⟨v, e1, rel_mono l m d v q⟩⟩
theorem relO_mono (l : Le T H T' H') (m : Mu T H) {a : Addr} {x : O} (e : H' a = H a) (r : relO K T H a x) : relO K T' H' a x := by
  cases x with
  | lst ds => obtain ⟨vs, q, rr⟩ := r; exact ⟨vs, by rw [e]; exact q, rels_mono l m ds vs rr⟩
  | dic ds => obtain ⟨vs, q, rr⟩ := r; exact ⟨vs, by rw [e]; exact q, relk_mono l m ds vs rr⟩
  | lkd ds => obtain ⟨vs, q, rr⟩ := r; exact ⟨vs, by rw [e]; exact q, relk_mono l m ds vs rr⟩
theorem rels_length : ∀ {ds : List D} {vs : List V}, rels K T H ds vs → vs.length = ds.length
  | [], vs, r => by unfold rels at r; rw [r]; rfl
  | d :: ds, vs, r => by
    unfold rels at r
    obtain ⟨v, t, e, _, r2⟩ := r
    rw [e, List.length_cons, List.length_cons, rels_length r2]
theorem rels_nil : rels K T H [] [] := by unfold rels; rfl
theorem rels_cons {d : D} {ds : List D} {v : V} {vs : List V} (a : rel K T H d v) (b : rels K T H ds vs) : rels K T H (d :: ds) (v :: vs) := by
  unfold rels; exact ⟨v, vs, rfl, a, b⟩
theorem rels_append {ds es : List D} {vs ws : List V} (a : rels K T H ds vs) (b : rels K T H es ws) : rels K T H (ds ++ es) (vs ++ ws) := by
  induction ds generalizing vs with
  | nil => unfold rels at a; subst a; exact b
  | cons d ds ih =>
    unfold rels at a
    obtain ⟨v, t, e, r1, r2⟩ := a
    subst e
    exact rels_cons r1 (ih r2)
theorem rels_get {ds : List D} {vs : List V} (a : rels K T H ds vs) : ∀ {i : Nat} {d : D}, ds[i]? = some d → ∃ v, vs[i]? = some v ∧ rel K T H d v := by
  induction ds generalizing vs with
  | nil => intro i d e; simp at e
  | cons d ds ih =>
    intro i d' e
    unfold rels at a
    obtain ⟨v, t, e1, r1, r2⟩ := a
    subst e1
    cases i with
    | zero => simp at e; subst e; exact ⟨v, by simp, r1⟩
    | succ i => simpa using ih r2 (by simpa using e)
theorem rels_take {ds : List D} {vs : List V} (n : Nat) (a : rels K T H ds vs) : rels K T H (ds.take n) (vs.take n) := by
  induction ds generalizing vs n with
  | nil => unfold rels at a; subst a; simpa using rels_nil
  | cons d ds ih =>
    unfold rels at a
    obtain ⟨v, t, e1, r1, r2⟩ := a
    subst e1
    cases n with
    | zero => simpa using rels_nil
    | succ n => simpa using rels_cons r1 (ih n r2)
theorem rels_drop {ds : List D} {vs : List V} (n : Nat) (a : rels K T H ds vs) : rels K T H (ds.drop n) (vs.drop n) := by
  induction ds generalizing vs n with
  | nil => unfold rels at a; subst a; simpa using rels_nil
  | cons d ds ih =>
    have a0 := a
    unfold rels at a
    obtain ⟨v, t, e1, r1, r2⟩ := a
    subst e1
    cases n with
    | zero => simpa using a0
    | succ n => simpa using ih n r2
theorem rels_reverse {ds : List D} {vs : List V} (a : rels K T H ds vs) : rels K T H ds.reverse vs.reverse := by
  induction ds generalizing vs with
  | nil => unfold rels at a; subst a; simpa using rels_nil
  | cons d ds ih =>
    unfold rels at a
    obtain ⟨v, t, e1, r1, r2⟩ := a
    subst e1
    simpa using rels_append (ih r2) (rels_cons r1 rels_nil)
theorem rels_set {ds : List D} {vs : List V} {d : D} {v : V} (a : rels K T H ds vs) (b : rel K T H d v) (i : Nat) : rels K T H (ds.set i d) (vs.set i v) := by
  induction ds generalizing vs i with
  | nil => unfold rels at a; subst a; simpa using rels_nil
  | cons d ds ih =>
    unfold rels at a
    obtain ⟨v, t, e1, r1, r2⟩ := a
    subst e1
    cases i with
    | zero => simpa using rels_cons b r2
    | succ i => simpa using rels_cons r1 (ih r2 i)
theorem Le.new {p : Addr} {o : HO} (hp : H p = none) : Le T H T (upd H p o) := ⟨⟨[], by simp⟩, fun _ h => h, fun _ h => .inl h, fun _ h => .inl h, fun a u e _ _ => by rw [upd_ne (ne_of_none e hp)]; exact e, fun a ps e _ => ⟨ps, by rw [upd_ne (ne_of_none e hp)]; exact e⟩, rfl, fun a q xs e => by rw [upd_ne (ne_of_none e hp)]; exact e⟩
/-- the tables stay where another object is written -/
theorem tabs_upd {Q : List (Addr × Str)} {H : Hp} {a : Addr} {o : HO} (t : LamX.Tabs Q H) (n : ∀ u, H a = some u → ∃ xs, u = .lst xs ∨ ∃ ys, u = .dK ys ∨ ∃ o, u = .frz o (.dK ys)) : LamX.Tabs Q (upd H a o) := fun p hp => by
  obtain ⟨ps, e, tr, c⟩ := t p hp
  have ne : ∀ b u, H b = some u → (∀ xs, u ≠ .lst xs) → (∀ xs, u ≠ .dK xs) → (∀ o xs, u ≠ .frz o (.dK xs)) → b ≠ a := fun b u e n1 n2 n3 z => by
    rw [z] at e
    obtain ⟨xs, w | ⟨ys, w | ⟨o, w⟩⟩⟩ := n u e
    · exact n1 _ w
    · exact n2 _ w
    · exact n3 _ _ w
  refine ⟨ps, by rw [upd_ne (ne _ _ e (fun _ z => nomatch z) (fun _ z => nomatch z) (fun _ _ z => nomatch z))]; exact e, tr, fun pos cv h => ?_⟩
  obtain ⟨c, e1, e2⟩ := c pos cv h
  exact ⟨c, e1, by rw [upd_ne (ne _ _ e2 (fun _ z => nomatch z) (fun _ z => nomatch z) (fun _ _ z => nomatch z))]; exact e2⟩
theorem tabs_new {Q : List (Addr × Str)} {H : Hp} {a : Addr} {o : HO} (t : LamX.Tabs Q H) (n : H a = none) : LamX.Tabs Q (upd H a o) := tabs_upd t fun u e => by rw [n] at e; cases e
theorem RelH.new {p : Addr} {o : HO} (r : RelH K T H h) (hp : H p = none) : RelH K T (upd H p o) h :=
  ⟨r.len, r.nd, fun i x e => by
    obtain ⟨a, e1, q⟩ := r.at_ i x e
    refine ⟨a, e1, relO_mono (Le.new hp) r.mut (upd_ne ?_) q⟩
    cases x with
    | lst ds => obtain ⟨vs, q, _⟩ := q; exact ne_of_none q hp
    | dic ds => obtain ⟨vs, q, _⟩ := q; exact ne_of_none q hp
    | lkd ds => obtain ⟨vs, ⟨_, q⟩, _⟩ := q; exact ne_of_none q hp, r.sub, fun a ha => by
    obtain ⟨xs, z | ⟨ys, z | ⟨o', z⟩⟩⟩ := r.occ a ha
    · exact ⟨xs, .inl (by rw [upd_ne (ne_of_none z hp)]; exact z)⟩
    · exact ⟨xs, .inr ⟨ys, .inl (by rw [upd_ne (ne_of_none z hp)]; exact z)⟩⟩
    · exact ⟨xs, .inr ⟨ys, .inr ⟨o', by rw [upd_ne (ne_of_none z hp)]; exact z⟩⟩⟩, tabs_new r.tabs hp⟩
end

/-! ### readings -/
/-- behind a value -/
def After (K : PySem.W.Frag) (mg : Str → Option Value) (W : WX) (T : Tk) (H : Hp) (σ : L2.St) {α β : Type} (q : Tk → Hp → α → β → Prop) (Q : β → Hp → Prop) : R α → Prop
  | .ok d h' => ∀ T' H' v, Le T H T' H' → RelH K T' H' h' → q T' H' d v → Q v H'
  | .exc c h' => ∀ C T' H', mg (Str.ofString c) = some C → Le T H T' H' → RelH K T' H' h' → W C none σ H'
  | .stuck => False
def rdG (K : PySem.W.Frag) (mg : Str → Option Value) (W : WX) {α β : Type} (q : Tk → Hp → α → β → Prop) (f : En → HH → R α) (σ : L2.St) (H : Hp) (Q : β → Hp → Prop) : Prop :=
  ∃ T env h, RelH K T H h ∧ relE K T H env σ ∧ After K mg W T H σ q Q (f env h)
abbrev relB : Tk → Hp → Bool → Bool → Prop := fun _ _ a b => a = b
def rd (X : Cx) (W : WX) (f : Ex) : TE := rdG X.K X.mg W (rel X.K) f
def rds (X : Cx) (W : WX) (f : Exs) : TA := rdG X.K X.mg W (rels X.K) f
def rdt (X : Cx) (W : WX) (f : Et) : TT := rdG X.K X.mg W relB f

def R.bind {α β : Type} (x : R α) (k : α → HH → R β) : R β := match x with
  | .ok a h => k a h
  | .exc c h => .exc c h
  | .stuck => .stuck

section
variable {K : PySem.W.Frag} {mg : Str → Option Value} {W : WX} {T : Tk} {H : Hp} {h : HH} {σ : L2.St} {α β γ δ : Type} {q : Tk → Hp → α → β → Prop} {q2 : Tk → Hp → γ → δ → Prop}
/-- as After.bind, what is left is told from the start -/
theorem After.bind0 {r : R α} {g : α → HH → R γ} {Q : δ → Hp → Prop} {P : β → Hp → Prop} (a : After K mg W T H σ q2 Q (r.bind g))
    (hT : ∀ d h' T' H' v, r = .ok d h' → Le T H T' H' → RelH K T' H' h' → q T' H' d v → After K mg W T H σ q2 Q (g d h') → P v H') : After K mg W T H σ q P r := by
  revert a hT
  cases r with
  | ok d h' => exact fun a hT T' H' v l rr qq => hT d h' T' H' v rfl l rr qq a
  | exc c h' => exact fun a _ => a
  | stuck => exact fun a _ => a
/-- from a later place -/
theorem After.later {r : R γ} {T' : Tk} {H' : Hp} {Q : δ → Hp → Prop} (a : After K mg W T H σ q2 Q r) (l : Le T H T' H') (m : Mu T H) : After K mg W T' H' σ q2 Q r := by
  revert a
  cases r with
  | ok d2 h2 => exact fun a' T2 H2 v2 l2 rr qq2 => a' T2 H2 v2 (l.trans m l2) rr qq2
  | exc c h2 => exact fun a' C T2 H2 hm l2 rr => a' C T2 H2 hm (l.trans m l2) rr
  | stuck => exact fun a' => a'
/-- one behind the other: the first part's reading, then the rest from there -/
theorem After.bind {r : R α} {g : α → HH → R γ} {Q : δ → Hp → Prop} {P : β → Hp → Prop} (a : After K mg W T H σ q2 Q (r.bind g)) (m : Mu T H)
    (hT : ∀ d h' T' H' v, r = .ok d h' → Le T H T' H' → RelH K T' H' h' → q T' H' d v → After K mg W T' H' σ q2 Q (g d h') → P v H') : After K mg W T H σ q P r :=
  a.bind0 fun d h' T' H' v e l rr qq a' => hT d h' T' H' v e l rr qq (a'.later l m)
/-- a part that is done at once -/
theorem After.done {d : α} {v : β} {Q : β → Hp → Prop} (a : After K mg W T H σ q Q (.ok d h)) (r : RelH K T H h) (hq : q T H d v) : Q v H := a T H v Le.refl r hq
/-- a new object that is not tracked as changing -/
theorem After.new {d : α} {v : β} {Q : β → Hp → Prop} {p : Addr} {o : HO} (a : After K mg W T H σ q Q (.ok d h)) (r : RelH K T H h) (hp : H p = none) (hq : q T (upd H p o) d v) : Q v (upd H p o) :=
  a T (upd H p o) v (Le.new hp) (r.new hp) hq
end
theorem PE.mono {X : Cx} {e : Expr} {t t' : TE} (h : PE X e t) (i : ∀ σ H Q, t' σ H Q → t σ H Q) : PE X e t' := ⟨fun pins s σ H Q I hq => h.run pins s σ H Q I (i σ H Q hq)⟩
theorem PT.mono {X : Cx} {e : Expr} {t t' : TT} (h : PT X e t) (i : ∀ σ H Q, t' σ H Q → t σ H Q) : PT X e t' := ⟨fun pins s σ H Q I hq => h.run pins s σ H Q I (i σ H Q hq)⟩
theorem PW.mono {X : Cx} {e : Expr} {t t' : TT} (h : PW X e t) (i : ∀ σ H Q, t' σ H Q → t σ H Q) : PW X e t' := ⟨fun w pins s σ H Q I hq => h.run w pins s σ H Q I (i σ H Q hq)⟩
theorem PA.mono {X : Cx} {e : List Expr} {t t' : TA} (h : PA X e t) (i : ∀ σ H Q, t' σ H Q → t σ H Q) : PA X e t' := ⟨fun pos pins s σ H Q I hq => h.run pos pins s σ H Q I (i σ H Q hq)⟩
theorem PS.mono {X : Cx} {e : Stmt} {t t' : TS} (h : PS X e t) (i : ∀ D σ H, t' D σ H → t D σ H) : PS X e t' := ⟨fun pins s σ H Q I hq => h.run pins s σ H Q I (i Q σ H hq)⟩
theorem PSs.mono {X : Cx} {e : List Stmt} {t t' : TS} (h : PSs X e t) (i : ∀ D σ H, t' D σ H → t D σ H) : PSs X e t' := ⟨fun pins s σ H Q I hq => h.run pins s σ H Q I (i Q σ H hq)⟩
end Pu

namespace Pu
open PySem PySem.Spec PyProof.Rows L2

/-- what a body's derivation may lean on -/
structure Cok (X : Cx) (W : WX) (k : Nat) : Prop where
  calm : X.calm = true
  tk : Takes X W
  po : PassesOwn (model X.prog X.w) X.A X.env X.xe
  hr : Room k X.A
  gd : X.A.guards = some []

abbrev SE (X : Cx) (W : WX) (e : Expr) (f : Ex) : Prop := PE X e (rd X W f)
abbrev ST (X : Cx) (W : WX) (e : Expr) (f : Et) : Prop := PT X e (rdt X W f)
abbrev SW (X : Cx) (W : WX) (e : Expr) (f : Et) : Prop := PW X e (rdt X W f)
structure SA (X : Cx) (W : WX) (es : List Expr) (f : Exs) : Prop where
  pa : PA X es (rds X W f)
  len : ∀ env h ds h', f env h = .ok ds h' → ds.length = es.length

/-! ### names, constants, argument lists -/
def eC (d : D) : Ex := fun _ h => .ok d h
def eV (i : Nat) : Ex := fun env h => match env[i]? with
  | some (some d) => .ok d h
  | _ => .stuck
def aNil : Exs := fun _ h => .ok [] h
def aCons (f : Ex) (g : Exs) : Exs := fun env h => (f env h).bind fun a h1 => (g env h1).bind fun r h2 => .ok (a :: r) h2

section
variable {X : Cx} {W : WX}
theorem rd_const {d : D} {v : V} (hd : ∀ T H, rel X.K T H d v) {σ : L2.St} {H : Hp} {Q : VK} (h : rd X W (eC d) σ H Q) : tC v σ H Q := by
  obtain ⟨T, env, hh, r1, r2, a⟩ := h
  exact a.done r1 (hd T H)
theorem se_of {e : Expr} {d : D} {v : V} (h : PE X e (tC v)) (hd : ∀ T H, rel X.K T H d v) : SE X W e (eC d) := PE.mono h fun _ _ _ => rd_const hd
theorem se_int {i j pos} : SE X W (.Constant (.int i) j pos) (eC (.int i)) := se_of pe_int fun _ _ => by unfold rel; rfl
theorem se_bl {b j pos} : SE X W (.Constant (.bool b) j pos) (eC (.bl b)) := se_of pe_bl fun _ _ => by unfold rel; rfl
theorem se_non {j pos} : SE X W (.Constant .none j pos) (eC .non) := se_of pe_non fun _ _ => by unfold rel; rfl
theorem se_str {x : String} {y : Str} {j pos} (h : y = Str.ofString x := by rfl) : SE X W (.Constant (.str y) j pos) (eC (.str x)) := se_of pe_str fun _ _ => by unfold rel; rw [h]
theorem se_var {i : Nat} {x : Str} {pos : Pos} (hN : X.N[i]? = some x) (hv : Vis X.env.scope x) (hd : (x == ("__debug__" : Str)) = false := by decide) (hcd : (x == ("__classdict__" : Str)) = false := by decide) : SE X W (.Name x pos) (eV i) :=
  PE.mono (pe_var hN hv hd hcd) fun σ H Q h => by
    obtain ⟨T, env, hh, r1, r2, a⟩ := h
    unfold eV at a
    split at a
    · rename_i d e
      obtain ⟨v, e1, q⟩ := r2.2 i d e
      exact ⟨v, e1, a.done r1 q⟩
    · exact a.elim
theorem se_glob {x : Str} {v : V} {d : D} {u : Value} {pos : Pos} (hg : Gl X x) (hm : X.mg x = some u) (r : RelV v u) (hd : ∀ T H, rel X.K T H d v) (hdb : (x == ("__debug__" : Str)) = false := by decide) : SE X W (.Name x pos) (eC d) :=
  se_of (pe_glob hg hm r hdb) hd

theorem sa_nil : SA X W [] aNil := by
  refine ⟨PA.mono pa_nil fun σ H Q h => ?_, fun env h ds h' e => ?_⟩
  · obtain ⟨T, env, hh, r1, r2, a⟩ := h
    exact a.done r1 rels_nil
  · cases e; rfl
theorem R.bind_ok {α β : Type} {r : R α} {k : α → HH → R β} {b : β} {h' : HH} (e : r.bind k = .ok b h') : ∃ a h, r = .ok a h ∧ k a h = .ok b h' := by
  cases r with
  | ok a h => exact ⟨a, h, rfl, e⟩
  | exc c h => cases e
  | stuck => cases e
theorem sa_cons {e : Expr} {es : List Expr} {f : Ex} {g : Exs} (ha : SE X W e f) (hr : SA X W es g) (hs : starEach (e :: es) X.env = (false, eval e X.env) :: starEach es X.env := by rfl) : SA X W (e :: es) (aCons f g) := by
  refine ⟨PA.mono (pa_cons ha hr.pa hs) fun σ H Q h => ?_, fun env h ds h' e => ?_⟩
  · obtain ⟨T, env, hh, r1, r2, a⟩ := h
    refine ⟨T, env, hh, r1, r2, a.bind r1.mut fun d h1 L1 H1 v _ l1 q1 rv a1 => ?_⟩
    refine ⟨L1, env, h1, q1, relE_mono l1 r1.mut r2, a1.bind q1.mut fun ds h2 L2 H2 vs _ l2 q2 rvs a2 => ?_⟩
    exact a2.done q2 (rels_cons (rel_mono l2 q1.mut d v rv) rvs)
  · obtain ⟨a, h1, e1, e⟩ := R.bind_ok e
    obtain ⟨r, h2, e2, e⟩ := R.bind_ok e
    cases e
    rw [List.length_cons, List.length_cons, hr.len _ _ _ _ e2]
end

/-! ### displays -/
def qF (K : PySem.W.Frag) (G : Hp) : Tk → Hp → List D → V → Prop := fun T H ds v => ∃ a vs, v = .ref a ∧ H a = some (.lst vs) ∧ a ∉ T.L ∧ T.B a ∧ G a = none ∧ rels K T H ds vs
/-- a list that was just made -/
def rdF (X : Cx) (W : WX) (f : Exs) : TE := fun σ H Q => rdG X.K X.mg W (qF X.K H) f σ H Q
abbrev SF (X : Cx) (W : WX) (e : Expr) (f : Exs) : Prop := PE X e (rdF X W f)
def eTup (g : Exs) : Ex := fun env h => (g env h).bind fun ds h1 => .ok (.tup ds) h1
def eVal (g : Exs) : Ex := fun env h => (g env h).bind fun ds h1 => .ok (.lst ds) h1
def eNew (g : Exs) : Ex := fun env h => (g env h).bind fun ds h1 => .ok (.ref h1.length) (h1 ++ [.lst ds])

section
variable {K : PySem.W.Frag} {mg : Str → Option Value} {W : WX} {T T' T1 : Tk} {H H' H1 : Hp} {h : HH} {σ : L2.St} {a : Addr}
theorem rel_tup {ds : List D} {vs : List V} {p : Addr} {o : Obj} (e : H p = some (.frz o (.tup vs))) (d : o.dict = none) (r : rels K T H ds vs) : rel K T H (.tup ds) (.ref p) := by
  unfold rel; exact ⟨p, vs, rfl, .inl ⟨o, e, d⟩, r⟩
theorem rel_tux {ds : List D} {vs : List V} {p : Addr} (e : H p = some (.tup vs)) (r : rels K T H ds vs) : rel K T H (.tux ds) (.ref p) := by
  unfold rel; exact ⟨p, vs, rfl, SqT.of e, r⟩
theorem rel_lst {ds : List D} {vs : List V} {p : Addr} (e : H p = some (.lst vs)) (n : ¬ T.B p) (r : rels K T H ds vs) : rel K T H (.lst ds) (.ref p) := by
  unfold rel; exact ⟨p, vs, rfl, e, n, r⟩
/-- blocked -/
def Tk.blk (T : Tk) (a : Addr) : Tk := ⟨T.L, fun b => T.B b ∨ b = a, T.Q⟩
/-- told as changing -/
def Tk.add (T : Tk) (a : Addr) : Tk := ⟨T.L ++ [a], fun b => T.B b ∨ b = a, T.Q⟩
/-- no longer blocked -/
def Tk.un (T : Tk) (a : Addr) : Tk := ⟨T.L, fun b => T.B b ∧ b ≠ a, T.Q⟩
/-- a list or a dict -/
def LD (o : HO) : Prop := ∃ xs, o = .lst xs ∨ ∃ ys, o = .dK ys ∨ ∃ q, o = .frz q (.dK ys)
theorem LD.lst {xs} : LD (.lst xs) := ⟨xs, .inl rfl⟩
theorem LD.dK {xs} : LD (.dK xs) := ⟨[], .inr ⟨xs, .inl rfl⟩⟩
theorem LD.lk {o xs} : LD (.frz o (.dK xs)) := ⟨[], .inr ⟨xs, .inr ⟨o, rfl⟩⟩⟩
theorem LD.at {o : HO} (l : LD o) {H : Hp} {a : Addr} (e : H a = some o) : ∃ xs, H a = some (.lst xs) ∨ ∃ xs, H a = some (.dK xs) ∨ ∃ o, H a = some (.frz o (.dK xs)) := by
  obtain ⟨xs, z | ⟨ys, z | ⟨q, z⟩⟩⟩ := l
  · exact ⟨xs, .inl (z ▸ e)⟩
  · exact ⟨[], .inr ⟨ys, .inl (z ▸ e)⟩⟩
  · exact ⟨[], .inr ⟨ys, .inr ⟨q, z ▸ e⟩⟩⟩
theorem Le.blk {o : HO} (n : H a = none) : Le T H (T.blk a) (upd H a o) :=
  ⟨⟨[], by simp [Tk.blk]⟩, fun _ h => .inl h, fun b h => h.imp id fun e => by rw [e]; exact n, fun _ h => .inl h, fun b u e _ _ => by rw [upd_ne (ne_of_none e n)]; exact e, fun b ps e _ => ⟨ps, by rw [upd_ne (ne_of_none e n)]; exact e⟩, rfl, fun b q xs e => by rw [upd_ne (ne_of_none e n)]; exact e⟩
theorem RelH.blk {o : HO} (r : RelH K T H h) (n : H a = none) (ho : LD o := by first | exact LD.lst | exact LD.dK) : RelH K (T.blk a) (upd H a o) h := by
  refine ⟨r.len, r.nd, fun i x e => ?_, fun b hb => .inl (r.sub b hb), fun b hb => ?_, tabs_new r.tabs n⟩
  · obtain ⟨b, e1, q⟩ := r.at_ i x e
    refine ⟨b, e1, relO_mono (Le.blk n) r.mut (upd_ne ?_) q⟩
    cases x with
    | lst ds => obtain ⟨vs, q, _⟩ := q; exact ne_of_none q n
    | dic ds => obtain ⟨vs, q, _⟩ := q; exact ne_of_none q n
    | lkd ds => obtain ⟨vs, ⟨_, q⟩, _⟩ := q; exact ne_of_none q n
  · rcases hb with hb | hb
    · obtain ⟨xs, z | ⟨ys, z | ⟨o', z⟩⟩⟩ := r.occ b hb
      · exact ⟨xs, .inl (by rw [upd_ne (ne_of_none z n)]; exact z)⟩
      · exact ⟨xs, .inr ⟨ys, .inl (by rw [upd_ne (ne_of_none z n)]; exact z)⟩⟩
      · exact ⟨xs, .inr ⟨ys, .inr ⟨o', by rw [upd_ne (ne_of_none z n)]; exact z⟩⟩⟩
    · exact ho.at (by rw [hb, upd_same])
mutual
/-- what is blocked is leant on by no value: it may be written -/
theorem rel_bw {o : HO} (m : Mu T H) (hb : T.B a) : ∀ (d : D) (v : V), rel K T H d v → rel K T (upd H a o) d v
  | .non, v, r => by unfold rel at r ⊢; exact r
  | .bl b, v, r => by unfold rel at r ⊢; exact r
  | .int i, v, r => by unfold rel at r ⊢; exact r
  | .str s, v, r => by unfold rel at r ⊢; exact r
  | .ty s, v, r => by unfold rel at r ⊢; exact r
  | .xc s, v, r => by
    unfold rel at r ⊢
    obtain ⟨b, C, e, n, h⟩ := r
    refine ⟨b, C, e, n, ?_⟩
    rw [upd_ne (a := a) (b := b)]
    · exact h
    · intro z
      rw [z] at h
      obtain ⟨xs, w | ⟨ys, w | ⟨_, w⟩⟩⟩ := m.occ a hb <;> (rw [h] at w; cases w)
  | .ref i, v, r => by unfold rel at r ⊢; exact r
  | .lam f c q ds vs, v, r => by
    unfold rel at r ⊢
    obtain ⟨e, h, q⟩ := r
    refine ⟨e, ?_, rels_bw m hb ds vs q⟩
    rw [upd_ne (a := a) (b := c)]
    · exact h
    · intro z
      rw [z] at h
      obtain ⟨xs, w | ⟨ys, w | ⟨_, w⟩⟩⟩ := m.occ a hb <;> (rw [h] at w; cases w)
  | .tup ds, v, r => by
    unfold rel at r ⊢
    obtain ⟨b, vs, e, s, q⟩ := r
    refine ⟨b, vs, e, ?_, rels_bw m hb ds vs q⟩
    rcases s with ⟨o, s, d⟩ | s
    · have n : b ≠ a := fun z => m.nt (.inr ⟨o, s⟩) (z ▸ hb)
      exact .inl ⟨o, by rw [upd_ne n]; exact s, d⟩
    · exact .inr s
  | .tux ds, v, r => by
    unfold rel at r ⊢
    obtain ⟨b, vs, e, s, q⟩ := r
    refine ⟨b, vs, e, ?_, rels_bw m hb ds vs q⟩
    rcases s with s | s
    · have n : b ≠ a := fun z => m.nt s (z ▸ hb)
      rcases s with s | ⟨x, s⟩
      · exact .inl (.inl (by rw [upd_ne n]; exact s))
      · exact .inl (.inr ⟨x, by rw [upd_ne n]; exact s⟩)
    · exact .inr s
  | .lst ds, v, r => by
    unfold rel at r ⊢
    obtain ⟨b, vs, e, s, n, q⟩ := r
    exact ⟨b, vs, e, by rw [upd_ne (a := a) (b := b) (fun z => n (by rw [z]; exact hb))]; exact s, n, rels_bw m hb ds vs q⟩
  | .frz ds, v, r => by
    unfold rel at r ⊢
    obtain ⟨b, vs, e, s, q⟩ := r
    refine ⟨b, vs, e, ?_, rels_bw m hb ds vs q⟩
    rcases s with ⟨s, n⟩ | s
    · have nb : b ≠ a := fun z => n (z ▸ hb)
      rcases s with s | ⟨x, s⟩
      · exact .inl ⟨.inl (by rw [upd_ne nb]; exact s), n⟩
      · exact .inl ⟨.inr ⟨x, by rw [upd_ne nb]; exact s⟩, n⟩
    · exact .inr s
  | .dic ds, v, r => by
    unfold rel at r ⊢
    obtain ⟨b, vs, e, s, n, q⟩ := r
    exact ⟨b, vs, e, by rw [upd_ne (a := a) (b := b) (fun z => n (by rw [z]; exact hb))]; exact s, n, relk_bw m hb ds vs q⟩
theorem rels_bw {o : HO} (m : Mu T H) (hb : T.B a) : ∀ (ds : List D) (vs : List V), rels K T H ds vs → rels K T (upd H a o) ds vs
  | [], vs, r => by unfold rels at r ⊢; exact r
  | d :: ds, vs, r => by
    unfold rels at r ⊢
    obtain ⟨v, t, e, r1, r2⟩ := r
    exact ⟨v, t, e, rel_bw m hb d v r1, rels_bw m hb ds t r2⟩
theorem relk_bw {o : HO} (m : Mu T H) (hb : T.B a) : ∀ (ds : List (Sum Int String × D)) (vs : List (Key × V)), relk K T H ds vs → relk K T (upd H a o) ds vs
  | [], vs, r => by unfold relk at r ⊢; exact r
  | (k, d) :: ds, vs, r => by
    unfold relk at r ⊢
    obtain ⟨v, t, e, r1, r2⟩ := r
    exact ⟨v, t, e, rel_bw m hb d v r1, relk_bw m hb ds t r2⟩
end
theorem relE_bw {o : HO} (m : Mu T H) (hb : T.B a) {env : En} {σ : L2.St} (r : relE K T H env σ) : relE K T (upd H a o) env σ :=
  ⟨r.1, fun i d e => let ⟨v, e1, q⟩ := r.2 i d e; ⟨v, e1, rel_bw m hb d v q⟩⟩
theorem RelH.bw {o : HO} (r : RelH K T H h) (hb : T.B a) (hl : a ∉ T.L) (ho : LD o) : RelH K T (upd H a o) h := by
  refine ⟨r.len, r.nd, fun i x e => ?_, r.sub, fun b hB => ?_, tabs_upd r.tabs fun u e => by
    obtain ⟨xs, z | ⟨ys, z | ⟨o', z⟩⟩⟩ := r.occ a hb <;> rw [e] at z <;> cases z
    · exact ⟨_, .inl rfl⟩
    · exact ⟨[], .inr ⟨_, .inl rfl⟩⟩
    · exact ⟨[], .inr ⟨_, .inr ⟨_, rfl⟩⟩⟩⟩
  · obtain ⟨b, e1, q⟩ := r.at_ i x e
    have nb : b ≠ a := fun z => hl (z ▸ List.mem_of_getElem? e1)
    refine ⟨b, e1, ?_⟩
    cases x with
    | lst ds => obtain ⟨vs, q, rr⟩ := q; exact ⟨vs, by rw [upd_ne nb]; exact q, rels_bw r.mut hb ds vs rr⟩
    | dic ds => obtain ⟨vs, q, rr⟩ := q; exact ⟨vs, by rw [upd_ne nb]; exact q, relk_bw r.mut hb ds vs rr⟩
    | lkd ds => obtain ⟨vs, q, rr⟩ := q; exact ⟨vs, by rw [upd_ne nb]; exact q, relk_bw r.mut hb ds vs rr⟩
  · by_cases z : b = a
    · exact ho.at (by rw [z, upd_same])
    · obtain ⟨xs, q | ⟨ys, q | ⟨o', q⟩⟩⟩ := r.occ b hB
      · exact ⟨xs, .inl (by rw [upd_ne z]; exact q)⟩
      · exact ⟨xs, .inr ⟨ys, .inl (by rw [upd_ne z]; exact q)⟩⟩
      · exact ⟨xs, .inr ⟨ys, .inr ⟨o', by rw [upd_ne z]; exact q⟩⟩⟩
/-- an object that changes is written -/
theorem Le.wr {o : HO} (hl : a ∈ T.L) (nf : ∀ q xs, H a ≠ some (.frz q (.dK xs))) : Le T H T (upd H a o) := ⟨⟨[], by simp⟩, fun _ h => h, fun _ h => .inl h, fun _ h => .inl h, fun b u e n _ => by rw [upd_ne (a := a) (b := b) (fun z => n (by rw [z]; exact hl))]; exact e, fun b ps e n => ⟨ps, by rw [upd_ne (a := a) (b := b) (fun z => n (by rw [z]; exact hl))]; exact e⟩, rfl, fun b q xs e => by rw [upd_ne (a := a) (b := b) (fun z => nf q xs (z ▸ e))]; exact e⟩
theorem RelH.wr {o : HO} {i : Nat} {x : O} (r : RelH K T H h) (hi : T.L[i]? = some a) (ho : LD o) (hx : relO K T (upd H a o) a x) : RelH K T (upd H a o) (h.set i x) := by
  have hl : a ∈ T.L := List.mem_of_getElem? hi
  refine ⟨by rw [List.length_set]; exact r.len, r.nd, fun j y e => ?_, r.sub, fun b hB => ?_, tabs_upd r.tabs fun u e => by
    obtain ⟨xs, z | ⟨ys, z | ⟨o', z⟩⟩⟩ := r.occ a (r.sub a hl) <;> rw [e] at z <;> cases z
    · exact ⟨_, .inl rfl⟩
    · exact ⟨[], .inr ⟨_, .inl rfl⟩⟩
    · exact ⟨[], .inr ⟨_, .inr ⟨_, rfl⟩⟩⟩⟩
  · by_cases hj : i = j
    · subst hj
      have hlt : i < h.length := by rw [← r.len]; exact (List.getElem?_eq_some_iff.mp hi).1
      rw [List.getElem?_set_self hlt] at e
      cases e
      exact ⟨a, hi, hx⟩
    · rw [List.getElem?_set_ne hj] at e
      obtain ⟨b, e1, q⟩ := r.at_ j y e
      have nb : b ≠ a := fun z => by
        subst z
        have h1 := (List.getElem?_eq_some_iff.mp hi).1
        have h2 := (List.getElem?_eq_some_iff.mp e1).1
        exact hj ((List.getElem?_inj h1 r.nd).mp (hi.trans e1.symm))
      refine ⟨b, e1, ?_⟩
      cases y with
      | lst ds => obtain ⟨vs, q, rr⟩ := q; exact ⟨vs, by rw [upd_ne nb]; exact q, rels_bw r.mut (r.sub a hl) ds vs rr⟩
      | dic ds => obtain ⟨vs, q, rr⟩ := q; exact ⟨vs, by rw [upd_ne nb]; exact q, relk_bw r.mut (r.sub a hl) ds vs rr⟩
      | lkd ds => obtain ⟨vs, q, rr⟩ := q; exact ⟨vs, by rw [upd_ne nb]; exact q, relk_bw r.mut (r.sub a hl) ds vs rr⟩
  · by_cases z : b = a
    · exact ho.at (by rw [z, upd_same])
    · obtain ⟨xs, q | ⟨ys, q | ⟨o', q⟩⟩⟩ := r.occ b hB
      · exact ⟨xs, .inl (by rw [upd_ne z]; exact q)⟩
      · exact ⟨xs, .inr ⟨ys, .inl (by rw [upd_ne z]; exact q)⟩⟩
      · exact ⟨xs, .inr ⟨ys, .inr ⟨o', by rw [upd_ne z]; exact q⟩⟩⟩
mutual
theorem rel_un {hb : T.B a} : ∀ (d : D) (v : V), rel K T H d v → rel K (T.un a) H d v
  | .non, v, r => by unfold rel at r ⊢; exact r
  | .bl b, v, r => by unfold rel at r ⊢; exact r
  | .int i, v, r => by unfold rel at r ⊢; exact r
  | .str s, v, r => by unfold rel at r ⊢; exact r
  | .ty s, v, r => by unfold rel at r ⊢; exact r
  | .xc s, v, r => by unfold rel at r ⊢; exact r
  | .lam f c q ds vs, v, r => by
    unfold rel at r ⊢
    exact ⟨r.1, r.2.1, rels_un (hb := hb) ds vs r.2.2⟩
  | .tup ds, v, r => by
    unfold rel at r ⊢
    obtain ⟨a, vs, e, s, q⟩ := r
    exact ⟨a, vs, e, s, rels_un (hb := hb) ds vs q⟩
  | .tux ds, v, r => by
    unfold rel at r ⊢
    obtain ⟨a, vs, e, s, q⟩ := r
    exact ⟨a, vs, e, s, rels_un (hb := hb) ds vs q⟩
  | .lst ds, v, r => by
    unfold rel at r ⊢
    obtain ⟨a, vs, e, s, n, q⟩ := r
    exact ⟨a, vs, e, s, fun z => n z.1, rels_un (hb := hb) ds vs q⟩
  | .frz ds, v, r => by
    unfold rel at r ⊢
    obtain ⟨a, vs, e, s, q⟩ := r
    exact ⟨a, vs, e, s.imp (fun s => ⟨s.1, fun z => s.2 z.1⟩) id, rels_un (hb := hb) ds vs q⟩
  | .dic ds, v, r => by
    unfold rel at r ⊢
    obtain ⟨a, vs, e, s, n, q⟩ := r
    exact ⟨a, vs, e, s, fun z => n z.1, relk_un (hb := hb) ds vs q⟩
  | .ref i, v, r => by unfold rel at r ⊢; exact r
theorem rels_un {hb : T.B a} : ∀ (ds : List D) (vs : List V), rels K T H ds vs → rels K (T.un a) H ds vs
  | [], vs, r => by unfold rels at r ⊢; exact r
  | d :: ds, vs, r => by
    unfold rels at r ⊢
    obtain ⟨v, t, e, r1, r2⟩ := r
    exact ⟨v, t, e, rel_un (hb := hb) d v r1, rels_un (hb := hb) ds t r2⟩
theorem relk_un {hb : T.B a} : ∀ (ds : List (Sum Int String × D)) (vs : List (Key × V)), relk K T H ds vs → relk K (T.un a) H ds vs
  | [], vs, r => by unfold relk at r ⊢; exact r
  | (k, d) :: ds, vs, r => by
    unfold relk at r ⊢
    obtain ⟨v, t, e, r1, r2⟩ := r
    exact ⟨v, t, e, rel_un (hb := hb) d v r1, relk_un (hb := hb) ds t r2⟩
end
theorem RelH.un (r : RelH K T H h) (hb : T.B a) (hl : a ∉ T.L) : RelH K (T.un a) H h := by
  refine ⟨r.len, r.nd, fun i x e => ?_, fun b h => ⟨r.sub b h, fun z => hl (z ▸ h)⟩, fun b h => r.occ b h.1, r.tabs⟩
  obtain ⟨b, e1, q⟩ := r.at_ i x e
  refine ⟨b, e1, ?_⟩
  cases x with
  | lst ds => obtain ⟨vs, q, rr⟩ := q; exact ⟨vs, q, rels_un (hb := hb) ds vs rr⟩
  | dic ds => obtain ⟨vs, q, rr⟩ := q; exact ⟨vs, q, relk_un (hb := hb) ds vs rr⟩
  | lkd ds => obtain ⟨vs, q, rr⟩ := q; exact ⟨vs, q, relk_un (hb := hb) ds vs rr⟩
/-- from the start, behind a's block was taken away -/
theorem Le.un (l : Le T H T1 H1) (f : H a = none) (m : Mu T H) : Le T H (T1.un a) H1 :=
  ⟨l.pre, fun b h => ⟨l.more b h, fun z => m.free f (z ▸ h)⟩, fun b h => l.fresh b h.1, l.freshL, l.keep, l.kt, l.tq, l.lk⟩
mutual
theorem rel_add : ∀ (d : D) (v : V), T.B a → rel K T H d v → rel K (T.add a) H d v
  | .non, v, _, r => by unfold rel at r ⊢; exact r
  | .bl b, v, _, r => by unfold rel at r ⊢; exact r
  | .int i, v, _, r => by unfold rel at r ⊢; exact r
  | .str s, v, _, r => by unfold rel at r ⊢; exact r
  | .ty s, v, _, r => by unfold rel at r ⊢; exact r
  | .xc s, v, _, r => by unfold rel at r ⊢; exact r
  | .lam f c q ds vs, v, hb, r => by
    unfold rel at r ⊢
    exact ⟨r.1, r.2.1, rels_add ds vs hb r.2.2⟩
  | .tup ds, v, hb, r => by
    unfold rel at r ⊢
    obtain ⟨a, vs, e, s, q⟩ := r
    exact ⟨a, vs, e, s, rels_add ds vs hb q⟩
  | .tux ds, v, hb, r => by
    unfold rel at r ⊢
    obtain ⟨a, vs, e, s, q⟩ := r
    exact ⟨a, vs, e, s, rels_add ds vs hb q⟩
  | .lst ds, v, hb, r => by
    unfold rel at r ⊢
    obtain ⟨b, vs, e, s, n, q⟩ := r
    exact ⟨b, vs, e, s, fun z => z.elim n fun z => n (z ▸ hb), rels_add ds vs hb q⟩
  | .frz ds, v, hb, r => by
    unfold rel at r ⊢
    obtain ⟨b, vs, e, s, q⟩ := r
    exact ⟨b, vs, e, s.imp (fun s => ⟨s.1, fun z => z.elim s.2 fun z => s.2 (z ▸ hb)⟩) id, rels_add ds vs hb q⟩
  | .dic ds, v, hb, r => by
    unfold rel at r ⊢
    obtain ⟨b, vs, e, s, n, q⟩ := r
    exact ⟨b, vs, e, s, fun z => z.elim n fun z => n (z ▸ hb), relk_add ds vs hb q⟩
  | .ref i, v, _, r => by
    unfold rel at r ⊢
    obtain ⟨b, e, q⟩ := r
    exact ⟨b, e, by show (T.L ++ [a])[i]? = _; rw [List.getElem?_append_left (List.getElem?_eq_some_iff.mp q).1]; exact q⟩
theorem rels_add : ∀ (ds : List D) (vs : List V), T.B a → rels K T H ds vs → rels K (T.add a) H ds vs
  | [], vs, _, r => by unfold rels at r ⊢; exact r
  | d :: ds, vs, hb, r => by
    unfold rels at r ⊢
    obtain ⟨v, t, e, r1, r2⟩ := r
    exact ⟨v, t, e, rel_add d v hb r1, rels_add ds t hb r2⟩
theorem relk_add : ∀ (ds : List (Sum Int String × D)) (vs : List (Key × V)), T.B a → relk K T H ds vs → relk K (T.add a) H ds vs
  | [], vs, _, r => by unfold relk at r ⊢; exact r
  | (k, d) :: ds, vs, hb, r => by
    unfold relk at r ⊢
    obtain ⟨v, t, e, r1, r2⟩ := r
    exact ⟨v, t, e, rel_add d v hb r1, relk_add ds t hb r2⟩
end
theorem RelH.add {o : O} (r : RelH K T H h) (hb : T.B a) (hl : a ∉ T.L) (ho : relO K (T.add a) H a o) : RelH K (T.add a) H (h ++ [o]) := by
  refine ⟨by show (T.L ++ [a]).length = _; rw [List.length_append, List.length_append, r.len]; rfl, ?_, fun i x e => ?_, fun b h => ?_, fun b h => h.elim (r.occ b) fun z => z ▸ r.occ a hb, r.tabs⟩
  · show (T.L ++ [a]).Nodup
    exact List.nodup_append.mpr ⟨r.nd, by simp, fun x hx y hy z => by rw [List.mem_singleton.mp hy] at z; exact hl (z ▸ hx)⟩
  · by_cases hi : i < h.length
    · rw [List.getElem?_append_left hi] at e
      obtain ⟨b, e1, q⟩ := r.at_ i x e
      refine ⟨b, by show (T.L ++ [a])[i]? = _; rw [List.getElem?_append_left (by rw [r.len]; exact hi)]; exact e1, ?_⟩
      cases x with
      | lst ds => obtain ⟨vs, q, rr⟩ := q; exact ⟨vs, q, rels_add ds vs hb rr⟩
      | dic ds => obtain ⟨vs, q, rr⟩ := q; exact ⟨vs, q, relk_add ds vs hb rr⟩
      | lkd ds => obtain ⟨vs, q, rr⟩ := q; exact ⟨vs, q, relk_add ds vs hb rr⟩
    · have hi' : i = h.length := by
        have := (List.getElem?_eq_some_iff.mp e).1
        rw [List.length_append, List.length_singleton] at this
        omega
      subst hi'
      rw [List.getElem?_append_right (Nat.le_refl _), Nat.sub_self] at e
      simp at e
      subst e
      exact ⟨a, by show (T.L ++ [a])[h.length]? = _; rw [← r.len, List.getElem?_append_right (Nat.le_refl _), Nat.sub_self]; rfl, ho⟩
  · rcases List.mem_append.mp h with z | z
    · exact .inl (r.sub b z)
    · exact .inr (List.mem_singleton.mp z)
theorem Le.add (l : Le T H T1 H1) (f : H a = none) : Le T H (T1.add a) H1 := by
  refine ⟨?_, fun b h => .inl (l.more b h), fun b h => h.elim (l.fresh b) fun z => .inr (z ▸ f), fun b h => ?_, l.keep, l.kt, l.tq, l.lk⟩
  · obtain ⟨M, e⟩ := l.pre
    exact ⟨M ++ [a], by show T1.L ++ [a] = _; rw [e, List.append_assoc]⟩
  · rcases List.mem_append.mp h with z | z
    · exact l.freshL b z
    · rw [List.mem_singleton.mp z]; exact .inr f
/-- an address that is free later was free, or is told as changing -/
theorem Le.was (l : Le T H T1 H1) (m1 : Mu T1 H1) (f : H1 a = none) : H a = none := by
  cases e : H a with
  | none => rfl
  | some o =>
    by_cases hl : a ∈ T.L
    · obtain ⟨M, q⟩ := l.pre
      exact absurd (m1.sub a (by rw [q]; exact List.mem_append_left _ hl)) (m1.free f)
    · by_cases ht : ∃ ps, o = .tbl ps
      · obtain ⟨ps, rfl⟩ := ht
        obtain ⟨ps', e'⟩ := l.kt a ps e hl
        rw [e'] at f; cases f
      · rw [l.keep _ _ e hl fun ps z => ht ⟨ps, z⟩] at f; cases f
end
section
variable {X : Cx} {W : WX} {e : Expr} {es : List Expr} {f : Exs} {pos : Pos}
/-- a tuple is laid: a known object -/
theorem pe_tupK {x1} {t : TA} (h : PA X es t) : PE X (.Tuple es x1 pos) (fun σ H Q => t σ H fun xs H1 => xs.length ≤ sizeLine ∧ ∀ p o, H1 p = none → o.dict = none → Q (.ref p) (upd H1 p (.frz o (.tup xs)))) := by
  refine ⟨fun pins s σ H Q I hq => wpAny_Tuple_spliced ?_⟩
  refine thn (h.run pos pins s σ H _ I hq) fun us s1 ⟨xs, H1, I1, r, z, q⟩ => ⟨by rw [← r.length]; exact z, .ref s1.heap.objs.size, _, I1.laid (t' := s1.toks) (o := .frz { cls := .type "tuple", data := .seq us.toArray } (.tup xs)) (fun b u e => Heap.get?_push_of_some _ e) (Nat.le_refl _) ?_, rfl, q _ _ (I1.hok.fresh (Nat.le_refl _)) rfl⟩
  have g := Heap.get?_push_size s1.heap (o := { cls := .type "tuple", data := .seq us.toArray }) rfl
  exact ⟨g, z, us, r, _, g, rfl, _, rfl⟩
theorem se_tup {x1} (ha : SA X W es f) (hz : es.length ≤ 1000 := by decide) : SE X W (.Tuple es x1 pos) (eTup f) :=
  PE.mono (pe_tupK ha.pa) fun σ H Q hh => by
    obtain ⟨T, env, h, r1, r2, a⟩ := hh
    refine ⟨T, env, h, r1, r2, a.bind r1.mut fun ds h1 T1 H1 vs e l1 q1 rvs a1 => ⟨?_, fun p o hp ho => ?_⟩⟩
    · rw [rels_length rvs, ha.len _ _ _ _ e, sizeLine_eq]; omega
    · exact a1.new q1 hp (rel_tup upd_same ho (rels_mono (Le.new hp) q1.mut ds vs rvs))
theorem bind_self {α : Type} (r : R α) : (r.bind fun a h => .ok a h) = r := by cases r <;> rfl
theorem sf_lst (ha : SA X W es f) (hz : es.length ≤ 1000 := by decide) : SF X W (.List es pos) f :=
  PE.mono (pe_lst ha.pa) fun σ H Q hh => by
    obtain ⟨T, env, h, r1, r2, a⟩ := hh
    rw [← bind_self (f env h)] at a
    refine ⟨T, env, h, r1, r2, a.bind0 fun ds h1 T1 H1 vs e l1 q1 rvs a1 => ⟨?_, fun p hp => ?_⟩⟩
    · rw [rels_length rvs, ha.len _ _ _ _ e, sizeLine_eq]; omega
    · exact a1 (T1.blk p) (upd H1 p (.lst vs)) _ (l1.trans r1.mut (Le.blk hp)) (q1.blk hp) ⟨p, vs, rfl, upd_same, fun z => q1.mut.free hp (q1.sub p z), .inr rfl, l1.was q1.mut hp, rels_mono (Le.blk hp) q1.mut ds vs rvs⟩
theorem rd_val {σ : L2.St} {H : Hp} {Q : VK} (hh : rd X W (eVal f) σ H Q) : rdF X W f σ H Q := by
    obtain ⟨T, env, h, r1, r2, a⟩ := hh
    refine ⟨T, env, h, r1, r2, a.bind0 fun ds h1 T1 H1 v e l1 q1 hv a1 => ?_⟩
    obtain ⟨p, vs, rfl, e1, nl, hb, f0, rvs⟩ := hv
    exact a1 (T1.un p) H1 _ (l1.un f0 r1.mut) (q1.un hb nl) (rel_lst e1 (fun z => z.2 rfl) (rels_un (hb := hb) ds vs rvs))
theorem se_val (hf : SF X W e f) : SE X W e (eVal f) := PE.mono hf fun _ _ _ => rd_val
theorem rd_new {σ : L2.St} {H : Hp} {Q : VK} (hh : rd X W (eNew f) σ H Q) : rdF X W f σ H Q := by
    obtain ⟨T, env, h, r1, r2, a⟩ := hh
    refine ⟨T, env, h, r1, r2, a.bind0 fun ds h1 T1 H1 v e l1 q1 hv a1 => ?_⟩
    obtain ⟨p, vs, rfl, e1, nl, hb, f0, rvs⟩ := hv
    refine a1 (T1.add p) H1 _ (l1.add f0) (q1.add hb nl ⟨vs, e1, rels_add ds vs hb rvs⟩) ?_
    unfold rel
    exact ⟨p, rfl, by show (T1.L ++ [p])[h1.length]? = _; rw [← q1.len, List.getElem?_append_right (Nat.le_refl _), Nat.sub_self]; rfl⟩
theorem se_new (hf : SF X W e f) : SE X W e (eNew f) := PE.mono hf fun _ _ _ => rd_new
end
end Pu

namespace Pu
open PySem PySem.Spec PyProof.Rows L2

/-! ### tuples that are made: known objects -/
def tupO (its : List Value) : Obj := { cls := .type "tuple", data := .seq its.toArray }
/-- what is asked of a tuple that was made: it has no dict of its own -/
def Made (H : Hp) (xs : List V) (Q : VK) : Prop := ∀ p o, H p = none → o.dict = none → Q (.ref p) (upd H p (.frz o (.tup xs)))
section
variable {X : Cx} {pins : List (Addr × Obj)} {σ : L2.St} {H : Hp} {s : Shared} {Q : VK}
theorem made_ok (I : Inv X pins σ H s) {xs : List V} {its : List Value} (r : Vals xs its) (z : xs.length ≤ sizeLine) (q : Made H xs Q) : EP X pins σ Q (.ref s.heap.objs.size) { s with heap := s.heap.push (tupO its) } := by
  have g : (s.heap.push (tupO its)).get? s.heap.objs.size = some (tupO its) := Heap.get?_push_size _ rfl
  have fresh := I.hok.fresh (Nat.le_refl s.heap.objs.size)
  have J := I.laid (t' := s.toks) (o := .frz (tupO its) (.tup xs)) (h' := s.heap.push (tupO its)) (fun b u e => Heap.get?_push_of_some _ e) (Nat.le_refl _) ⟨g, z, its, r, _, g, rfl, _, rfl⟩
  exact ⟨.ref s.heap.objs.size, _, J, rfl, q _ _ fresh rfl⟩
/-- t + u -/
def rCatK (K : PySem.W.Frag) : R2 := fun x y H Q => ∃ a b xs ys, x = .ref a ∧ y = .ref b ∧ SqT K H a xs ∧ SqT K H b ys ∧ xs.length + ys.length ≤ sizeLine ∧
  (xs = [] → Q (.ref b) H) ∧ (xs ≠ [] → ys = [] → Q (.ref a) H) ∧ (xs ≠ [] → ys ≠ [] → Made H (xs ++ ys) Q)
theorem op_catK : OpR X (binaryOp .Add) (rCatK X.K) := fun pins s σ H x y v u Q I rx ry h => by
  obtain ⟨a, b, xs, ys, rfl, rfl, ha, hb, hz, none1, none2, both⟩ := h
  have ev : v = .ref a := rx
  have eu : u = .ref b := ry
  subst ev eu
  obtain ⟨as, ra, ta, _⟩ := I.tuple ha
  obtain ⟨bs, rb, tb, _⟩ := I.tuple hb
  have len : as.length + bs.length ≤ sizeLine := by rw [← ra.length, ← rb.length]; exact hz
  by_cases hx : xs = []
  · subst hx
    cases ra
    exact cat_tup0 ta tb ⟨.ref b, H, I, rfl, none1 rfl⟩
  · have hy := rb.nil_iff
    exact HT.cat_tup ta tb (fun z => hx (ra.nil_iff.mp z)) (fun z => ⟨.ref a, H, I, rfl, none2 hx (hy.mp z)⟩) (fun z => made_ok I (ra.append rb) (by rw [List.length_append]; exact hz) (both hx fun w => z (hy.mpr w))) len
/-- t[lo:hi] -/
def rSlK (K : PySem.W.Frag) : V → Option Int → Option Int → Hp → VK → Prop := fun x lo hi H Q => ∃ a xs, x = .ref a ∧ SqT K H a xs ∧
  (HT.sIx xs.length 0 lo = 0 ∧ HT.sIx xs.length xs.length hi = xs.length → Q (.ref a) H) ∧ (¬ (HT.sIx xs.length 0 lo = 0 ∧ HT.sIx xs.length xs.length hi = xs.length) → Made H (cutV xs lo hi) Q)
theorem sl_tupK : SlR X (rSlK X.K) := fun pins s σ H x v vl vu lo hi sl Q I rx hs pl pu h => by
  obtain ⟨a, xs, rfl, hx, whole, part⟩ := h
  have ev : v = .ref a := rx
  subst ev
  obtain ⟨its, r, t, z⟩ := I.tuple hx
  have len : its.toArray.size = xs.length := r.length.symm ▸ List.size_toArray
  refine ⟨"tuple", _, PyProof.Rows.slot_tuple_getitem.lookup, t.typeIs, ?_⟩
  by_cases hw : HT.sIx xs.length 0 lo = 0 ∧ HT.sIx xs.length xs.length hi = xs.length
  · exact getItem_tuple_whole t hs pl pu (by rw [len]; exact hw) ⟨.ref a, H, I, rfl, whole hw⟩
  · refine HT.getItem_tuple_cut t hs pl pu (by rw [len]; exact hw) ?_ (by rw [len]; exact z)
    rw [len]
    exact made_ok I (r.drop _ |>.take _) (Nat.le_trans (cutV_length xs lo hi) z) (part hw)
/-- tuple(x) -/
theorem call_tupleK : CallR X (.type "tuple") (fun xs H Q => ∃ p ys, xs = [.ref p] ∧ ((SqL X.K H p ys ∧ Made H ys Q) ∨ (SqT X.K H p ys ∧ Q (.ref p) H))) := fun pins s σ H xs us Q I r h => by
  obtain ⟨p, ys, rfl, h⟩ := h
  obtain ⟨u, rfl, ru⟩ := vals1 r
  have eu : u = .ref p := ru
  subst eu
  rcases h with ⟨hq, q⟩ | ⟨hq, q⟩
  · obtain ⟨its, ri, pl, hz⟩ := I.list hq
    have fit : its.toArray.size ≤ sizeLine := by rw [List.size_toArray, ← ri.length]; exact hz
    exact call_tuple_list pl.isList (fun h' keep => made_ok (I.kept (t' := s.toks) keep) ri hz q) fit
  · obtain ⟨its, _, t, _⟩ := I.tuple hq
    exact call_tuple_same t ⟨.ref p, H, I, rfl, q⟩
/-- t * n -/
def rRepK (K : PySem.W.Frag) : R2 := fun x y H Q => ∃ l k xs, x = .ref l ∧ y = .int k ∧ SqT K H l xs ∧ xs ≠ [] ∧ 2 ≤ k ∧ k ≤ 1000 ∧ xs.length ≤ 1000 ∧ Made H (List.replicate k.toNat xs).flatten Q
theorem op_repK : OpR X (binaryOp .Mult) (rRepK X.K) := fun pins s σ H x y v u Q I rx ry h => by
  obtain ⟨l, k, xs, rfl, rfl, hT, hne, h1, h2, hz, q⟩ := h
  have ev : v = .ref l := rx
  subst ev
  obtain ⟨t, rfl⟩ := ry
  obtain ⟨its, r, ⟨⟨cls, dd, data, sl⟩, ho, hc, n, hd⟩, _⟩ := I.tuple hT
  dsimp only at hc hd
  subst hc hd
  have len : its.toArray.size = xs.length := by rw [List.size_toArray, r.length]
  have pos : 0 < xs.length := List.length_pos_iff.mpr hne
  have room : k.toNat * xs.length ≤ 1000 * 1000 := Nat.mul_le_mul (by omega) hz
  have roomI : ((xs.length : Nat) : Int) * k ≤ 1000000 := by
    have e : ((xs.length : Nat) : Int) * k = ((k.toNat * xs.length : Nat) : Int) := by
      rw [Int.natCast_mul, Int.toNat_of_nonneg (by omega), Int.mul_comm]
    omega
  have line : 1000000 ≤ sizeLine := by rw [sizeLine_eq]; omega
  have full : its.toArray.isEmpty = false := by
    rw [Array.isEmpty, decide_eq_false_iff_not, len]; omega
  have c1 : (its.toArray.isEmpty || k == 1) = false := by rw [full, Bool.false_or]; exact beq_eq_false_iff_ne.mpr (by omega)
  have c0 : (decide (k < -(2 ^ 63)) || decide (k ≥ 2 ^ 63)) = false := by rw [Bool.or_eq_false_iff]; exact ⟨decide_eq_false (by omega), decide_eq_false (by omega)⟩
  have c2 : (decide (k ≤ 0) || its.toArray.isEmpty) = false := by rw [full, Bool.or_false]; exact decide_eq_false (by omega)
  have c4 : Builtin.Tuple.tupleTooMany (((its.toArray.size : Nat) : Int) * k) = false := by
    rw [len]
    exact decide_eq_false (by omega)
  have flat : (List.replicate k.toNat its).flatten.length ≤ sizeLine := by
    rw [PyProof.Rows.lm_len_rep_flat, ← r.length]; omega
  have mul := tuple_mulW l its.toArray n dd sl k t c0 c1 c2 (by rw [len]; omega) c4 (by rw [size_rep, List.size_toArray]; exact flat)
  have obj : s.TypeIs (.ref l) "tuple" := ⟨_, ho, rfl⟩
  refine wpAny_binaryOp_repeat_ref (T := "tuple") (U := "int") (by decide) obj (fun s' => typeIs_int s' k t) noFill_tuple_mul F.fills_int_mul F.slot_int_rmul repeat_tuple F.slot_int_index.lookup ?_
  refine call_meets F.slot_int_rmul (typeIs_int s k t) F.entry_int_rmul (F.args_int_rmul_2 _ _) (int_rmul_tuple k t l its.toArray n dd sl) ⟨ho, rfl, obj, ?_⟩
  refine call_meets F.slot_tuple_mul obj F.entry_tuple_mul (F.args_tuple_mul_2 _ _) mul ⟨ho, ?_⟩
  rw [size_rep]
  exact made_ok I (r.rep k.toNat) (by rw [PyProof.Rows.lm_len_rep_flat]; omega) q
end
end Pu

namespace Pu
open PySem PySem.Spec PyProof.Rows L2

/-! ### data: what may be compared -/
mutual
def toP : D → PyData
  | .non => .none
  | .bl b => .bool b
  | .int i => .int i
  | .str s => .str (Str.ofString s)
  | .tup xs => .tuple (toPs xs)
  | .lst xs => .list (toPs xs)
  | .frz xs => .list (toPs xs)
  | .dic _ => .none
  | .ref _ => .none
  | .ty _ => .none
  | .xc _ => .none
  | .lam _ _ _ _ _ => .none
  | .tux _ => .none
def toPs : List D → List PyData
  | [] => []
  | d :: ds => toP d :: toPs ds
end
mutual
def isD : D → Bool
  | .non | .bl _ | .int _ | .str _ => true
  | .tup xs => isDs xs
  | .lst xs => isDs xs
  | .frz xs => isDs xs
  | .dic _ | .ref _ | .ty _ | .xc _ | .tux _ | .lam _ _ _ _ _ => false
def isDs : List D → Bool
  | [] => true
  | d :: ds => isD d && isDs ds
end
mutual
def deep : D → Nat
  | .tup xs => deeps xs + 1
  | .lst xs => deeps xs + 1
  | .frz xs => deeps xs + 1
  | .dic kvs => deepk kvs + 1
  | _ => 0
def deeps : List D → Nat
  | [] => 0
  | d :: ds => max (deep d) (deeps ds)
def deepk : List (Sum Int String × D) → Nat
  | [] => 0
  | (_, d) :: ds => max (deep d) (deepk ds)
end
def eqv (a b : D) : Bool := PyData.eqv (toP a) (toP b)
/-- a list that changes, as it stands -/
def view (h : HH) (d : D) : D := match d with
  | .ref i => match h[i]? with
    | some (.lst xs) => .lst xs
    | _ => .ref i
  | d => d
/-- whether two things are alike, where it is plain -/
def isDc (h : HH) (d : D) : Bool := match d with
  | .dic _ => true
  | .tup _ => true
  | .lst _ => true
  | .ref i => match h[i]? with
    | some (.lst _) => true
    | some (.dic _) => true
    | _ => false
  | _ => false
def isS (d : D) : Bool := match d with
  | .str _ => true
  | _ => false
def sameE (h : HH) (a b : D) : Option Bool :=
  if isD (view h a) && isD (view h b) && decide (deep (view h a) ≤ 60) && decide (deep (view h b) ≤ 60) then some (eqv (view h a) (view h b))
  else if isS a && isDc h b then some false else if isDc h a && isS b then some false else none
def sameEs (h : HH) : List D → List D → Option (List Bool)
  | [], _ => some []
  | _, [] => some []
  | x :: xs, y :: ys => match sameE h x y, sameEs h xs ys with
    | some k, some ks => some (k :: ks)
    | _, _ => none
def seqA (h : HH) (d : D) : Option (Bool × List D) := match d with
  | .tup xs => some (true, xs)
  | .lst xs => some (false, xs)
  | .ref i => match h[i]? with
    | some (.lst xs) => some (false, xs)
    | _ => none
  | _ => none
def sameX (h : HH) (a b : D) : Option Bool := match seqA h a, seqA h b with
  | some (false, xs), some (false, ys) => if xs.length != ys.length then some false else none
  | some (true, xs), some (true, ys) => (sameEs h xs ys).map fun ks => ks.all id && xs.length == ys.length
  | _, _ => none
def same? (h : HH) (a b : D) : Option Bool :=
  if isD (view h a) && isD (view h b) && decide (deep (view h a) ≤ 60) && decide (deep (view h b) ≤ 60) then some (eqv (view h a) (view h b)) else sameX h a b

theorem strOk_of (s : String) : PyData.canLay0 (.str (Str.ofString s)) = true := by
  show PyData.strOk _ = true
  rw [Str.ofString_eq_toList]
  unfold PyData.strOk
  simp only [List.all_toArray, Array.all_toList, List.all_map, List.all_eq_true, Function.comp, decide_eq_true_eq]
  intro c _
  have h := c.valid
  simp only [UInt32.isValidChar, Nat.isValidChar] at h
  have : c.toNat = c.val.toNat := rfl
  omega
mutual
theorem toP_lay : ∀ d : D, isD d = true → PyData.canLay0 (toP d) = true
  | .non, _ => by unfold toP; rfl
  | .bl b, _ => by unfold toP; rfl
  | .int i, _ => by unfold toP; rfl
  | .str s, _ => by unfold toP; exact strOk_of s
  | .tup xs, h => by unfold toP; unfold isD at h; unfold PyData.canLay0; exact toPs_lay xs h
  | .lst xs, h => by unfold toP; unfold isD at h; unfold PyData.canLay0; exact toPs_lay xs h
  | .frz xs, h => by unfold toP; unfold isD at h; unfold PyData.canLay0; exact toPs_lay xs h
  | .dic _, h => by unfold isD at h; cases h
  | .ref _, h => by unfold isD at h; cases h
  | .ty _, h => by unfold isD at h; cases h
  | .xc _, h => by unfold isD at h; cases h
  | .lam _ _ _ _ _, h => by unfold isD at h; cases h
  | .tux _, h => by unfold isD at h; cases h
theorem toPs_lay : ∀ ds : List D, isDs ds = true → PyData.canLayAll0 (toPs ds) = true
  | [], _ => by unfold toPs; rfl
  | d :: ds, h => by
    unfold isDs at h
    rw [Bool.and_eq_true] at h
    unfold toPs PyData.canLayAll0
    rw [toP_lay d h.1, toPs_lay ds h.2]; rfl
end
mutual
theorem toP_deep : ∀ d : D, (toP d).depth ≤ deep d
  | .non | .bl b | .int i | .str s | .dic _ | .ref _ | .ty _ | .xc _ | .tux _ | .lam _ _ _ _ _ => by unfold toP; simp [PyData.depth]
  | .tup xs => by unfold toP; have := toPs_deep xs; simp only [PyData.depth, deep]; omega
  | .lst xs => by unfold toP; have := toPs_deep xs; simp only [PyData.depth, deep]; omega
  | .frz xs => by unfold toP; have := toPs_deep xs; simp only [PyData.depth, deep]; omega
theorem toPs_deep : ∀ ds : List D, PyData.depthAll (toPs ds) ≤ deeps ds
  | [] => by unfold toPs; simp [PyData.depthAll]
  | d :: ds => by unfold toPs; have := toPs_deep ds; have := toP_deep d; simp only [PyData.depthAll, deeps]; omega
end
theorem toP_shaped {d : D} (h : isD d = true) (z : deep d ≤ 64) : SeqAt.shaped (toP d) = true := by
  unfold SeqAt.shaped
  rw [toP_lay d h, Bool.true_and, decide_eq_true_eq]
  exact Nat.le_trans (toP_deep d) z
section
variable {K : PySem.W.Frag} {T : Tk} {H : Hp} {h : HH}
mutual
theorem rel_dp : ∀ (d : D) (v : V), isD d = true → rel K T H d v → Dp K H v (toP d)
  | .non, v, _, r => by unfold rel at r; unfold toP; subst r; exact .non
  | .bl b, v, _, r => by unfold rel at r; unfold toP; subst r; exact .bl b
  | .int i, v, _, r => by unfold rel at r; unfold toP; subst r; exact .int i
  | .str s, v, _, r => by unfold rel at r; unfold toP; subst r; exact .str _
  | .tup ds, v, h, r => by
    unfold rel at r; unfold toP; unfold isD at h
    obtain ⟨a, vs, e, s, q⟩ := r
    subst e; exact .tup s.sq (rels_dp ds vs h q)
  | .lst ds, v, h, r => by
    unfold rel at r; unfold toP; unfold isD at h
    obtain ⟨a, vs, e, s, n, q⟩ := r
    subst e; exact .lst (SqL.of s) (rels_dp ds vs h q)
  | .frz ds, v, h, r => by
    unfold rel at r; unfold toP; unfold isD at h
    obtain ⟨a, vs, e, s, q⟩ := r
    subst e; exact .lst (s.elim (fun s => .inl s.1) fun s => s H) (rels_dp ds vs h q)
  | .dic _, v, h, _ => by unfold isD at h; cases h
  | .ref _, v, h, _ => by unfold isD at h; cases h
  | .ty _, v, h, _ => by unfold isD at h; cases h
  | .xc _, v, h, _ => by unfold isD at h; cases h
  | .lam _ _ _ _ _, v, h, _ => by unfold isD at h; cases h
  | .tux _, v, h, _ => by unfold isD at h; cases h
theorem rels_dp : ∀ (ds : List D) (vs : List V), isDs ds = true → rels K T H ds vs → DpAll K H vs (toPs ds)
  | [], vs, _, r => by unfold rels at r; unfold toPs; subst r; exact .nil
  | d :: ds, vs, h, r => by
    unfold rels at r; unfold toPs; unfold isDs at h
    rw [Bool.and_eq_true] at h
    obtain ⟨v, t, e, r1, r2⟩ := r
    subst e; exact .cons (rel_dp d v h.1 r1) (rels_dp ds t h.2 r2)
end
/-- a list that changes, as a list -/
theorem rel_view (r : RelH K T H h) {d : D} {v : V} (q : rel K T H d v) (hd : isD (view h d) = true) : Dp K H v (toP (view h d)) := by
  cases d with
  | ref i =>
    unfold view at hd ⊢
    unfold rel at q
    obtain ⟨a, e, q⟩ := q
    dsimp only at hd ⊢
    split
    · rename_i xs e2
      obtain ⟨b, e3, vs, e4, rr⟩ := r.at_ i _ e2
      rw [q] at e3; cases e3
      rw [e2] at hd
      dsimp only at hd
      unfold isD at hd
      subst e
      unfold toP
      exact .lst (SqL.of e4) (rels_dp xs vs hd rr)
    · rename_i h1
      split at hd
      · rename_i xs e2; exact absurd e2 (h1 xs)
      · unfold isD at hd; cases hd
  | _ => exact rel_dp _ _ hd q
end

/-! ### operators by values -/
def rdO (X : Cx) (o : D → D → HH → R D) : R2 := fun x y H Q => ∃ T h a b, RelH X.K T H h ∧ rel X.K T H a x ∧ rel X.K T H b y ∧ match o a b h with
  | .ok d h' => ∀ T' H' v, Le T H T' H' → RelH X.K T' H' h' → rel X.K T' H' d v → Q v H'
  | _ => False
def noX (r : R D) : R D := match r with
  | .ok d h => .ok d h
  | _ => .stuck
def eOp (o : D → D → HH → R D) (f g : Ex) : Ex := fun env h => (f env h).bind fun a h1 => (g env h1).bind fun b h2 => noX (o a b h2)
section
variable {X : Cx} {W : WX} {a b : Expr} {f g : Ex} {pos : Pos} {o : D → D → HH → R D}
theorem rd_op {σ : L2.St} {H : Hp} {Q : VK} (h : rd X W (eOp o f g) σ H Q) : tOp (rdO X o) (rd X W f) (rd X W g) σ H Q := by
  obtain ⟨T, env, hh, r1, r2, a⟩ := h
  refine ⟨T, env, hh, r1, r2, a.bind r1.mut fun d h1 T1 H1 v _ l1 q1 rv a1 => ?_⟩
  refine ⟨T1, env, h1, q1, relE_mono l1 r1.mut r2, a1.bind q1.mut fun e h2 T2 H2 u _ l2 q2 ru a2 => ?_⟩
  refine ⟨T2, h2, d, e, q2, rel_mono l2 q1.mut d v rv, ru, ?_⟩
  revert a2
  cases o d e h2 with
  | ok d' h' => exact fun a2 T' H' v' l r q => a2 T' H' v' l r q
  | exc c h' => exact fun a2 => a2
  | stuck => exact fun a2 => a2
theorem se_op {op : Operator} (ho : OpR X (binaryOp op) (rdO X o)) (ha : SE X W a f) (hb : SE X W b g) : SE X W (.BinOp a op b pos) (eOp o f g) :=
  PE.mono (pe_op ho ha hb) fun _ _ _ => rd_op
theorem se_cmp {op : CmpOp} (ho : OpR X (compareOp op) (rdO X o)) (ha : SE X W a f) (hb : SE X W b g) (hm : behindInMarks op b = false := by first | exact nomark _ | rfl) : SE X W (.Compare a [op] [b] pos) (eOp o f g) :=
  PE.mono (pe_cmpR ho ha hb hm) fun _ _ _ => rd_op
theorem OpR.mono {f : Value → Value → Sem Value} {r r' : R2} (h : OpR X f r) (i : ∀ x y H Q, r' x y H Q → r x y H Q) : OpR X f r' :=
  fun pins s σ H x y v u Q I rx ry q => h pins s σ H x y v u Q I rx ry (i x y H Q q)
end
section
open PySem.SeqAt MeetsSeq
open AutoSeq1 (wpAny_loadPart')
/-! ### a dict in a tuple of texts -/
theorem str_declines_dict (b : Str) (u : Tok) (l : Addr) (o : Obj) (es : Array DictEntry) (ep : Nat) (hd : o.data = .dict es ep) :
    Meets (Builtin.«str.__eq__» ⟨[.str b u, .ref l], []⟩) (fun _ R s => s.heap.get? l = some o ∧ R (.ok (.ret .notImplemented)) s) :=
  .of_wp fun prog w A R s h => by obtain ⟨cls, dd, data, sl⟩ := o; simp only at hd; subst hd; obtain ⟨hp, g, d, tk, os⟩ := s; obtain ⟨hl, h⟩ := h; wp_walk using wpAny_loadPart' hl, wpAny_load hl; exact ⟨_, rfl, h⟩
theorem dict_declines_str {prog : Program} {w : World} {A : Around} {E : Value → Shared → Prop} {Q : Value → Shared → Prop} {s : Shared} {l : Addr} (b : Str) (u : Tok) (hl : s.TypeIs (.ref l) "dict") (h : Q .notImplemented s) :
    wpAny (model prog w) A (call (.builtin "dict.__eq__") [.ref l, .str b u]) Q E s := by
  refine wpAny_call_entry PySem.F.slot_dict_eq hl PySem.F.entry_dict_eq ?_ (PySem.F.args_dict_eq_2 _ _)
  show wpAny _ _ (Builtin.Dict.dictSlotArgs "__eq__" ⟨[.ref l, .str b u], []⟩ >>= _) _ _ s
  refine wpAny_bind ?_
  unfold Builtin.Dict.dictSlotArgs
  refine wpAny_bind (wpAny_notOrdered_dict hl ?_)
  refine wpAny_pure ?_
  refine wpAny_bind (wpAny_isInstance (T := "str") (typeIs_str s b u) PySem.F.sub_str_dict ?_)
  simp only [Bool.not_false, if_true]
  refine wpAny_bind (wpAny_rule ?_)
  refine wpAny_bind (wpAny_pure (wpAny_pure ?_))
  exact ⟨_, rfl, h⟩
theorem EqAt.str_dict {A : Around} {s : Shared} {l : Addr} {o : Obj} {es : Array DictEntry} {ep : Nat} (b : Str) (u : Tok) (ho : s.heap.get? l = some o) (hx : o.ExactDict) (hd : o.data = .dict es ep) (hu : A.units < cLine) : EqAt A s (.str b u) (.ref l) false := fun prog w E Q h => by
  have ht : s.TypeIs (.ref l) "dict" := ⟨o, ho, hx.1⟩
  unfold eqBool
  refine wpAny_holding ?_
  refine wpAny_ite_split (fun hab => absurd (eq_of_beq hab) nofun) (fun _ => ?_)
  refine wpAny_bind (rc_eq_decline_or (k := false) (typeIs_str s b u) ht (by decide) F.sub_dict_str F.slot_str_eq F.slot_dict_eq_refl ?_ ?_ ?_ (.inr hu) (wpAny_truthy_bool h))
  · exact fun _ hq => call_meets F.slot_str_eq (typeIs_str s b u) F.entry_str_eq (F.args_str_eq_2 _ _) (str_declines_dict b u l o es ep hd) ⟨ho, hq⟩
  · exact fun _ hq => dict_declines_str b u ht hq
  · exact fun _ hq => wpAny_of_eq (rfl : isSame (.str b u) (.ref l) = pure false) hq


theorem EqAt.dict_str {A : Around} {s : Shared} {l : Addr} {o : Obj} {es : Array DictEntry} {ep : Nat} (b : Str) (u : Tok) (ho : s.heap.get? l = some o) (hx : o.ExactDict) (hd : o.data = .dict es ep) (hu : A.units < cLine) : EqAt A s (.ref l) (.str b u) false := fun prog w E Q h => by
  have ht : s.TypeIs (.ref l) "dict" := ⟨o, ho, hx.1⟩
  unfold eqBool
  refine wpAny_holding ?_
  refine wpAny_ite_split (fun hab => absurd (eq_of_beq hab) nofun) (fun _ => ?_)
  refine wpAny_bind (rc_eq_decline_or (k := false) ht (typeIs_str s b u) (by decide) F.sub_str_dict F.slot_dict_eq F.slot_str_eq_refl ?_ ?_ ?_ (.inr hu) (wpAny_truthy_bool h))
  · exact fun _ hq => dict_declines_str b u ht hq
  · exact fun _ hq => call_meets F.slot_str_eq_refl (typeIs_str s b u) F.entry_str_eq (F.args_str_eq_2 _ _) (str_declines_dict b u l o es ep hd) ⟨ho, hq⟩
  · exact fun _ hq => wpAny_of_eq (rfl : isSame (.ref l) (.str b u) = pure false) hq
def AnyO (K : PySem.W.Frag) (H : Hp) (a : Addr) : Prop := (∃ kvs, H a = some (.dK kvs)) ∨ (∃ vs, SqL K H a vs) ∨ ∃ vs, SqT K H a vs
section
variable {X : Cx}
theorem anyO_eq {pins : List (Addr × Obj)} {σ : L2.St} {H : Hp} {s : Shared} {A : Around} (I : Inv X pins σ H s) {a : Addr} (ha : AnyO X.K H a) (hu : A.units < cLine) (b : Str) (t : Tok) : EqAt A s (.str b t) (.ref a) false := by
  rcases ha with ⟨kvs, ha⟩ | ⟨vs, ha⟩ | ⟨vs, ha⟩
  · obtain ⟨_, ya, va, ra, o, es, ep, ho, hx, hd, _⟩ := (show ObjOk X.prog X.w H s.heap a (.dK kvs) from I.hok a _ ha)
    exact EqAt.str_dict b t ho hx hd hu
  · obtain ⟨its, r, pl, hz⟩ := I.list ha
    exact EqAt.str_list b t pl.isList hu
  · obtain ⟨its, r, pl, hz⟩ := I.tuple ha
    exact EqAt.str_tuple b t pl hu
theorem anyO_eq2 {pins : List (Addr × Obj)} {σ : L2.St} {H : Hp} {s : Shared} {A : Around} (I : Inv X pins σ H s) {a : Addr} (ha : AnyO X.K H a) (hu : A.units < cLine) (b : Str) (t : Tok) : EqAt A s (.ref a) (.str b t) false := by
  rcases ha with ⟨kvs, ha⟩ | ⟨vs, ha⟩ | ⟨vs, ha⟩
  · obtain ⟨_, ya, va, ra, o, es, ep, ho, hx, hd, _⟩ := (show ObjOk X.prog X.w H s.heap a (.dK kvs) from I.hok a _ ha)
    exact EqAt.dict_str b t ho hx hd hu
  · obtain ⟨its, r, pl, hz⟩ := I.list ha
    exact EqAt.list_str b t pl.isList hu
  · obtain ⟨its, r, pl, hz⟩ := I.tuple ha
    exact EqAt.tuple_str b t pl hu
/-- whether one thing is alike another, told -/
def EqV (K : PySem.W.Frag) (H : Hp) (x y : V) (k : Bool) : Prop := (∃ d e, Dp K H x d ∧ Dp K H y e ∧ SeqAt.shaped d = true ∧ SeqAt.shaped e = true ∧ k = PyData.eqv d e) ∨
  (∃ t a, x = .str t ∧ y = .ref a ∧ AnyO K H a ∧ k = false) ∨ (∃ t a, x = .ref a ∧ y = .str t ∧ AnyO K H a ∧ k = false)
theorem eqV_at {pins : List (Addr × Obj)} {σ : L2.St} {H : Hp} {s : Shared} {A : Around} (I : Inv X pins σ H s) {x y : V} {v u : Value} {k : Bool} (e : EqV X.K H x y k) (rx : RelV x v) (ry : RelV y u) (hu : A.units + 64 < cLine) : EqAt A s v u k := by
  rcases e with ⟨d, e, hd, he, sd, se, rfl⟩ | ⟨t, a, rfl, rfl, ha, rfl⟩ | ⟨t, a, rfl, rfl, ha, rfl⟩
  · obtain ⟨as, r1⟩ := Dp.reads I d x v hd rx
    obtain ⟨bs, r2⟩ := Dp.reads I e y u he ry
    exact eqAt_reads d e A s v u _ _ r1 r2 (canLay_of_shaped sd) (canLay_of_shaped se) (room_of_shaped sd hu)
  · obtain ⟨t', rfl⟩ := rx
    obtain rfl : u = Value.ref a := ry
    exact anyO_eq I ha (by omega) _ _
  · obtain ⟨t', rfl⟩ := ry
    obtain rfl : v = Value.ref a := rx
    exact anyO_eq2 I ha (by omega) _ _
inductive EqVs (K : PySem.W.Frag) (H : Hp) : List V → List V → List Bool → Prop
  | nl {ys : List V} : EqVs K H [] ys []
  | nr {xs : List V} : EqVs K H xs [] []
  | cons {x y : V} {k : Bool} {xs ys : List V} {ks : List Bool} : EqV K H x y k → EqVs K H xs ys ks → EqVs K H (x :: xs) (y :: ys) (k :: ks)
theorem EqVs.len {K : PySem.W.Frag} {H : Hp} {xs ys : List V} {ks : List Bool} (e : EqVs K H xs ys ks) : ks.length = min xs.length ys.length := by
  induction e with
  | nl => simp
  | nr => simp
  | cons _ _ ih => simp only [List.length_cons]; omega
theorem eqVs_at {pins : List (Addr × Obj)} {σ : L2.St} {H : Hp} {s : Shared} {A : Around} (I : Inv X pins σ H s) {xs ys : List V} {ks : List Bool} (e : EqVs X.K H xs ys ks) (hu : A.units + 64 < cLine) :
    ∀ {vs us : List Value}, Vals xs vs → Vals ys us → ∀ j (h1 : j < vs.length) (h2 : j < us.length), EqAt A s vs[j] us[j] (ks.getD j true) := by
  induction e with
  | nl => intro vs us r1 r2 j h1 h2; cases r1; exact absurd h1 (Nat.not_lt_zero _)
  | nr => intro vs us r1 r2 j h1 h2; cases r2; exact absurd h2 (Nat.not_lt_zero _)
  | cons q _ ih =>
    intro vs us r1 r2 j h1 h2
    cases r1 with
    | cons a1 t1 =>
      cases r2 with
      | cons a2 t2 =>
        cases j with
        | zero => exact eqV_at I q a1 a2 hu
        | succ j => exact ih t1 t2 j (by simpa using h1) (by simpa using h2)
theorem all_getD : ∀ ks : List Bool, ((List.range ks.length).all fun j => ks.getD j true) = ks.all id
  | [] => rfl
  | k :: ks => by
    rw [List.length_cons, List.range_succ_eq_map, List.all_cons, List.all_map]
    have := all_getD ks
    simp only [List.all_cons, id]
    rw [← this]
    rfl
def rEqX (K : PySem.W.Frag) (neg : Bool) : R2 := fun x y H Q => (∃ p q xs ys, x = .ref p ∧ y = .ref q ∧ SqL K H p xs ∧ SqL K H q ys ∧ (xs.length != ys.length) = true ∧ Q (.bl neg) H) ∨
  ∃ p q xs ys ks, x = .ref p ∧ y = .ref q ∧ SqT K H p xs ∧ SqT K H q ys ∧ EqVs K H xs ys ks ∧ Q (.bl (if neg then !(ks.all id && xs.length == ys.length) else ks.all id && xs.length == ys.length)) H
theorem op_eqX (hu : X.A.units + 65 < cLine) : OpR X (compareOp .Eq) (rEqX X.K false) := by
  intro pins s σ H x y v u Q I rx ry h
  have hu1 : X.A.in1.units + 64 < cLine := by simp only [Around.in1]; omega
  rcases h with ⟨p, q, xs, ys, rfl, rfl, h1, h2, hl, hq⟩ | ⟨p, q, xs, ys, ks, rfl, rfl, h1, h2, he, hq⟩
  · obtain rfl : v = Value.ref p := rx
    obtain rfl : u = Value.ref q := ry
    obtain ⟨is, r1, p1, _⟩ := I.list h1
    obtain ⟨js, r2, p2, _⟩ := I.list h2
    refine RcAt.lists_lengths p1.isList p2.isList ?_ (by omega) _ _ _ _ ⟨.bl false, H, I, rfl, hq⟩
    simpa [← r1.length, ← r2.length] using hl
  · obtain rfl : v = Value.ref p := rx
    obtain rfl : u = Value.ref q := ry
    obtain ⟨is, r1, p1, _⟩ := I.tuple h1
    obtain ⟨js, r2, p2, _⟩ := I.tuple h2
    refine RcAt.tuples (e := fun j => ks.getD j true) p1 p2 (by omega) (fun j h1 h2 => eqVs_at I he hu1 r1 r2 j (by simpa using h1) (by simpa using h2)) _ _ _ _ ⟨.bl _, H, I, rfl, ?_⟩
    have e1 : is.toArray.size = xs.length := by simp [r1.length]
    have e2 : js.toArray.size = ys.length := by simp [r2.length]
    rw [e1, e2, ← he.len, all_getD]
    exact hq
theorem op_neX (hu : X.A.units + 65 < cLine) : OpR X (compareOp .NotEq) (rEqX X.K true) := by
  intro pins s σ H x y v u Q I rx ry h
  have hu1 : X.A.in1.units + 64 < cLine := by simp only [Around.in1]; omega
  rcases h with ⟨p, q, xs, ys, rfl, rfl, h1, h2, hl, hq⟩ | ⟨p, q, xs, ys, ks, rfl, rfl, h1, h2, he, hq⟩
  · obtain rfl : v = Value.ref p := rx
    obtain rfl : u = Value.ref q := ry
    obtain ⟨is, r1, p1, _⟩ := I.list h1
    obtain ⟨js, r2, p2, _⟩ := I.list h2
    refine RcNeAt.lists_lengths p1.isList p2.isList ?_ (by omega) _ _ _ _ ⟨.bl true, H, I, rfl, hq⟩
    simpa [← r1.length, ← r2.length] using hl
  · obtain rfl : v = Value.ref p := rx
    obtain rfl : u = Value.ref q := ry
    obtain ⟨is, r1, p1, _⟩ := I.tuple h1
    obtain ⟨js, r2, p2, _⟩ := I.tuple h2
    refine RcNeAt.tuples (e := fun j => ks.getD j true) p1 p2 (by omega) (fun j h1 h2 => eqVs_at I he hu1 r1 r2 j (by simpa using h1) (by simpa using h2)) _ _ _ _ ⟨.bl _, H, I, rfl, ?_⟩
    have e1 : is.toArray.size = xs.length := by simp [r1.length]
    have e2 : js.toArray.size = ys.length := by simp [r2.length]
    rw [e1, e2, ← he.len, all_getD]
    exact hq
end
end
theorem rel_isDc {K : PySem.W.Frag} {T : Tk} {H : Hp} {h : HH} (r : RelH K T H h) {d : D} {v : V} (q : rel K T H d v) (e : isDc h d = true) : ∃ a, v = .ref a ∧ AnyO K H a := by
  unfold isDc at e
  split at e
  · unfold rel at q
    obtain ⟨a, vs, rfl, s, n, rk⟩ := q
    exact ⟨a, rfl, .inl ⟨vs, s⟩⟩
  · unfold rel at q
    obtain ⟨a, vs, rfl, s, rk⟩ := q
    exact ⟨a, rfl, .inr (.inr ⟨vs, s.sq⟩)⟩
  · unfold rel at q
    obtain ⟨a, vs, rfl, s, n, rk⟩ := q
    exact ⟨a, rfl, .inr (.inl ⟨vs, SqL.of s⟩)⟩
  · unfold rel at q
    obtain ⟨a, rfl, e2⟩ := q
    split at e
    · rename_i o e3
      obtain ⟨b, e4, q⟩ := r.at_ _ _ e3
      rw [e2] at e4; cases e4
      obtain ⟨vs, q, _⟩ := q
      exact ⟨a, rfl, .inr (.inl ⟨vs, SqL.of q⟩)⟩
    · rename_i o e3
      obtain ⟨b, e4, q⟩ := r.at_ _ _ e3
      rw [e2] at e4; cases e4
      obtain ⟨vs, q, _⟩ := q
      exact ⟨a, rfl, .inl ⟨vs, q⟩⟩
    · cases e
  · cases e
section
variable {X : Cx} {T : Tk} {H : Hp} {h : HH}
theorem sameE_sound (r : RelH X.K T H h) {a b : D} {x y : V} {k : Bool} (ra : rel X.K T H a x) (rb : rel X.K T H b y) (e : sameE h a b = some k) : EqV X.K H x y k := by
  unfold sameE at e
  split at e
  · rename_i hc
    simp only [Bool.and_eq_true, decide_eq_true_eq] at hc
    cases e
    exact .inl ⟨_, _, rel_view r ra hc.1.1.1, rel_view r rb hc.1.1.2, toP_shaped hc.1.1.1 (by omega), toP_shaped hc.1.1.2 (by omega), rfl⟩
  · split at e
    · rename_i hc
      cases e
      rw [Bool.and_eq_true] at hc
      obtain ⟨a', e3, s⟩ := rel_isDc r rb hc.2
      obtain ⟨h1, _⟩ := hc
      cases a <;> first | exact .inr (.inl ⟨_, a', (by unfold rel at ra; exact ra), e3, s, rfl⟩) | cases h1
    · split at e
      · rename_i hc
        cases e
        rw [Bool.and_eq_true] at hc
        obtain ⟨a', e3, s⟩ := rel_isDc r ra hc.1
        obtain ⟨_, h1⟩ := hc
        cases b <;> first | exact .inr (.inr ⟨_, a', e3, (by unfold rel at rb; exact rb), s, rfl⟩) | cases h1
      · cases e
theorem sameEs_sound (r : RelH X.K T H h) : ∀ {xs ys : List D} {vs us : List V} {ks : List Bool}, rels X.K T H xs vs → rels X.K T H ys us → sameEs h xs ys = some ks → EqVs X.K H vs us ks
  | [], ys, vs, us, ks, ra, rb, e => by
    unfold rels at ra; subst ra
    unfold sameEs at e; cases e
    exact .nl
  | x :: xs, [], vs, us, ks, ra, rb, e => by
    unfold rels at rb; subst rb
    unfold sameEs at e; cases e
    exact .nr
  | x :: xs, y :: ys, vs, us, ks, ra, rb, e => by
    unfold rels at ra rb
    obtain ⟨v, t, rfl, r1, r2⟩ := ra
    obtain ⟨u, t', rfl, r3, r4⟩ := rb
    unfold sameEs at e
    split at e
    · rename_i k ks' e1 e2
      cases e
      exact .cons (sameE_sound r r1 r3 e1) (sameEs_sound r r2 r4 e2)
    · cases e
theorem seqA_sound (r : RelH X.K T H h) {d : D} {v : V} {k : Bool} {xs : List D} (q : rel X.K T H d v) (e : seqA h d = some (k, xs)) : ∃ a vs, v = .ref a ∧ rels X.K T H xs vs ∧ (if k then SqT X.K H a vs else SqL X.K H a vs) := by
  unfold seqA at e
  split at e
  · cases e
    unfold rel at q
    obtain ⟨a, vs, rfl, s, rr⟩ := q
    exact ⟨a, vs, rfl, rr, s.sq⟩
  · cases e
    unfold rel at q
    obtain ⟨a, vs, rfl, s, n, rr⟩ := q
    exact ⟨a, vs, rfl, rr, SqL.of s⟩
  · unfold rel at q
    obtain ⟨a, rfl, e2⟩ := q
    split at e
    · rename_i xs e3
      cases e
      obtain ⟨b, e4, vs, e5, rr⟩ := r.at_ _ _ e3
      rw [e2] at e4; cases e4
      exact ⟨a, vs, rfl, rr, SqL.of e5⟩
    · cases e
  · cases e
theorem sameX_sound (r : RelH X.K T H h) {a b : D} {x y : V} {k : Bool} (ra : rel X.K T H a x) (rb : rel X.K T H b y) (e : sameX h a b = some k) {neg : Bool} {Q : VK} (q : Q (.bl (if neg then !k else k)) H) : rEqX X.K neg x y H Q := by
  unfold sameX at e
  split at e
  · rename_i xs ys e1 e2
    split at e
    · rename_i hl
      cases e
      obtain ⟨p, vs, rfl, rr1, s1⟩ := seqA_sound r ra e1
      obtain ⟨p', us, rfl, rr2, s2⟩ := seqA_sound r rb e2
      refine .inl ⟨p, p', vs, us, rfl, rfl, s1, s2, ?_, by cases neg <;> exact q⟩
      rw [rels_length rr1, rels_length rr2]
      exact hl
    · cases e
  · rename_i xs ys e1 e2
    cases e3 : sameEs h xs ys with
    | none => rw [e3] at e; cases e
    | some ks =>
      rw [e3] at e
      cases e
      obtain ⟨p, vs, rfl, rr1, s1⟩ := seqA_sound r ra e1
      obtain ⟨p', us, rfl, rr2, s2⟩ := seqA_sound r rb e2
      refine .inr ⟨p, p', vs, us, ks, rfl, rfl, s1, s2, sameEs_sound r rr1 rr2 e3, ?_⟩
      rw [rels_length rr1, rels_length rr2]
      exact q
  · cases e
end
end Pu

namespace Pu
open PySem PySem.Spec PyProof.Rows L2

def sz : Nat := 16777216
/-- the list that d is -/
def lview (h : HH) (d : D) : Option (List D) := match d with
  | .lst xs => some xs
  | .ref i => match h[i]? with
    | some (.lst xs) => some xs
    | _ => none
  | _ => none
def opAdd (a b : D) (h : HH) : R D := match a, b with
  | .int i, .int j => .ok (.int (i + j)) h
  | .str s, .str t => if s.length + t.length ≤ sz then .ok (.str (s ++ t)) h else .stuck
  | .tup xs, .tup ys => if xs.length + ys.length ≤ sz then .ok (.tup (xs ++ ys)) h else .stuck
  | a, b => match lview h a, lview h b with
    | some xs, some ys => if xs.length + ys.length ≤ sz then .ok (.lst (xs ++ ys)) h else .stuck
    | _, _ => .stuck
def opSub (a b : D) (h : HH) : R D := match a, b with
  | .int i, .int j => .ok (.int (i - j)) h
  | _, _ => .stuck
@[irreducible] def p64 : Int := 18446744073709551616
def opMul (a b : D) (h : HH) : R D := match a, b with
  | .int i, .int j => if (-p64 < i ∧ i < p64) ∨ (-p64 < j ∧ j < p64) then .ok (.int (i * j)) h else .stuck
  | .tup xs, .int j => if xs.length ≠ 0 ∧ xs.length ≤ 1000 ∧ 2 ≤ j ∧ j ≤ 1000 then .ok (.tup (List.replicate j.toNat xs).flatten) h else .stuck
  | _, _ => .stuck
@[irreducible] def pDv : Int := 2 ^ 250
def opDiv (a b : D) (h : HH) : R D := match a, b with
  | .int i, .int j => if 0 < j ∧ j < pDv then .ok (.int (i / j)) h else .stuck
  | _, _ => .stuck
def opMod (a b : D) (h : HH) : R D := match a, b with
  | .int i, .int j => if 0 < j then .ok (.int (i % j)) h else .stuck
  | _, _ => .stuck
def opPow (a b : D) (h : HH) : R D := match a, b with
  | .int i, .int j => if (0 ≤ j ∧ j ≤ 1000000) ∧ (-p64 < i ∧ i < p64) then .ok (.int (i ^ j.toNat)) h else .stuck
  | _, _ => .stuck
def opShl (a b : D) (h : HH) : R D := match a, b with
  | .int i, .int j => if (0 ≤ j ∧ j ≤ 1000000) ∧ (-p64 < i ∧ i < p64) then .ok (.int (i * 2 ^ j.toNat)) h else .stuck
  | _, _ => .stuck
def opShr (a b : D) (h : HH) : R D := match a, b with
  | .int i, .int j => if 0 ≤ j then .ok (.int (i / 2 ^ j.toNat)) h else .stuck
  | _, _ => .stuck
def opCmp (p : Int → Int → Bool) (q : List Nat → List Nat → Bool) (a b : D) (h : HH) : R D := match a, b with
  | .int i, .int j => .ok (.bl (p i j)) h
  | .str s, .str t => .ok (.bl (q (s.toList.map Char.toNat) (t.toList.map Char.toNat))) h
  | _, _ => .stuck
def opEq (a b : D) (h : HH) : R D := match same? h a b with
  | some k => .ok (.bl k) h
  | none => .stuck
def opNe (a b : D) (h : HH) : R D := match same? h a b with
  | some k => .ok (.bl (!k)) h
  | none => .stuck
def opIs (a b : D) (h : HH) : R D := match a, b with
  | .bl i, .bl j => .ok (.bl (i == j)) h
  | .non, .non => .ok (.bl true) h
  | _, .non => .ok (.bl false) h
  | _, _ => .stuck
def opIsNot (a b : D) (h : HH) : R D := match a, b with
  | .bl i, .bl j => .ok (.bl (!(i == j))) h
  | .non, .non => .ok (.bl false) h
  | _, .non => .ok (.bl true) h
  | _, _ => .stuck

section
variable {X : Cx} {W : WX}
theorem rdO_ok {r : R D} {P : D → HH → Prop} (q : match r with | .ok d h' => P d h' | _ => False) : ∃ d h', r = .ok d h' ∧ P d h' := by
  cases r with
  | ok d h => exact ⟨d, h, rfl, q⟩
  | exc c h => exact q.elim
  | stuck => exact q.elim
theorem rel_int_iff {K T H i v} : rel K T H (.int i) v ↔ v = .int i := by unfold rel; exact Iff.rfl
theorem rel_bl_iff {K T H i v} : rel K T H (.bl i) v ↔ v = .bl i := by unfold rel; exact Iff.rfl
theorem rel_str_iff {K T H i v} : rel K T H (.str i) v ↔ v = .str (Str.ofString i) := by unfold rel; exact Iff.rfl
theorem rel_non_iff {K T H v} : rel K T H .non v ↔ v = .non := by unfold rel; exact Iff.rfl
theorem ofStr_len (s : String) : (Str.ofString s).length = s.length := PySem.ofString_length s
theorem ofStr_app (s t : String) : Str.ofString s ++ Str.ofString t = Str.ofString (s ++ t) := by
  show Str.append _ _ = _
  unfold Str.append
  rw [Str.ofString_eq_toList, Str.ofString_eq_toList, Str.ofString_eq_toList]
  simp [String.toList_append]
theorem ofStr_inj {s t : String} (h : Str.ofString s = Str.ofString t) : s = t := by
  rw [Str.ofString_eq_toList, Str.ofString_eq_toList] at h
  have h2 : s.toList.map Char.toNat = t.toList.map Char.toNat := by simpa using h
  have h3 : s.toList = t.toList := by
    have e0 : (Char.ofNat ∘ Char.toNat) = id := by funext c; simp
    have := congrArg (List.map Char.ofNat) h2
    rw [List.map_map, List.map_map, e0, List.map_id, List.map_id] at this
    exact this
  exact String.toList_inj.mp h3
theorem rel_lview {K T H h} (r : RelH K T H h) {d : D} {v : V} {xs : List D} (q : rel K T H d v) (e : lview h d = some xs) : ∃ a vs, v = .ref a ∧ H a = some (.lst vs) ∧ rels K T H xs vs := by
  unfold lview at e
  split at e
  · cases e
    unfold rel at q
    obtain ⟨a, vs, e, s, n, q⟩ := q
    exact ⟨a, vs, e, s, q⟩
  · unfold rel at q
    obtain ⟨a, e1, q⟩ := q
    split at e
    · rename_i xs' e2
      cases e
      obtain ⟨b, e3, vs, e4, rr⟩ := r.at_ _ _ e2
      rw [q] at e3; cases e3
      exact ⟨a, vs, e1, e4, rr⟩
    · cases e
  · cases e
/-- one of two int rules -/
theorem rdO_I {o : D → D → HH → R D} {C : Int → Int → Prop} {g : Int → Int → V} {g' : Int → Int → D} (hg : ∀ T H i j, rel X.K T H (g' i j) (g i j))
    (ho : ∀ a b h d h', o a b h = .ok d h' → ∃ i j, a = .int i ∧ b = .int j ∧ C i j ∧ d = g' i j ∧ h' = h) {x y : V} {H : Hp} {Q : VK} (q0 : rdO X o x y H Q) : rI C g x y H Q := by
  obtain ⟨T, h, a, b, r, ra, rb, q0⟩ := q0
  obtain ⟨d, h', e, q⟩ := rdO_ok (P := fun d h' => ∀ T' H' v, Le T H T' H' → RelH X.K T' H' h' → rel X.K T' H' d v → Q v H') q0
  obtain ⟨i, j, rfl, rfl, c, rfl, rfl⟩ := ho _ _ _ _ _ e
  exact ⟨i, j, rel_int_iff.mp ra, rel_int_iff.mp rb, c, q T H _ Le.refl r (hg T H i j)⟩
theorem o_sub : OpR X (binaryOp .Sub) (rdO X opSub) := OpR.mono op_sub fun x y H Q q => by
  obtain ⟨i, j, h1, h2, _, h3⟩ := rdO_I (C := fun _ _ => True) (g := fun i j => .int (i - j)) (g' := fun i j => .int (i - j)) (fun _ _ _ _ => rel_int_iff.mpr rfl) (fun a b h d h' e => by
    unfold opSub at e; split at e
    · cases e; exact ⟨_, _, rfl, rfl, trivial, rfl, rfl⟩
    · cases e) q
  exact ⟨i, j, h1, h2, h3⟩
theorem p64_eq : p64 = 2 ^ 64 := by unfold p64; decide
theorem rels_rep {K T H} {ds : List D} {vs : List V} (r : rels K T H ds vs) : ∀ n : Nat, rels K T H (List.replicate n ds).flatten (List.replicate n vs).flatten
  | 0 => rels_nil
  | n + 1 => by
    rw [List.replicate_succ, List.replicate_succ, List.flatten_cons, List.flatten_cons]
    exact rels_append r (rels_rep r n)
theorem o_mul : OpR X (binaryOp .Mult) (rdO X opMul) := OpR.mono (op_mul.or op_repK) fun x y H Q q => by
  obtain ⟨T, h, a, b, r, ra, rb, q⟩ := q
  obtain ⟨d, h', e, q⟩ := rdO_ok q
  unfold opMul at e
  split at e
  · split at e
    · rename_i hc
      cases e
      rw [p64_eq] at hc
      refine .inl ⟨_, _, rel_int_iff.mp ra, rel_int_iff.mp rb, hc, q T H _ Le.refl r (rel_int_iff.mpr rfl)⟩
    · cases e
  · split at e
    · rename_i xs j hc
      cases e
      unfold rel at ra
      obtain ⟨p1, vs, rfl, s1, rv⟩ := ra
      have l1 := rels_length rv
      refine .inr ⟨p1, j, vs, rfl, rel_int_iff.mp rb, s1.sq, fun e0 => hc.1 (by rw [← l1, e0]; rfl), hc.2.2.1, hc.2.2.2, by rw [l1]; exact hc.2.1, fun p o hp ho => ?_⟩
      exact q T (upd H p (.frz o (.tup (List.replicate j.toNat vs).flatten))) _ (Le.new hp) (r.new hp) (rel_tup upd_same ho (rels_mono (Le.new hp) r.mut _ _ (rels_rep rv _)))
    · cases e
  · cases e
theorem o_div : OpR X (binaryOp .FloorDiv) (rdO X opDiv) := OpR.mono op_fdivW fun x y H Q q =>
  rdO_I (C := CDivW) (g := fun i j => .int (i / j)) (g' := fun i j => .int (i / j)) (fun _ _ _ _ => rel_int_iff.mpr rfl) (fun a b h d h' e => by
    unfold opDiv at e; split at e
    · split at e
      · rename_i i j hc
        have hb : j.natAbs < 2 ^ 250 := by
          have h1 : (j.natAbs : Int) = j := Int.natAbs_of_nonneg (Int.le_of_lt hc.1)
          have h2 := hc.2
          unfold pDv at h2
          have h3 : ((2 ^ 250 : Nat) : Int) = 2 ^ 250 := by norm_cast
          omega
        cases e; exact ⟨_, _, rfl, rfl, wide_div hc.1 hb (by decide) (by decide), rfl, rfl⟩
      · cases e
    · cases e) q
theorem o_mod : OpR X (binaryOp .Mod) (rdO X opMod) := OpR.mono op_mod fun x y H Q q =>
  rdO_I (C := fun _ j => 0 < j) (g := fun i j => .int (i % j)) (g' := fun i j => .int (i % j)) (fun _ _ _ _ => rel_int_iff.mpr rfl) (fun a b h d h' e => by
    unfold opMod at e; split at e
    · split at e
      · rename_i hc
        cases e; exact ⟨_, _, rfl, rfl, hc, rfl, rfl⟩
      · cases e
    · cases e) q
theorem nat64 {i : Int} (h1 : -p64 < i) (h2 : i < p64) : i.natAbs < 2 ^ 64 := by unfold p64 at h1 h2; omega
theorem o_pow : OpR X (binaryOp .Pow) (rdO X opPow) := OpR.mono op_pow fun x y H Q q =>
  rdO_I (C := CPow) (g := fun i j => .int (i ^ j.toNat)) (g' := fun i j => .int (i ^ j.toNat)) (fun _ _ _ _ => rel_int_iff.mpr rfl) (fun a b h d h' e => by
    unfold opPow at e; split at e
    · split at e
      · rename_i hc
        cases e; exact ⟨_, _, rfl, rfl, ⟨hc.1.1, hc.1.2, nat64 hc.2.1 hc.2.2⟩, rfl, rfl⟩
      · cases e
    · cases e) q
theorem o_shl : OpR X (binaryOp .LShift) (rdO X opShl) := OpR.mono op_shl fun x y H Q q =>
  rdO_I (C := CPow) (g := fun i j => .int (i * 2 ^ j.toNat)) (g' := fun i j => .int (i * 2 ^ j.toNat)) (fun _ _ _ _ => rel_int_iff.mpr rfl) (fun a b h d h' e => by
    unfold opShl at e; split at e
    · split at e
      · rename_i hc
        cases e; exact ⟨_, _, rfl, rfl, ⟨hc.1.1, hc.1.2, nat64 hc.2.1 hc.2.2⟩, rfl, rfl⟩
      · cases e
    · cases e) q
theorem o_shr : OpR X (binaryOp .RShift) (rdO X opShr) := OpR.mono op_shr fun x y H Q q =>
  rdO_I (C := fun _ j => 0 ≤ j) (g := fun i j => .int (i / 2 ^ j.toNat)) (g' := fun i j => .int (i / 2 ^ j.toNat)) (fun _ _ _ _ => rel_int_iff.mpr rfl) (fun a b h d h' e => by
    unfold opShr at e; split at e
    · split at e
      · rename_i hc
        cases e; exact ⟨_, _, rfl, rfl, hc, rfl, rfl⟩
      · cases e
    · cases e) q
theorem o_add : OpR X (binaryOp .Add) (rdO X opAdd) := OpR.mono (((op_add.or op_add_str).or op_catK).or op_cat) fun x y H Q q => by
  obtain ⟨T, h, a, b, r, ra, rb, q⟩ := q
  obtain ⟨d, h', e, q⟩ := rdO_ok q
  have hs : sz = sizeLine := by rw [sizeLine_eq]; rfl
  unfold opAdd at e
  split at e
  · cases e
    exact .inl (.inl (.inl ⟨_, _, rel_int_iff.mp ra, rel_int_iff.mp rb, q T H _ Le.refl r (rel_int_iff.mpr rfl)⟩))
  · split at e
    · rename_i hz
      cases e
      exact .inl (.inl (.inr ⟨_, _, rel_str_iff.mp ra, rel_str_iff.mp rb, by rw [ofStr_len, ofStr_len, ← hs]; exact hz, q T H _ Le.refl r (rel_str_iff.mpr (by rw [ofStr_app]))⟩))
    · cases e
  · split at e
    · rename_i xs ys hz
      cases e
      unfold rel at ra rb
      obtain ⟨p1, vs, rfl, s1, rv⟩ := ra
      obtain ⟨p2, ws, rfl, s2, rw'⟩ := rb
      have l1 := rels_length rv
      have l2 := rels_length rw'
      refine .inl (.inr ⟨p1, p2, vs, ws, rfl, rfl, s1.sq, s2.sq, by rw [l1, l2, ← hs]; exact hz, fun e0 => ?_, fun _ e0 => ?_, fun _ _ p o hp ho => ?_⟩)
      · refine q T H _ Le.refl r ?_
        subst e0
        have : xs = [] := List.length_eq_zero_iff.mp (by rw [← l1]; rfl)
        subst this
        unfold rel
        exact ⟨p2, ws, rfl, s2, rw'⟩
      · refine q T H _ Le.refl r ?_
        subst e0
        have : ys = [] := List.length_eq_zero_iff.mp (by rw [← l2]; rfl)
        subst this
        unfold rel
        exact ⟨p1, vs, rfl, s1, by rw [List.append_nil]; exact rv⟩
      · exact q T (upd H p (.frz o (.tup (vs ++ ws)))) _ (Le.new hp) (r.new hp) (rel_tup upd_same ho (rels_mono (Le.new hp) r.mut _ _ (rels_append rv rw')))
    · cases e
  · split at e
    · rename_i xs ys e1 e2
      split at e
      · rename_i hz
        cases e
        obtain ⟨p1, vs, rfl, s1, rv⟩ := rel_lview r ra e1
        obtain ⟨p2, ws, rfl, s2, rw'⟩ := rel_lview r rb e2
        refine .inr ⟨p1, p2, vs, ws, rfl, rfl, s1, s2, by rw [rels_length rv, rels_length rw', ← hs]; exact hz, fun p hp => ?_⟩
        exact q T (upd H p (.lst (vs ++ ws))) _ (Le.new hp) (r.new hp) (rel_lst upd_same (r.mut.free hp) (rels_mono (Le.new hp) r.mut _ _ (rels_append rv rw')))
      · cases e
    · cases e
theorem o_eq (hu : X.A.units + 65 < cLine) : OpR X (compareOp .Eq) (rdO X opEq) := OpR.mono ((op_eqD (Nat.lt_trans (by omega) hu)).or (op_eqX hu)) fun x y H Q q => by
  obtain ⟨T, h, a, b, r, ra, rb, q⟩ := q
  obtain ⟨d, h', e, q⟩ := rdO_ok q
  unfold opEq at e
  split at e
  · rename_i k e1
    cases e
    unfold same? at e1
    split at e1
    · rename_i hc
      simp only [Bool.and_eq_true, decide_eq_true_eq] at hc
      cases e1
      refine .inl ?_
      exact ⟨_, _, rel_view r ra hc.1.1.1, rel_view r rb hc.1.1.2, toP_shaped hc.1.1.1 (by omega), toP_shaped hc.1.1.2 (by omega), q T H _ Le.refl r (rel_bl_iff.mpr rfl)⟩
    · exact .inr (sameX_sound r ra rb e1 (q T H _ Le.refl r (rel_bl_iff.mpr rfl)))
  · cases e
theorem o_ne (hu : X.A.units + 65 < cLine) : OpR X (compareOp .NotEq) (rdO X opNe) := OpR.mono ((op_neD (Nat.lt_trans (by omega) hu)).or (op_neX hu)) fun x y H Q q => by
  obtain ⟨T, h, a, b, r, ra, rb, q⟩ := q
  obtain ⟨d, h', e, q⟩ := rdO_ok q
  unfold opNe at e
  split at e
  · rename_i k e1
    cases e
    unfold same? at e1
    split at e1
    · rename_i hc
      simp only [Bool.and_eq_true, decide_eq_true_eq] at hc
      cases e1
      refine .inl ?_
      exact ⟨_, _, rel_view r ra hc.1.1.1, rel_view r rb hc.1.1.2, toP_shaped hc.1.1.1 (by omega), toP_shaped hc.1.1.2 (by omega), q T H _ Le.refl r (rel_bl_iff.mpr rfl)⟩
    · exact .inr (sameX_sound r ra rb e1 (q T H _ Le.refl r (rel_bl_iff.mpr rfl)))
  · cases e
theorem rel_non_dec {K T H d v} (r : rel K T H d v) : decide (v = V.non) = (match d with | .non => true | _ => false) := by
  cases d <;> unfold rel at r
  case non => subst r; rfl
  case bl => subst r; rfl
  case int => subst r; rfl
  case str => subst r; rfl
  case ty => subst r; rfl
  case tup => obtain ⟨a, vs, rfl, _⟩ := r; rfl
  case lst => obtain ⟨a, vs, rfl, _⟩ := r; rfl
  case frz => obtain ⟨a, vs, rfl, _⟩ := r; rfl
  case dic => obtain ⟨a, vs, rfl, _⟩ := r; rfl
  case ref => obtain ⟨a, rfl, _⟩ := r; rfl
  case xc => obtain ⟨a, C, rfl, _⟩ := r; rfl
  case lam => obtain ⟨rfl, _⟩ := r; rfl
  case tux => obtain ⟨a, vs, rfl, _⟩ := r; rfl
theorem o_is : OpR X (compareOp .Is) (rdO X opIs) := OpR.mono (op_isN.or op_isBl) fun x y H Q q => by
  obtain ⟨T, h, a, b, r, ra, rb, q⟩ := q
  obtain ⟨d, h', e, q⟩ := rdO_ok q
  unfold opIs at e
  split at e
  · cases e
    exact .inr ⟨_, _, rel_bl_iff.mp ra, rel_bl_iff.mp rb, q T H _ Le.refl r (rel_bl_iff.mpr (by rw [Bool.beq_eq_decide_eq]))⟩
  · cases e
    exact .inl ⟨rel_non_iff.mp rb, q T H _ Le.refl r (rel_bl_iff.mpr (by rw [rel_non_dec ra]))⟩
  · rename_i h1
    cases e
    refine .inl ⟨rel_non_iff.mp rb, q T H _ Le.refl r (rel_bl_iff.mpr ?_)⟩
    rw [rel_non_dec ra]
    split
    · exact (h1 rfl).elim
    · rfl
  · cases e
theorem o_isNot : OpR X (compareOp .IsNot) (rdO X opIsNot) := OpR.mono (op_notN.or op_notBl) fun x y H Q q => by
  obtain ⟨T, h, a, b, r, ra, rb, q⟩ := q
  obtain ⟨d, h', e, q⟩ := rdO_ok q
  unfold opIsNot at e
  split at e
  · cases e
    exact .inr ⟨_, _, rel_bl_iff.mp ra, rel_bl_iff.mp rb, q T H _ Le.refl r (rel_bl_iff.mpr (by rw [Bool.beq_eq_decide_eq]))⟩
  · cases e
    exact .inl ⟨rel_non_iff.mp rb, q T H _ Le.refl r (rel_bl_iff.mpr (by rw [rel_non_dec ra]; rfl))⟩
  · rename_i h1
    cases e
    refine .inl ⟨rel_non_iff.mp rb, q T H _ Le.refl r (rel_bl_iff.mpr ?_)⟩
    rw [rel_non_dec ra]
    split
    · exact (h1 rfl).elim
    · rfl
  · cases e
end
end Pu

namespace Pu
open PySem PySem.Spec PyProof.Rows L2

/-! ### truth -/
def truD (h : HH) (d : D) : Option Bool := match d with
  | .non => some false
  | .bl b => some b
  | .int i => some (i != 0)
  | .str s => if s.length ≤ sz then some (s.length != 0) else none
  | .tup xs => some (!xs.isEmpty)
  | .lst xs => some (!xs.isEmpty)
  | .frz xs => some (!xs.isEmpty)
  | .dic xs => some (!xs.isEmpty)
  | .ref i => match h[i]? with
    | some (.lst xs) => some (!xs.isEmpty)
    | some (.dic xs) => some (!xs.isEmpty)
    | _ => none
  | .ty _ => none
  | .xc _ => none
  | .lam _ _ _ _ _ => none
  | .tux _ => none
section
variable {K : PySem.W.Frag} {T : Tk} {H : Hp} {h : HH}
theorem rels_empty {ds : List D} {vs : List V} (r : rels K T H ds vs) : vs.isEmpty = ds.isEmpty := by
  have := rels_length r
  cases ds <;> cases vs <;> first | rfl | (simp at this)
theorem relk_length : ∀ {ds : List (Ky × D)} {vs : List (Key × V)}, relk K T H ds vs → vs.length = ds.length
  | [], vs, r => by unfold relk at r; rw [r]; rfl
  | (k, d) :: ds, vs, r => by
    unfold relk at r
    obtain ⟨v, t, e, _, r2⟩ := r
    rw [e, List.length_cons, List.length_cons, relk_length r2]
theorem relk_empty {ds : List (Ky × D)} {vs : List (Key × V)} (r : relk K T H ds vs) : vs.isEmpty = ds.isEmpty := by
  have := relk_length r
  cases ds <;> cases vs <;> first | rfl | (simp at this)
theorem tru_rel (r : RelH K T H h) {d : D} {v : V} {k : Bool} (q : rel K T H d v) (e : truD h d = some k) : TruV K v H k := by
  cases d with
  | non => unfold rel at q; unfold truD at e; subst q; cases e; rfl
  | bl b => unfold rel at q; unfold truD at e; subst q; cases e; rfl
  | int i => unfold rel at q; unfold truD at e; subst q; cases e; rfl
  | str s =>
    unfold rel at q; unfold truD at e; subst q
    dsimp only at e
    split at e
    · rename_i hz
      cases e
      refine ⟨by rw [ofStr_len, sizeLine_eq]; exact hz, ?_⟩
      rw [ofStr_len]
      cases s.length with
      | zero => rfl
      | succ n => first | rfl | (simp; try omega)
    · cases e
  | tup xs =>
    unfold rel at q; unfold truD at e; cases e
    obtain ⟨a, vs, rfl, s, q⟩ := q
    exact .inr (.inl ⟨vs, s.sq, by rw [rels_empty q]⟩)
  | lst xs =>
    unfold rel at q; unfold truD at e; cases e
    obtain ⟨a, vs, rfl, s, n, q⟩ := q
    exact .inl ⟨vs, SqL.of s, by rw [rels_empty q]⟩
  | frz xs =>
    unfold rel at q; unfold truD at e; cases e
    obtain ⟨a, vs, rfl, s, q⟩ := q
    exact .inl ⟨vs, s.elim (fun s => .inl s.1) fun s => s H, by rw [rels_empty q]⟩
  | dic xs =>
    unfold rel at q; unfold truD at e; cases e
    obtain ⟨a, vs, rfl, s, n, q⟩ := q
    exact .inr (.inr ⟨vs, s, by rw [relk_empty q]⟩)
  | ref i =>
    unfold rel at q; unfold truD at e
    obtain ⟨a, rfl, q⟩ := q
    dsimp only at e
    split at e
    · rename_i xs e2
      cases e
      obtain ⟨b, e3, vs, e4, rr⟩ := r.at_ _ _ e2
      rw [q] at e3; cases e3
      exact .inl ⟨vs, SqL.of e4, by rw [rels_empty rr]⟩
    · rename_i xs e2
      cases e
      obtain ⟨b, e3, vs, e4, rr⟩ := r.at_ _ _ e2
      rw [q] at e3; cases e3
      exact .inr (.inr ⟨vs, e4, by rw [relk_empty rr]⟩)
    · cases e
  | ty n => unfold truD at e; cases e
  | xc n => unfold truD at e; cases e
  | lam f c q ds vs => unfold truD at e; cases e
  | tux n => unfold truD at e; cases e
end
def ofB {α : Type} (o : Option Bool) (h : HH) (k : Bool → R α) : R α := match o with
  | some b => k b
  | none => .stuck
def tV (f : Ex) : Et := fun env h => (f env h).bind fun d h1 => ofB (truD h1 d) h1 fun b => .ok b h1
def tAndP (f g : Et) : Et := fun env h => (f env h).bind fun b h1 => if b = true then g env h1 else .ok false h1
def tOrP (f g : Et) : Et := fun env h => (f env h).bind fun b h1 => if b = true then .ok true h1 else g env h1
def tNotP (f : Et) : Et := fun env h => (f env h).bind fun b h1 => .ok (!b) h1
def eAnd (f g : Ex) : Ex := fun env h => (f env h).bind fun d h1 => ofB (truD h1 d) h1 fun b => if b = true then g env h1 else .ok d h1
def eOr (f g : Ex) : Ex := fun env h => (f env h).bind fun d h1 => ofB (truD h1 d) h1 fun b => if b = true then .ok d h1 else g env h1
def eNot (f : Ex) : Ex := fun env h => (f env h).bind fun d h1 => ofB (truD h1 d) h1 fun b => .ok (.bl (!b)) h1
def eIf (c : Et) (f g : Ex) : Ex := fun env h => (c env h).bind fun b h1 => if b = true then f env h1 else g env h1
section
variable {X : Cx} {W : WX} {a b c : Expr} {f g : Ex} {s t : Et} {pos : Pos} {rest : List Expr}
theorem After.ofB {K : PySem.W.Frag} {mg : Str → Option Value} {W : WX} {T : Tk} {H : Hp} {σ : L2.St} {α β : Type} {q : Tk → Hp → α → β → Prop} {Q : β → Hp → Prop} {o : Option Bool} {h : HH} {k : Bool → R α}
    (a : After K mg W T H σ q Q (ofB o h k)) : ∃ b, o = some b ∧ After K mg W T H σ q Q (k b) := by
  cases o with
  | none => exact a.elim
  | some b => exact ⟨b, rfl, a⟩
theorem st_val (hf : SE X W a f) (he : ∀ whole, isTrue a X.env whole = (do let v ← whole; standAt a.pos; holding [v] (truthy v)) := by intro _; rfl) : ST X W a (tV f) :=
  PT.mono (pt_truth hf he) fun σ H Q hh => by
    obtain ⟨T, env, h, r1, r2, a⟩ := hh
    refine ⟨T, env, h, r1, r2, a.bind r1.mut fun d h1 T1 H1 v _ l1 q1 rv a1 => ?_⟩
    obtain ⟨k, e, a2⟩ := a1.ofB
    exact ⟨k, tru_rel q1 rv e, a2.done q1 rfl⟩
theorem sw_and1 (hs : ST X W a s) : SW X W (.BoolOp .And [a] pos) s := pw_and1 hs
theorem sw_or1 (hs : ST X W a s) : SW X W (.BoolOp .Or [a] pos) s := pw_or1 hs
theorem sw_and (hs : ST X W a s) (ht : SW X W (.BoolOp .And (b :: rest) pos) t) : SW X W (.BoolOp .And (a :: b :: rest) pos) (tAndP s t) :=
  PW.mono (pw_and hs ht) fun σ H Q hh => by
    obtain ⟨T, env, h, r1, r2, a⟩ := hh
    refine ⟨T, env, h, r1, r2, a.bind r1.mut fun k h1 T1 H1 v _ l1 q1 rv a1 => ?_⟩
    subst rv
    by_cases hk : k = true
    · rw [if_pos hk] at a1 ⊢
      exact ⟨T1, env, h1, q1, relE_mono l1 r1.mut r2, a1⟩
    · rw [if_neg hk] at a1 ⊢
      exact a1.done q1 rfl
theorem sw_or (hs : ST X W a s) (ht : SW X W (.BoolOp .Or (b :: rest) pos) t) : SW X W (.BoolOp .Or (a :: b :: rest) pos) (tOrP s t) :=
  PW.mono (pw_or hs ht) fun σ H Q hh => by
    obtain ⟨T, env, h, r1, r2, a⟩ := hh
    refine ⟨T, env, h, r1, r2, a.bind r1.mut fun k h1 T1 H1 v _ l1 q1 rv a1 => ?_⟩
    subst rv
    by_cases hk : k = true
    · rw [if_pos hk] at a1 ⊢
      exact a1.done q1 rfl
    · rw [if_neg hk] at a1 ⊢
      exact ⟨T1, env, h1, q1, relE_mono l1 r1.mut r2, a1⟩
theorem st_w (hs : SW X W a s) : ST X W a s := PW.pt hs
theorem st_not (hs : ST X W a s) : ST X W (.UnaryOp .Not a pos) (tNotP s) :=
  PT.mono (pt_not hs) fun σ H Q hh => by
    obtain ⟨T, env, h, r1, r2, a⟩ := hh
    refine ⟨T, env, h, r1, r2, a.bind r1.mut fun k h1 T1 H1 v _ l1 q1 rv a1 => ?_⟩
    subst rv
    exact a1.done q1 rfl
theorem se_one {op} (h : SE X W a f) : SE X W (.BoolOp op [a] pos) f := pe_one h
theorem se_and (ha : SE X W a f) (hb : SE X W (.BoolOp .And (b :: rest) pos) g) : SE X W (.BoolOp .And (a :: b :: rest) pos) (eAnd f g) :=
  PE.mono (pe_andT ha hb) fun σ H Q hh => by
    obtain ⟨T, env, h, r1, r2, a⟩ := hh
    refine ⟨T, env, h, r1, r2, a.bind r1.mut fun d h1 T1 H1 v _ l1 q1 rv a1 => ?_⟩
    obtain ⟨k, e, a2⟩ := a1.ofB
    refine ⟨k, tru_rel q1 rv e, ?_⟩
    by_cases hk : k = true
    · rw [if_pos hk] at a2 ⊢
      exact ⟨T1, env, h1, q1, relE_mono l1 r1.mut r2, a2⟩
    · rw [if_neg hk] at a2 ⊢
      exact a2.done q1 rv
theorem se_or (ha : SE X W a f) (hb : SE X W (.BoolOp .Or (b :: rest) pos) g) : SE X W (.BoolOp .Or (a :: b :: rest) pos) (eOr f g) :=
  PE.mono (pe_orT ha hb) fun σ H Q hh => by
    obtain ⟨T, env, h, r1, r2, a⟩ := hh
    refine ⟨T, env, h, r1, r2, a.bind r1.mut fun d h1 T1 H1 v _ l1 q1 rv a1 => ?_⟩
    obtain ⟨k, e, a2⟩ := a1.ofB
    refine ⟨k, tru_rel q1 rv e, ?_⟩
    by_cases hk : k = true
    · rw [if_pos hk] at a2 ⊢
      exact a2.done q1 rv
    · rw [if_neg hk] at a2 ⊢
      exact ⟨T1, env, h1, q1, relE_mono l1 r1.mut r2, a2⟩
theorem se_not (ha : SE X W a f) : SE X W (.UnaryOp .Not a pos) (eNot f) :=
  PE.mono (pe_notT ha) fun σ H Q hh => by
    obtain ⟨T, env, h, r1, r2, a⟩ := hh
    refine ⟨T, env, h, r1, r2, a.bind r1.mut fun d h1 T1 H1 v _ l1 q1 rv a1 => ?_⟩
    obtain ⟨k, e, a2⟩ := a1.ofB
    exact ⟨k, tru_rel q1 rv e, a2.done q1 (rel_bl_iff.mpr rfl)⟩
theorem se_if (hc : ST X W c t) (ha : SE X W a f) (hb : SE X W b g) : SE X W (.IfExp c a b pos) (eIf t f g) :=
  PE.mono (pe_ifExp hc ha hb) fun σ H Q hh => by
    obtain ⟨T, env, h, r1, r2, a⟩ := hh
    refine ⟨T, env, h, r1, r2, a.bind r1.mut fun k h1 T1 H1 v _ l1 q1 rv a1 => ?_⟩
    subst rv
    by_cases hk : k = true
    · rw [if_pos hk] at a1 ⊢
      exact ⟨T1, env, h1, q1, relE_mono l1 r1.mut r2, a1⟩
    · rw [if_neg hk] at a1 ⊢
      exact ⟨T1, env, h1, q1, relE_mono l1 r1.mut r2, a1⟩
end

/-! ### order -/
def intsD : List D → Option (List Int)
  | [] => some []
  | .int i :: ds => (intsD ds).map (i :: ·)
  | _ :: _ => none
def opLt (a b : D) (h : HH) : R D := match a, b with
  | .int i, .int j => .ok (.bl (decide (i < j))) h
  | .tup xs, .tup ys => match intsD xs, intsD ys with
    | some ns, some ms => .ok (.bl (HT.lexLt ns ms)) h
    | _, _ => .stuck
  | _, _ => .stuck
def opLe (a b : D) (h : HH) : R D := match a, b with
  | .int i, .int j => .ok (.bl (decide (i ≤ j))) h
  | _, _ => .stuck
def opGt (a b : D) (h : HH) : R D := match a, b with
  | .int i, .int j => .ok (.bl (decide (j < i))) h
  | _, _ => .stuck
def opGe (a b : D) (h : HH) : R D := match a, b with
  | .int i, .int j => .ok (.bl (decide (j ≤ i))) h
  | _, _ => .stuck
section
variable {X : Cx} {W : WX}
theorem rels_ints {K T H} : ∀ {ds : List D} {vs : List V} {ns : List Int}, rels K T H ds vs → intsD ds = some ns → vs = ns.map V.int
  | [], vs, ns, r, e => by unfold rels at r; unfold intsD at e; cases e; rw [r]; rfl
  | d :: ds, vs, ns, r, e => by
    unfold rels at r
    obtain ⟨v, t, rfl, r1, r2⟩ := r
    unfold intsD at e
    split at e
    · rename_i heq; cases heq
    · rename_i i ds' heq
      cases heq
      cases e2 : intsD ds with
      | none => rw [e2] at e; cases e
      | some ms =>
        rw [e2] at e; cases e
        rw [rels_ints r2 e2, rel_int_iff.mp r1]; rfl
    · cases e
theorem o_lt (hu : X.A.units < cLine) : OpR X (compareOp .Lt) (rdO X opLt) := OpR.mono (op_lt.or (op_ltT hu)) fun x y H Q q => by
  obtain ⟨T, h, a, b, r, ra, rb, q⟩ := q
  obtain ⟨d, h', e, q⟩ := rdO_ok q
  unfold opLt at e
  split at e
  · cases e
    exact .inl ⟨_, _, rel_int_iff.mp ra, rel_int_iff.mp rb, q T H _ Le.refl r (rel_bl_iff.mpr rfl)⟩
  · split at e
    · rename_i ns ms e1 e2
      cases e
      unfold rel at ra rb
      obtain ⟨p1, vs, rfl, s1, rv⟩ := ra
      obtain ⟨p2, ws, rfl, s2, rw'⟩ := rb
      exact .inr ⟨p1, p2, ns, ms, rfl, rfl, rels_ints rv e1 ▸ s1.sq, rels_ints rw' e2 ▸ s2.sq, q T H _ Le.refl r (rel_bl_iff.mpr rfl)⟩
    · cases e
  · cases e
theorem o_le : OpR X (compareOp .LtE) (rdO X opLe) := OpR.mono op_le fun x y H Q q => by
  obtain ⟨i, j, h1, h2, _, h3⟩ := rdO_I (C := fun _ _ => True) (g := fun i j => .bl (decide (i ≤ j))) (g' := fun i j => .bl (decide (i ≤ j))) (fun _ _ _ _ => rel_bl_iff.mpr rfl) (fun a b h d h' e => by
    unfold opLe at e; split at e
    · cases e; exact ⟨_, _, rfl, rfl, trivial, rfl, rfl⟩
    · cases e) q
  exact ⟨i, j, h1, h2, h3⟩
theorem o_gt : OpR X (compareOp .Gt) (rdO X opGt) := OpR.mono op_gt fun x y H Q q => by
  obtain ⟨i, j, h1, h2, _, h3⟩ := rdO_I (C := fun _ _ => True) (g := fun i j => .bl (decide (j < i))) (g' := fun i j => .bl (decide (j < i))) (fun _ _ _ _ => rel_bl_iff.mpr rfl) (fun a b h d h' e => by
    unfold opGt at e; split at e
    · cases e; exact ⟨_, _, rfl, rfl, trivial, rfl, rfl⟩
    · cases e) q
  exact ⟨i, j, h1, h2, h3⟩
theorem o_ge : OpR X (compareOp .GtE) (rdO X opGe) := OpR.mono op_ge fun x y H Q q => by
  obtain ⟨i, j, h1, h2, _, h3⟩ := rdO_I (C := fun _ _ => True) (g := fun i j => .bl (decide (j ≤ i))) (g' := fun i j => .bl (decide (j ≤ i))) (fun _ _ _ _ => rel_bl_iff.mpr rfl) (fun a b h d h' e => by
    unfold opGe at e; split at e
    · cases e; exact ⟨_, _, rfl, rfl, trivial, rfl, rfl⟩
    · cases e) q
  exact ⟨i, j, h1, h2, h3⟩
/-- a < b < c -/
def eChain (o o' : D → D → HH → R D) (f g k : Ex) : Ex := fun env h => (f env h).bind fun a h1 => (g env h1).bind fun b h2 => (noX (o a b h2)).bind fun d h3 => match d with
  | .bl true => (k env h3).bind fun c h4 => noX (o' b c h4)
  | .bl false => .ok (.bl false) h3
  | _ => .stuck
theorem rd_chain {o o' : D → D → HH → R D} {f g k : Ex} {σ : L2.St} {H : Hp} {Q : VK} (hh : rd X W (eChain o o' f g k) σ H Q) : tChain (rdO X o) (rdO X o') (rd X W f) (rd X W g) (rd X W k) σ H Q := by
  obtain ⟨T, env, h, r1, r2, a⟩ := hh
  refine ⟨T, env, h, r1, r2, a.bind r1.mut fun d h1 T1 H1 v _ l1 q1 rv a1 => ?_⟩
  refine ⟨T1, env, h1, q1, relE_mono l1 r1.mut r2, a1.bind q1.mut fun e h2 T2 H2 u _ l2 q2 ru a2 => ?_⟩
  refine ⟨T2, h2, d, e, q2, rel_mono l2 q1.mut d v rv, ru, ?_⟩
  revert a2
  cases o d e h2 with
  | ok d' h' =>
    intro a2 T3 H3 v3 l3 q3 rv3
    have a3 := After.later a2 l3 q2.mut
    revert a3
    cases d' with
    | bl k' =>
      rw [rel_bl_iff] at rv3
      subst rv3
      cases k' with
      | true =>
        intro a3
        refine ⟨true, rfl, ?_⟩
        rw [if_pos rfl]
        refine ⟨T3, env, h', q3, relE_mono (l1.trans r1.mut (l2.trans q1.mut l3)) r1.mut r2, After.bind a3 q3.mut fun c h4 T4 H4 z _ l4 q4 rz a4 => ?_⟩
        refine ⟨T4, h4, e, c, q4, rel_mono (l3.trans q2.mut l4) q2.mut e u ru, rz, ?_⟩
        revert a4
        cases o' e c h4 with
        | ok d' h' => exact fun a2 T' H' v' l r q => a2 T' H' v' l r q
        | exc c h' => exact fun a2 => a2
        | stuck => exact fun a2 => a2
      | false =>
        intro a3
        refine ⟨false, rfl, ?_⟩
        rw [if_neg Bool.false_ne_true]
        exact After.done a3 q3 (rel_bl_iff.mpr rfl)
    | _ => exact fun a3 => False.elim a3
  | exc c h' => exact fun a2 => a2
  | stuck => exact fun a2 => a2
theorem se_chain {op op' : CmpOp} {o o' : D → D → HH → R D} {a b c : Expr} {f g k : Ex} {pos : Pos} (ho : OpR X (compareOp op) (rdO X o)) (ho' : OpR X (compareOp op') (rdO X o')) (ha : SE X W a f) (hb : SE X W b g) (hc : SE X W c k)
    (hm : lastMarks [op, op'] [b, c] = false := by with_unfolding_all rfl) : SE X W (.Compare a [op, op'] [b, c] pos) (eChain o o' f g k) :=
  PE.mono (pe_chain ho ho' ha hb hc hm) fun _ _ _ => rd_chain
/-- a truth as a test -/
def tB (f : Ex) : Et := fun env h => (f env h).bind fun d h1 => match d with
  | .bl b => .ok b h1
  | _ => .stuck
theorem rd_tB {f : Ex} {σ : L2.St} {H : Hp} {Q : Bool → Hp → Prop} (hh : rdt X W (tB f) σ H Q) : rd X W f σ H fun x H' => ∃ k, x = .bl k ∧ Q k H' := by
  obtain ⟨T, env, h, r1, r2, a⟩ := hh
  refine ⟨T, env, h, r1, r2, a.bind r1.mut fun d h1 T1 H1 v _ l1 q1 rv a1 => ?_⟩
  cases d with
  | bl b => exact ⟨b, rel_bl_iff.mp rv, After.done a1 q1 rfl⟩
  | _ => exact False.elim a1
theorem st_chain {op op' : CmpOp} {o o' : D → D → HH → R D} {a b c : Expr} {f g k : Ex} {pos : Pos} (ho : OpR X (compareOp op) (rdO X o)) (ho' : OpR X (compareOp op') (rdO X o')) (ha : SE X W a f) (hb : SE X W b g) (hc : SE X W c k)
    (hm : lastMarks [op, op'] [b, c] = false := by with_unfolding_all rfl) : ST X W (.Compare a [op, op'] [b, c] pos) (tB (eChain o o' f g k)) :=
  PT.mono (pt_chain ho ho' ha hb hc hm) fun _ _ _ hh => rd_chain (rd_tB hh)
end
end Pu

namespace Pu
open PySem PySem.Spec PyProof.Rows L2

/-! ### subscripts -/
/-- the items of a sequence -/
def itemsL (h : HH) (d : D) : Option (List D) := match d with
  | .lst xs => some xs
  | .frz xs => some xs
  | .ref i => match h[i]? with
    | some (.lst xs) => some xs
    | _ => none
  | _ => none
def items (h : HH) (d : D) : Option (List D) := match d with
  | .tup xs => some xs
  | d => itemsL h d
def ofO {α β : Type} (o : Option α) (k : α → R β) : R β := match o with
  | some a => k a
  | none => .stuck
def chD (c : Char) : D := .str (String.ofList [c])
def opIx (a b : D) (h : HH) : R D := match a, b with
  | .str s, .int i => if s.length ≤ sz then ofO (atI s.toList i) fun c => .ok (chD c) h else .stuck
  | a, .int i => ofO (items h a) fun xs => ofO (atI xs i) fun d => .ok d h
  | _, _ => .stuck
def cut {α : Type} (xs : List α) (lo hi : Option Int) : List α := (xs.drop (HT.sIx xs.length 0 lo)).take (HT.sIx xs.length xs.length hi - HT.sIx xs.length 0 lo)
def opSl (a : D) (lo hi : Option Int) (h : HH) : R D := match a with
  | .tup xs => .ok (.tup (cut xs lo hi)) h
  | .str s => if s.length ≤ sz then .ok (.str (String.ofList (cut s.toList lo hi))) h else .stuck
  | a => ofO (itemsL h a) fun xs => .ok (.lst (cut xs lo hi)) h
section
variable {X : Cx} {W : WX}
theorem IxR.mono {r r' : R2} (h : IxR X r) (i : ∀ x y H Q, r' x y H Q → r x y H Q) : IxR X r' :=
  fun value slice pins s σ H x y v u Q I rx ry q => h value slice pins s σ H x y v u Q I rx ry (i _ _ _ _ q)
theorem atI_map {α β : Type} {f : α → β} {xs : List α} {i : Int} {v : α} (e : atI xs i = some v) : atI (xs.map f) i = some (f v) := by
  unfold atI at e ⊢
  rw [List.length_map]
  cases e2 : ixN xs.length i with
  | none => rw [e2] at e; cases e
  | some j =>
    rw [e2] at e
    have e : xs[j]? = some v := e
    show (xs.map f)[j]? = some (f v)
    rw [List.getElem?_map, e]; rfl
theorem atI_rels {K T H} {ds : List D} {vs : List V} (r : rels K T H ds vs) {i : Int} {d : D} (e : atI ds i = some d) : ∃ v, atI vs i = some v ∧ rel K T H d v := by
  unfold atI at e ⊢
  rw [rels_length r]
  cases e2 : ixN ds.length i with
  | none => rw [e2] at e; cases e
  | some j =>
    rw [e2] at e
    exact rels_get r e
theorem cps_of (s : String) : (Str.ofString s).cps.toList = s.toList.map Char.toNat := by rw [Str.ofString_eq_toList]
theorem ch_of (c : Char) : Str.ofString (String.ofList [c]) = ⟨#[c.toNat]⟩ := by
  rw [Str.ofString_eq_toList, String.toList_ofList]; rfl
theorem rel_itemsL {K T H h} (r : RelH K T H h) {d : D} {v : V} {xs : List D} (q : rel K T H d v) (e : itemsL h d = some xs) : ∃ a vs, v = .ref a ∧ SqL K H a vs ∧ rels K T H xs vs := by
  unfold itemsL at e
  split at e
  · cases e
    unfold rel at q
    obtain ⟨a, vs, e, s, n, q⟩ := q
    exact ⟨a, vs, e, SqL.of s, q⟩
  · cases e
    unfold rel at q
    obtain ⟨a, vs, e, s, q⟩ := q
    exact ⟨a, vs, e, s.elim (fun s => .inl s.1) fun s => s H, q⟩
  · unfold rel at q
    obtain ⟨a, e1, q⟩ := q
    split at e
    · rename_i xs' e2
      cases e
      obtain ⟨b, e3, vs, e4, rr⟩ := r.at_ _ _ e2
      rw [q] at e3; cases e3
      exact ⟨a, vs, e1, SqL.of e4, rr⟩
    · cases e
  · cases e
theorem rel_items {K T H h} (r : RelH K T H h) {d : D} {v : V} {xs : List D} (q : rel K T H d v) (e : items h d = some xs) : ∃ a vs, v = .ref a ∧ (SqL K H a vs ∨ SqT K H a vs) ∧ rels K T H xs vs := by
  unfold items at e
  split at e
  · cases e
    unfold rel at q
    obtain ⟨a, vs, e, s, q⟩ := q
    exact ⟨a, vs, e, .inr s.sq, q⟩
  · obtain ⟨a, vs, e, s, q⟩ := rel_itemsL r q e
    exact ⟨a, vs, e, .inl s, q⟩
theorem i_ix : IxR X (rdO X opIx) := IxR.mono ix_seq fun x y H Q q => by
  obtain ⟨T, h, a, b, r, ra, rb, q⟩ := q
  obtain ⟨d, h', e, q⟩ := rdO_ok q
  unfold opIx at e
  split at e
  · split at e
    · rename_i s i hz
      cases e2 : atI s.toList i with
      | none => rw [e2] at e; cases e
      | some c =>
        rw [e2] at e
        cases e
        refine .inr (.inr ⟨_, _, c.toNat, rel_str_iff.mp ra, rel_int_iff.mp rb, by rw [ofStr_len, sizeLine_eq]; exact hz, by rw [cps_of]; exact atI_map e2, ?_⟩)
        exact q T H _ Le.refl r (by unfold chD; exact rel_str_iff.mpr (by rw [ch_of]))
    · cases e
  · rename_i i _
    cases e2 : items h a with
    | none => rw [e2] at e; cases e
    | some xs =>
      rw [e2] at e
      have e : (ofO (atI xs i) fun d => R.ok d h) = R.ok d h' := e
      cases e3 : atI xs i with
      | none => rw [e3] at e; cases e
      | some c =>
        rw [e3] at e
        cases e
        obtain ⟨p, vs, rfl, s, rv⟩ := rel_items r ra e2
        obtain ⟨v, e4, r4⟩ := atI_rels rv e3
        rcases s with s | s
        · exact .inl ⟨p, vs, i, v, rfl, rel_int_iff.mp rb, s, e4, q T H _ Le.refl r r4⟩
        · exact .inr (.inl ⟨p, vs, i, v, rfl, rel_int_iff.mp rb, s, e4, q T H _ Le.refl r r4⟩)
  · cases e
theorem se_ix {a b : Expr} {f g : Ex} {pos : Pos} (ha : SE X W a f) (hb : SE X W b g) (hs : PlainIx b := by exact fun _ _ => rfl) : SE X W (.Subscript a b pos) (eOp opIx f g) :=
  PE.mono (pe_ix i_ix ha hb hs) fun _ _ _ => rd_op

/-! ### slices -/
abbrev Eo := En → HH → R (Option Int)
structure SO (X : Cx) (W : WX) (e : Option Expr) (f : Eo) : Prop where
  po : PO X e (rdG X.K X.mg W (fun _ _ a b => a = b) f)
def oNo : Eo := fun _ h => .ok none h
def oSo (f : Ex) : Eo := fun env h => (f env h).bind fun d h1 => match d with
  | .int i => .ok (some i) h1
  | _ => .stuck
theorem PO.mono {e : Option Expr} {t t' : TO} (h : PO X e t) (i : ∀ σ H Q, t' σ H Q → t σ H Q) : PO X e t' := ⟨fun pins s σ H Q I hq => h.run pins s σ H Q I (i σ H Q hq)⟩
theorem so_no : SO X W none oNo := ⟨PO.mono po_none fun σ H Q h => by
  obtain ⟨T, env, hh, r1, r2, a⟩ := h
  exact a.done r1 rfl⟩
theorem so_so {e : Expr} {f : Ex} (hf : SE X W e f) : SO X W (some e) (oSo f) := ⟨PO.mono (po_some hf) fun σ H Q h => by
  obtain ⟨T, env, hh, r1, r2, a⟩ := h
  refine ⟨T, env, hh, r1, r2, a.bind r1.mut fun d h1 T1 H1 v _ l1 q1 rv a1 => ?_⟩
  cases d with
  | int i => exact ⟨i, rel_int_iff.mp rv, After.done a1 q1 rfl⟩
  | _ => exact False.elim a1⟩
def eSl (f : Ex) (lo hi : Eo) : Ex := fun env h => (f env h).bind fun a h1 => (lo env h1).bind fun l h2 => (hi env h2).bind fun u h3 => noX (opSl a l u h3)
def rdS (X : Cx) : V → Option Int → Option Int → Hp → VK → Prop := fun x lo hi H Q => ∃ T h a, RelH X.K T H h ∧ rel X.K T H a x ∧ match opSl a lo hi h with
  | .ok d h' => ∀ T' H' v, Le T H T' H' → RelH X.K T' H' h' → rel X.K T' H' d v → Q v H'
  | _ => False
theorem SlR.mono {r r' : V → Option Int → Option Int → Hp → VK → Prop} (h : SlR X r) (i : ∀ x lo hi H Q, r' x lo hi H Q → r x lo hi H Q) : SlR X r' :=
  fun pins s σ H x v vl vu lo hi sl Q I rx hs pl pu q => h pins s σ H x v vl vu lo hi sl Q I rx hs pl pu (i _ _ _ _ _ q)
theorem rels_cut {K T H} {ds : List D} {vs : List V} (lo hi : Option Int) (r : rels K T H ds vs) : rels K T H (cut ds lo hi) (cutV vs lo hi) := by
  unfold cut cutV
  rw [rels_length r]
  exact rels_take _ (rels_drop _ r)
theorem cut_whole {α : Type} {xs : List α} {lo hi : Option Int} (h : HT.sIx xs.length 0 lo = 0 ∧ HT.sIx xs.length xs.length hi = xs.length) : cut xs lo hi = xs := by
  unfold cut
  rw [h.1, h.2]; simp
theorem cut_map {α β : Type} {f : α → β} (xs : List α) (lo hi : Option Int) : cut (xs.map f) lo hi = (cut xs lo hi).map f := by
  unfold cut
  rw [List.length_map, List.map_take, List.map_drop]
theorem cutS_of (s : String) (lo hi : Option Int) : cutS (Str.ofString s) lo hi = Str.ofString (String.ofList (cut s.toList lo hi)) := by
  have hl : (Str.ofString s).length = (s.toList.map Char.toNat).length := by rw [← cps_of]; unfold Str.length; simp
  have := cut_map (f := Char.toNat) s.toList lo hi
  unfold cut at this ⊢
  unfold cutS
  rw [hl, cps_of, this, Str.ofString_eq_toList (String.ofList _), String.toList_ofList]
theorem l_sl : SlR X (rdS X) := SlR.mono ((sl_tupK.or sl_list).or sl_str) fun x lo hi H Q q => by
  obtain ⟨T, h, a, r, ra, q⟩ := q
  obtain ⟨d, h', e, q⟩ := rdO_ok q
  unfold opSl at e
  split at e
  · cases e
    unfold rel at ra
    obtain ⟨p, vs, rfl, s, rv⟩ := ra
    refine .inl (.inl ⟨p, vs, rfl, s.sq, fun hw => q T H _ Le.refl r ?_, fun _ p o hp ho => q T _ _ (Le.new hp) (r.new hp) (rel_tup upd_same ho (rels_mono (Le.new hp) r.mut _ _ (rels_cut lo hi rv)))⟩)
    rw [rels_length rv] at hw
    rw [cut_whole hw]
    unfold rel
    exact ⟨p, vs, rfl, s, rv⟩
  · split at e
    · rename_i s hz
      cases e
      refine .inr ⟨_, rel_str_iff.mp ra, by rw [ofStr_len, sizeLine_eq]; exact hz, q T H _ Le.refl r (rel_str_iff.mpr ?_)⟩
      rw [cutS_of]
    · cases e
  · rename_i a' _ _
    cases e2 : itemsL h a with
    | none => rw [e2] at e; cases e
    | some xs =>
      rw [e2] at e
      cases e
      obtain ⟨p, vs, rfl, s, rv⟩ := rel_itemsL r ra e2
      exact .inl (.inr ⟨p, vs, rfl, s, fun p hp => q T _ _ (Le.new hp) (r.new hp) (rel_lst upd_same (r.mut.free hp) (rels_mono (Le.new hp) r.mut _ _ (rels_cut lo hi rv)))⟩)
theorem se_sl {a : Expr} {lo hi : Option Expr} {f : Ex} {g k : Eo} {pos p2 : Pos} (ha : SE X W a f) (hl : SO X W lo g) (hu : SO X W hi k) : SE X W (.Subscript a (.Slice lo hi none p2) pos) (eSl f g k) :=
  PE.mono (pe_slice l_sl ha hl.po hu.po) fun σ H Q hh => by
    obtain ⟨T, env, h, r1, r2, a⟩ := hh
    refine ⟨T, env, h, r1, r2, a.bind r1.mut fun d h1 T1 H1 v _ l1 q1 rv a1 => ?_⟩
    refine ⟨T1, env, h1, q1, relE_mono l1 r1.mut r2, a1.bind q1.mut fun l h2 T2 H2 u _ l2 q2 ru a2 => ?_⟩
    subst ru
    refine ⟨T2, env, h2, q2, relE_mono (l1.trans r1.mut l2) r1.mut r2, a2.bind q2.mut fun l' h3 T3 H3 u _ l3 q3 ru a3 => ?_⟩
    subst ru
    refine ⟨T3, h3, d, q3, rel_mono (l2.trans q1.mut l3) q1.mut d v rv, ?_⟩
    revert a3
    cases opSl d l l' h3 with
    | ok d' h' => exact fun a2 T' H' v' l r q => a2 T' H' v' l r q
    | exc c h' => exact fun a2 => a2
    | stuck => exact fun a2 => a2
end
end Pu

namespace Pu
open PySem PySem.Spec PyProof.Rows L2

section
open PySem.SeqAt MeetsSeq
open AutoSeq1 (wpAny_loadPart')
def rInDict (K : PySem.W.Frag) (neg : Bool) : R2 := fun x y H Q => ∃ a p xs, x = .ref a ∧ AnyO K H a ∧ y = .ref p ∧ (SqL K H p xs ∨ SqT K H p xs) ∧ (∀ z ∈ xs, ∃ t, z = V.str t) ∧ Q (.bl neg) H
theorem vals_strs : ∀ {xs : List V} {us : List Value}, Vals xs us → (∀ z ∈ xs, ∃ t, z = V.str t) → ∀ u ∈ us, ∃ b t, u = .str b t
  | _, _, .nil, _, u, hu => by cases hu
  | x :: xs, v :: us, .cons r t, f, u, hu => by
    rcases List.mem_cons.mp hu with rfl | hu
    · obtain ⟨b, rfl⟩ := f x List.mem_cons_self
      obtain ⟨t', rfl⟩ := r
      exact ⟨b, t', rfl⟩
    · exact vals_strs t (fun z hz => f z (List.mem_cons_of_mem _ hz)) u hu
theorem any_no : ∀ l : List Value, (l.any fun _ => false) = false
  | [] => rfl
  | _ :: l => any_no l
section
variable {X : Cx}
theorem op_inDict (hu : X.A.units + 65 < cLine) : OpR X (compareOp .In) (rInDict X.K false) := by
  intro pins s σ H x y v u Q I rx ry ⟨a, p, xs, e1, ha, e2, hq, f, q⟩
  subst e1; subst e2
  obtain rfl : v = Value.ref a := rx
  obtain rfl : u = Value.ref p := ry
  have hu1 : X.A.in1.units < cLine := by simp only [Around.in1]; omega
  have key := anyO_eq I ha hu1
  rcases hq with hq | hq
  · obtain ⟨its, r, pl, hz⟩ := I.list hq
    refine in_listAt (fun _ => false) pl.isList (fun w hw => ?_) ⟨.bl _, H, I, rfl, ?_⟩
    · obtain ⟨b, t, rfl⟩ := vals_strs r f w (by simpa using hw)
      exact key b t
    · simpa [any_no] using q
  · obtain ⟨its, r, pl, hz⟩ := I.tuple hq
    refine in_tupleAt (fun _ => false) pl (fun w hw => ?_) ⟨.bl _, H, I, rfl, ?_⟩
    · obtain ⟨b, t, rfl⟩ := vals_strs r f w (by simpa using hw)
      exact key b t
    · simpa [any_no] using q
theorem op_notInDict (hu : X.A.units + 65 < cLine) : OpR X (compareOp .NotIn) (rInDict X.K true) := by
  intro pins s σ H x y v u Q I rx ry ⟨a, p, xs, e1, ha, e2, hq, f, q⟩
  subst e1; subst e2
  obtain rfl : v = Value.ref a := rx
  obtain rfl : u = Value.ref p := ry
  have hu1 : X.A.in1.units < cLine := by simp only [Around.in1]; omega
  have key := anyO_eq I ha hu1
  rcases hq with hq | hq
  · obtain ⟨its, r, pl, hz⟩ := I.list hq
    refine notIn_listAt (fun _ => false) pl.isList (fun w hw => ?_) ⟨.bl _, H, I, rfl, ?_⟩
    · obtain ⟨b, t, rfl⟩ := vals_strs r f w (by simpa using hw)
      exact key b t
    · simpa [any_no] using q
  · obtain ⟨its, r, pl, hz⟩ := I.tuple hq
    refine notIn_tupleAt (fun _ => false) pl (fun w hw => ?_) ⟨.bl _, H, I, rfl, ?_⟩
    · obtain ⟨b, t, rfl⟩ := vals_strs r f w (by simpa using hw)
      exact key b t
    · simpa [any_no] using q
end
end

/-! ### in -/
theorem rels_strs {K : PySem.W.Frag} {T : Tk} {H : Hp} : ∀ {ds : List D} {vs : List V}, rels K T H ds vs → ds.all isS = true → ∀ z ∈ vs, ∃ t, z = V.str t
  | [], vs, r, _, z, hz => by unfold rels at r; subst r; cases hz
  | d :: ds, vs, r, f, z, hz => by
    unfold rels at r
    obtain ⟨v, t, rfl, r1, r2⟩ := r
    rw [List.all_cons, Bool.and_eq_true] at f
    rcases List.mem_cons.mp hz with rfl | hz
    · obtain ⟨f1, _⟩ := f
      cases d <;> first | exact ⟨_, rel_str_iff.mp r1⟩ | cases f1
    · exact rels_strs r2 f.2 z hz
def inOk (h : HH) (a : D) (ys : List D) : Bool := isD (view h a) && isDs ys && decide (deep (view h a) ≤ 60) && decide (deeps ys ≤ 60)
def in? (h : HH) (a b : D) : Option Bool := match a, b with
  | .str s, .str t => match s.toList with
    | [c] => some (t.toList.contains c)
    | _ => none
  | a, b => match items h b with
    | some ys => if inOk h a ys then some (ys.any fun y => eqv y (view h a)) else if isDc h a && ys.all isS then some false else none
    | none => none
def opIn (a b : D) (h : HH) : R D := ofB (in? h a b) h fun k => .ok (.bl k) h
def opNotIn (a b : D) (h : HH) : R D := ofB (in? h a b) h fun k => .ok (.bl (!k)) h
section
variable {X : Cx} {W : WX}
def rInT (K : PySem.W.Frag) (neg : Bool) : R2 := fun x y H Q => ∃ d ds, Dp K H x d ∧ Dp K H y (.tuple ds) ∧ SeqAt.shaped d = true ∧ SeqAt.shaped (.tuple ds) = true ∧ Q (.bl (if neg then !(ds.any fun z => PyData.eqv z d) else ds.any fun z => PyData.eqv z d)) H
theorem shaped_tl {ds : List PyData} : SeqAt.shaped (.list ds) = SeqAt.shaped (.tuple ds) := rfl
theorem op_inT (hu : X.A.units + 65 < cLine) : OpR X (compareOp .In) (rInT X.K false) := by
  intro pins s σ H x y v u Q I rx ry ⟨d, ds, hd, he, sd, se, q⟩
  obtain ⟨as, r1⟩ := Dp.reads I d x v hd rx
  obtain ⟨bs, r2⟩ := Dp.reads I (.tuple ds) y u he ry
  have c1 : PyData.canLayAll0 ds = true := SeqAt.canLay_of_shaped se
  exact SeqAt.in_tuple_reads r2 r1 c1 (SeqAt.canLay_of_shaped sd) (room_in_shaped sd hu) ⟨.bl _, H, I, rfl, q⟩
theorem op_notInT (hu : X.A.units + 65 < cLine) : OpR X (compareOp .NotIn) (rInT X.K true) := by
  intro pins s σ H x y v u Q I rx ry ⟨d, ds, hd, he, sd, se, q⟩
  obtain ⟨as, r1⟩ := Dp.reads I d x v hd rx
  obtain ⟨bs, r2⟩ := Dp.reads I (.tuple ds) y u he ry
  have c1 : PyData.canLayAll0 ds = true := SeqAt.canLay_of_shaped se
  exact SeqAt.notIn_tuple_reads r2 r1 c1 (SeqAt.canLay_of_shaped sd) (room_in_shaped sd hu) ⟨.bl _, H, I, rfl, q⟩
theorem toPs_any {ys : List D} {a : D} : ((toPs ys).any fun z => PyData.eqv z (toP a)) = ys.any fun y => eqv y a := by
  induction ys with
  | nil => rfl
  | cons y ys ih => unfold toPs; rw [List.any_cons, List.any_cons, ih]; rfl
theorem toPs_shaped {ys : List D} (h : isDs ys = true) (z : deeps ys ≤ 60) : SeqAt.shaped (.tuple (toPs ys)) = true := by
  have := toP_shaped (d := .tup ys) (by unfold isD; exact h) (by unfold deep; omega)
  unfold toP at this
  exact this
theorem in_find {T : Tk} {H : Hp} {h : HH} {a b : D} {x y : V} {k : Bool} (r : RelH X.K T H h) (ra : rel X.K T H a x) (rb : rel X.K T H b y) (e : in? h a b = some k) :
    (∃ c z, x = .str ⟨#[c]⟩ ∧ y = .str z ∧ k = decide (c ∈ z.cps.toList)) ∨
      (∃ d ds, Dp X.K H x d ∧ (Dp X.K H y (.tuple ds) ∨ Dp X.K H y (.list ds)) ∧ SeqAt.shaped d = true ∧ SeqAt.shaped (.tuple ds) = true ∧ k = ds.any fun z => PyData.eqv z d) ∨
        ∃ a p xs, x = .ref a ∧ AnyO X.K H a ∧ y = .ref p ∧ (SqL X.K H p xs ∨ SqT X.K H p xs) ∧ (∀ z ∈ xs, ∃ t, z = V.str t) ∧ k = false := by
  unfold in? at e
  split at e
  · rename_i s t
    split at e
    · rename_i c e2
      cases e
      refine .inl ⟨c.toNat, _, ?_, rel_str_iff.mp rb, ?_⟩
      · rw [rel_str_iff.mp ra, Str.ofString_eq_toList, e2]; rfl
      · rw [cps_of]
        cases hc : t.toList.contains c with
        | true =>
          have := List.contains_iff_mem.mp hc
          symm; rw [decide_eq_true_eq]
          exact List.mem_map_of_mem this
        | false =>
          symm; rw [decide_eq_false_iff_not]
          intro hm
          obtain ⟨c', h1, h2⟩ := List.mem_map.mp hm
          have : c' = c := Char.ext (UInt32.toNat_inj.mp h2)
          subst this
          rw [List.contains_iff_mem.mpr h1] at hc
          cases hc
    · cases e
  · split at e
    · rename_i ys e2
      split at e
      · rename_i hc
        cases e
        unfold inOk at hc
        simp only [Bool.and_eq_true, decide_eq_true_eq] at hc
        refine .inr (.inl ?_)
        refine ⟨toP (view h a), toPs ys, rel_view r ra hc.1.1.1, ?_, toP_shaped hc.1.1.1 (by omega), toPs_shaped hc.1.1.2 hc.2, toPs_any.symm⟩
        unfold items at e2
        split at e2
        · cases e2
          have := rel_dp (.tup ys) y (by unfold isD; exact hc.1.1.2) rb
          unfold toP at this
          exact .inl this
        · obtain ⟨p, vs, rfl, s, rv⟩ := rel_itemsL r rb e2
          exact .inr (.lst s (rels_dp ys vs hc.1.1.2 rv))
      · split at e
        · rename_i hc
          cases e
          rw [Bool.and_eq_true] at hc
          obtain ⟨a', e3, s⟩ := rel_isDc r ra hc.1
          obtain ⟨p, vs, e4, s2, rr⟩ := rel_items r rb e2
          exact .inr (.inr ⟨a', p, vs, e3, s, e4, s2, rels_strs rr hc.2, rfl⟩)
        · cases e
    · cases e
theorem o_in (hu : X.A.units + 65 < cLine) : OpR X (compareOp .In) (rdO X opIn) := OpR.mono (((op_in_sign.or (op_inT hu)).or (op_inD hu)).or (op_inDict hu)) fun x y H Q q => by
  obtain ⟨T, h, a, b, r, ra, rb, q⟩ := q
  obtain ⟨d, h', e, q⟩ := rdO_ok q
  unfold opIn at e
  cases e1 : in? h a b with
  | none => rw [e1] at e; cases e
  | some k =>
    rw [e1] at e
    cases e
    have q' := q T H (.bl k) Le.refl r (rel_bl_iff.mpr rfl)
    rcases in_find r ra rb e1 with ⟨c, z, e2, e3, e4⟩ | ⟨d, ds, h1, h2, h3, h4, e4⟩ | ⟨a', p, xs, g1, g2, g3, g4, g5, e4⟩
    · exact .inl (.inl (.inl ⟨c, z, e2, e3, e4 ▸ q'⟩))
    · rcases h2 with h2 | h2
      · exact .inl (.inl (.inr ⟨d, ds, h1, h2, h3, h4, by rw [if_neg Bool.false_ne_true]; exact e4 ▸ q'⟩))
      · exact .inl (.inr ⟨d, ds, h1, h2, h3, h4, e4 ▸ q'⟩)
    · exact .inr ⟨a', p, xs, g1, g2, g3, g4, g5, e4 ▸ q'⟩
theorem o_notIn (hu : X.A.units + 65 < cLine) : OpR X (compareOp .NotIn) (rdO X opNotIn) := OpR.mono (((op_notIn_sign.or (op_notInT hu)).or (op_notInD hu)).or (op_notInDict hu)) fun x y H Q q => by
  obtain ⟨T, h, a, b, r, ra, rb, q⟩ := q
  obtain ⟨d, h', e, q⟩ := rdO_ok q
  unfold opNotIn at e
  cases e1 : in? h a b with
  | none => rw [e1] at e; cases e
  | some k =>
    rw [e1] at e
    cases e
    have q' := q T H (.bl (!k)) Le.refl r (rel_bl_iff.mpr rfl)
    rcases in_find r ra rb e1 with ⟨c, z, e2, e3, e4⟩ | ⟨d, ds, h1, h2, h3, h4, e4⟩ | ⟨a', p, xs, g1, g2, g3, g4, g5, e4⟩
    · exact .inl (.inl (.inl ⟨c, z, e2, e3, e4 ▸ q'⟩))
    · rcases h2 with h2 | h2
      · exact .inl (.inl (.inr ⟨d, ds, h1, h2, h3, h4, by rw [if_pos rfl]; exact e4 ▸ q'⟩))
      · exact .inl (.inr ⟨d, ds, h1, h2, h3, h4, e4 ▸ q'⟩)
    · exact .inr ⟨a', p, xs, g1, g2, g3, g4, g5, by subst e4; exact q'⟩
end

/-! ### calls of built-ins by values -/
def rdC (X : Cx) (o : List D → HH → R D) : List V → Hp → VK → Prop := fun xs H Q => ∃ T h ds, RelH X.K T H h ∧ rels X.K T H ds xs ∧ match o ds h with
  | .ok d h' => ∀ T' H' v, Le T H T' H' → RelH X.K T' H' h' → rel X.K T' H' d v → Q v H'
  | _ => False
def eCall (o : List D → HH → R D) (f : Exs) : Ex := fun env h => (f env h).bind fun ds h1 => noX (o ds h1)
section
variable {X : Cx} {W : WX}
theorem CallR.mono {f : Value} {r r' : List V → Hp → VK → Prop} (h : CallR X f r) (i : ∀ x H Q, r' x H Q → r x H Q) : CallR X f r' :=
  fun pins s σ H x v Q I rx q => h pins s σ H x v Q I rx (i _ _ _ q)
theorem rd_call {o : List D → HH → R D} {f : Exs} {σ : L2.St} {H : Hp} {Q : VK} (hh : rd X W (eCall o f) σ H Q) : tCB (rdC X o) (rds X W f) σ H Q := by
  obtain ⟨T, env, h, r1, r2, a⟩ := hh
  refine ⟨T, env, h, r1, r2, a.bind r1.mut fun ds h1 T1 H1 vs _ l1 q1 rv a1 => ⟨T1, h1, ds, q1, rv, ?_⟩⟩
  revert a1
  cases o ds h1 with
  | ok d' h' => exact fun a2 T' H' v' l r q => a2 T' H' v' l r q
  | exc c h' => exact fun a2 => a2
  | stuck => exact fun a2 => a2
theorem se_callB {id : String} {x : Str} {e : Expr} {es : List Expr} {o : List D → HH → R D} {f : Exs} {p pos : Pos} (hc : CallR X (.builtin id) (rdC X o)) (hg : Gl X x) (hm : X.mg x = none) (hv : bootBuiltins x = some (.builtin id)) (ha : SA X W (e :: es) f)
    (hn : x ≠ "__name__" := by decide) (hdb : (x == ("__debug__" : Str)) = false := by decide)
    (he : starEach (e :: es) X.env = (false, eval e X.env) :: starEach es X.env := by rfl) (hpl : (backTo pos (starEach es X.env)).any (·.1) = false := by rfl) : SE X W (.Call (.Name x p) (e :: es) [] pos) (eCall o f) :=
  PE.mono (pe_callB hc hg hm hv ha.pa hn hdb he hpl) fun _ _ _ => rd_call
theorem se_callTy {ty : String} {x : Str} {e : Expr} {es : List Expr} {o : List D → HH → R D} {f : Exs} {p pos : Pos} (hc : CallR X (.type ty) (rdC X o)) (hg : Gl X x) (hm : X.mg x = none) (hv : bootBuiltins x = some (.type ty)) (ha : SA X W (e :: es) f)
    (hn : x ≠ "__name__" := by decide) (hdb : (x == ("__debug__" : Str)) = false := by decide)
    (he : starEach (e :: es) X.env = (false, eval e X.env) :: starEach es X.env := by rfl) (hpl : (backTo pos (starEach es X.env)).any (·.1) = false := by rfl) : SE X W (.Call (.Name x p) (e :: es) [] pos) (eCall o f) :=
  PE.mono (pe_callTy hc hg hm hv ha.pa hn hdb he hpl) fun _ _ _ => rd_call
/-- a built-in class as a value -/
theorem se_ty {x : Str} {n : String} {pos : Pos} (hg : Gl X x) (hm : X.mg x = none) (hv : bootBuiltins x = some (.type n)) (hn : x ≠ "__name__" := by decide) (hd : (x == ("__debug__" : Str)) = false := by decide) : SE X W (.Name x pos) (eC (.ty n)) :=
  se_of (pe_bltn (v := .ty n) hg hm hv rfl hn hd) fun _ _ => by unfold rel; rfl

/-! len -/
def lenD (h : HH) (d : D) : Option Nat := match d with
  | .str s => if s.length ≤ sz then some s.length else none
  | .dic xs => some xs.length
  | .ref i => match h[i]? with
    | some (.lst xs) => some xs.length
    | some (.dic xs) => some xs.length
    | _ => none
  | d => (items h d).map List.length
def cLen (ds : List D) (h : HH) : R D := match ds with
  | [d] => ofO (lenD h d) fun n => .ok (.int n) h
  | _ => .stuck
theorem rels_one {K T H d vs} (r : rels K T H [d] vs) : ∃ v, vs = [v] ∧ rel K T H d v := by
  unfold rels at r
  obtain ⟨v, t, e, r1, r2⟩ := r
  unfold rels at r2
  subst r2
  exact ⟨v, e, r1⟩
theorem rels_two {K T H d e vs} (r : rels K T H [d, e] vs) : ∃ v u, vs = [v, u] ∧ rel K T H d v ∧ rel K T H e u := by
  unfold rels at r
  obtain ⟨v, t, e, r1, r2⟩ := r
  obtain ⟨u, rfl, r3⟩ := rels_one r2
  exact ⟨v, u, e, r1, r3⟩
theorem c_len : CallR X (.builtin "len") (rdC X cLen) := CallR.mono (call_len.or call_lenD) fun xs H Q q => by
  obtain ⟨T, h, ds, r, rs, q⟩ := q
  obtain ⟨d, h', e, q⟩ := rdO_ok q
  unfold cLen at e
  split at e
  · rename_i d0
    cases e1 : lenD h d0 with
    | none => rw [e1] at e; cases e
    | some n =>
      rw [e1] at e
      cases e
      obtain ⟨v, rfl, rv⟩ := rels_one rs
      have q' := q T H (.int n) Le.refl r (rel_int_iff.mpr rfl)
      unfold lenD at e1
      split at e1
      · split at e1
        · rename_i s hz
          cases e1
          have := rel_str_iff.mp rv
          subst this
          exact .inl ⟨_, _, rfl, ⟨by rw [ofStr_len, sizeLine_eq]; exact hz, by rw [ofStr_len]⟩, q'⟩
        · cases e1
      · cases e1
        unfold rel at rv
        obtain ⟨a, vs, rfl, s, n, rk⟩ := rv
        exact .inr ⟨a, vs, rfl, s, by rw [relk_length rk]; exact q'⟩
      · unfold rel at rv
        obtain ⟨a, rfl, e2⟩ := rv
        split at e1
        · rename_i xs e3
          cases e1
          obtain ⟨b, e4, vs, e5, rr⟩ := r.at_ _ _ e3
          rw [e2] at e4; cases e4
          exact .inl ⟨_, _, rfl, .inl ⟨vs, SqL.of e5, (rels_length rr).symm⟩, q'⟩
        · rename_i xs e3
          cases e1
          obtain ⟨b, e4, vs, e5, rr⟩ := r.at_ _ _ e3
          rw [e2] at e4; cases e4
          exact .inr ⟨a, vs, rfl, e5, by rw [relk_length rr]; exact q'⟩
        · cases e1
      · cases e2 : items h d0 with
        | none => rw [e2] at e1; cases e1
        | some ys =>
          rw [e2] at e1
          cases e1
          obtain ⟨p, vs, rfl, s, rr⟩ := rel_items r rv e2
          exact .inl ⟨_, _, rfl, s.imp (fun s => ⟨vs, s, (rels_length rr).symm⟩) (fun s => ⟨vs, s, (rels_length rr).symm⟩), q'⟩
  · cases e
end
end Pu

namespace Pu
open PySem PySem.Spec PyProof.Rows L2

/-! ### isinstance -/
inductive Ti where
  | non | bl | int | str | tup | lst | dic
  deriving DecidableEq
def Ti.nm : Ti → String
  | .non => "NoneType" | .bl => "bool" | .int => "int" | .str => "str" | .tup => "tuple" | .lst => "list" | .dic => "dict"
def tiD (h : HH) (d : D) : Option Ti := match d with
  | .non => some .non
  | .bl _ => some .bl
  | .int _ => some .int
  | .str _ => some .str
  | .tup _ => some .tup
  | .lst _ => some .lst
  | .frz _ => some .lst
  | .dic _ => some .dic
  | .ref i => match h[i]? with
    | some (.lst _) => some .lst
    | some (.dic _) => some .dic
    | _ => none
  | .ty _ => none
  | .xc _ => none
  | .lam _ _ _ _ _ => none
  | .tux _ => none
def isTi (t : Ti) (n : String) : Option Bool :=
  if n = "int" then some (t == .int || t == .bl) else if n = "bool" then some (t == .bl) else if n = "str" then some (t == .str) else if n = "tuple" then some (t == .tup)
  else if n = "list" then some (t == .lst) else if n = "dict" then some (t == .dic) else none
theorem isTi_kit {K : PySem.W.Frag} {t : Ti} {n : String} {b : Bool} (e : isTi t n = some b) : PySem.W.kitOne K (.type t.nm) (.type n) = some b := by
  unfold isTi at e
  split at e
  · rename_i hn; subst hn; refine kit_ty ?_; cases e; cases t <;> decide +kernel
  · split at e
    · rename_i hn; subst hn; refine kit_ty ?_; cases e; cases t <;> decide +kernel
    · split at e
      · rename_i hn; subst hn; refine kit_ty ?_; cases e; cases t <;> decide +kernel
      · split at e
        · rename_i hn; subst hn; refine kit_ty ?_; cases e; cases t <;> decide +kernel
        · split at e
          · rename_i hn; subst hn; refine kit_ty ?_; cases e; cases t <;> decide +kernel
          · split at e
            · rename_i hn; subst hn; refine kit_ty ?_; cases e; cases t <;> decide +kernel
            · cases e
theorem ty_of {K T H h} (r : RelH K T H h) {d : D} {v : V} (q : rel K T H d v) {t : Ti} (e : tiD h d = some t) : TyX K H v (.type t.nm) := by
  cases d with
  | non => unfold rel at q; unfold tiD at e; subst q; cases e; exact .base .non
  | bl b => unfold rel at q; unfold tiD at e; subst q; cases e; exact .base (.bl b)
  | int i => unfold rel at q; unfold tiD at e; subst q; cases e; exact .base (.int i)
  | str s => unfold rel at q; unfold tiD at e; subst q; cases e; exact .base (.str _)
  | tup xs =>
    unfold rel at q; unfold tiD at e; cases e
    obtain ⟨a, vs, rfl, s, q⟩ := q
    have s := s.sq
    rcases s with (s | ⟨o, s⟩) | ⟨o, its, n, h1, h2, _⟩
    · exact .base (.tup s)
    · exact .fTuple s
    · exact .kTuple h1 h2
  | lst xs =>
    unfold rel at q; unfold tiD at e; cases e
    obtain ⟨a, vs, rfl, s, n, q⟩ := q
    exact .base (.lst s)
  | frz xs =>
    unfold rel at q; unfold tiD at e; cases e
    obtain ⟨a, vs, rfl, s, q⟩ := q
    rcases s with ⟨s | ⟨o, s⟩, _⟩ | s
    · exact .base (.lst s)
    · exact .base (.frz s)
    · rcases s (fun _ => none) with (s | ⟨o, s⟩) | ⟨o, its, n, h1, h2, _⟩
      · cases s
      · cases s
      · exact .kList h1 h2
  | dic xs =>
    unfold rel at q; unfold tiD at e; cases e
    obtain ⟨a, vs, rfl, s, n, q⟩ := q
    exact .base (.dK s)
  | ref i =>
    unfold rel at q; unfold tiD at e
    obtain ⟨a, rfl, q⟩ := q
    dsimp only at e
    split at e
    · rename_i xs e2
      cases e
      obtain ⟨b, e3, vs, e4, rr⟩ := r.at_ _ _ e2
      rw [q] at e3; cases e3
      exact .base (.lst e4)
    · rename_i xs e2
      cases e
      obtain ⟨b, e3, vs, e4, rr⟩ := r.at_ _ _ e2
      rw [q] at e3; cases e3
      exact .base (.dK e4)
    · cases e
  | ty n => unfold tiD at e; cases e
  | xc n => unfold tiD at e; cases e
  | lam f c q ds vs => unfold tiD at e; cases e
  | tux n => unfold tiD at e; cases e
def cIsi (ds : List D) (h : HH) : R D := match ds with
  | [d, .ty n] => ofO (tiD h d) fun t => ofO (isTi t n) fun b => .ok (.bl b) h
  | _ => .stuck
theorem ofO_ok {α β : Type} {o : Option α} {k : α → R β} {b : β} {h : HH} (e : ofO o k = .ok b h) : ∃ a, o = some a ∧ k a = .ok b h := by
  cases o with
  | none => cases e
  | some a => exact ⟨a, rfl, e⟩
section
variable {X : Cx} {W : WX}
theorem c_isi : CallR X (.builtin "isinstance") (rdC X cIsi) := CallR.mono call_isi fun xs H Q q => by
  obtain ⟨T, h, ds, r, rs, q⟩ := q
  obtain ⟨d, h', e, q⟩ := rdO_ok q
  unfold cIsi at e
  split at e
  · rename_i d0 n
    obtain ⟨t, e1, e⟩ := ofO_ok e
    obtain ⟨b, e2, e⟩ := ofO_ok e
    cases e
    obtain ⟨v, u, rfl, rv, ru⟩ := rels_two rs
    unfold rel at ru
    subst ru
    exact ⟨v, .ty n, .type t.nm, .type n, b, rfl, .ty n, ty_of r rv e1, isTi_kit e2, q T H _ Le.refl r (rel_bl_iff.mpr rfl)⟩
  · cases e

/-! ### small ones -/
def cAbs (ds : List D) (h : HH) : R D := match ds with
  | [.int i] => .ok (.int (if i < 0 then -i else i)) h
  | _ => .stuck
theorem c_abs : CallR X (.builtin "abs") (rdC X cAbs) := CallR.mono call_abs fun xs H Q q => by
  obtain ⟨T, h, ds, r, rs, q⟩ := q
  obtain ⟨d, h', e, q⟩ := rdO_ok q
  unfold cAbs at e
  split at e
  · cases e
    obtain ⟨v, rfl, rv⟩ := rels_one rs
    rw [rel_int_iff] at rv
    subst rv
    exact ⟨_, rfl, q T H _ Le.refl r (rel_int_iff.mpr rfl)⟩
  · cases e
def cInt (ds : List D) (h : HH) : R D := match ds with
  | [.int i] => .ok (.int i) h
  | [.bl b] => .ok (.int (if b then 1 else 0)) h
  | _ => .stuck
theorem c_int : CallR X (.type "int") (rdC X cInt) := CallR.mono call_int1 fun xs H Q q => by
  obtain ⟨T, h, ds, r, rs, q⟩ := q
  obtain ⟨d, h', e, q⟩ := rdO_ok q
  unfold cInt at e
  split at e
  · cases e
    obtain ⟨v, rfl, rv⟩ := rels_one rs
    rw [rel_int_iff] at rv
    subst rv
    exact .inl ⟨_, rfl, q T H _ Le.refl r (rel_int_iff.mpr rfl)⟩
  · cases e
    obtain ⟨v, rfl, rv⟩ := rels_one rs
    rw [rel_bl_iff] at rv
    subst rv
    exact .inr ⟨_, rfl, q T H _ Le.refl r (rel_int_iff.mpr rfl)⟩
  · cases e
theorem rel_itemsX {K T H h} (r : RelH K T H h) {d : D} {v : V} {xs : List D} (q : rel K T H d v) (e : items h d = some xs) : ∃ a vs, v = .ref a ∧ (SqL K H a vs ∨ (XT K H a vs ∧ d = .tup xs)) ∧ rels K T H xs vs := by
  unfold items at e
  split at e
  · cases e
    unfold rel at q
    obtain ⟨a, vs, e, s, q⟩ := q
    exact ⟨a, vs, e, .inr ⟨s, rfl⟩, q⟩
  · obtain ⟨a, vs, e, s, q⟩ := rel_itemsL r q e
    exact ⟨a, vs, e, .inl s, q⟩
/-- tuple(x) -/
def cTup (ds : List D) (h : HH) : R D := match ds with
  | [d] => ofO (items h d) fun xs => .ok (.tup xs) h
  | _ => .stuck
theorem c_tup : CallR X (.type "tuple") (rdC X cTup) := CallR.mono call_tupleK fun xs H Q q => by
  obtain ⟨T, h, ds, r, rs, q⟩ := q
  obtain ⟨d, h', e, q⟩ := rdO_ok q
  unfold cTup at e
  split at e
  · rename_i d0
    obtain ⟨ys, e1, e⟩ := ofO_ok e
    cases e
    obtain ⟨v, rfl, rv⟩ := rels_one rs
    obtain ⟨a, vs, rfl, s, rr⟩ := rel_itemsX r rv e1
    refine ⟨a, vs, rfl, s.imp (fun s => ⟨s, fun p o hp ho => ?_⟩) (fun s => ⟨s.1.sq, ?_⟩)⟩
    · exact q T _ _ (Le.new hp) (r.new hp) (rel_tup upd_same ho (rels_mono (Le.new hp) r.mut _ _ rr))
    · refine q T H _ Le.refl r ?_
      unfold rel
      exact ⟨a, vs, rfl, s.1, rr⟩
  · cases e
def blsD : List D → Option (List Bool)
  | [] => some []
  | .bl i :: ds => (blsD ds).map (i :: ·)
  | _ :: _ => none
theorem rels_bls {K T H} : ∀ {ds : List D} {vs : List V} {ns : List Bool}, rels K T H ds vs → blsD ds = some ns → vs = ns.map V.bl
  | [], vs, ns, r, e => by unfold rels at r; unfold blsD at e; cases e; rw [r]; rfl
  | d :: ds, vs, ns, r, e => by
    unfold rels at r
    obtain ⟨v, t, rfl, r1, r2⟩ := r
    unfold blsD at e
    split at e
    · rename_i heq; cases heq
    · rename_i i ds' heq
      cases heq
      cases e2 : blsD ds with
      | none => rw [e2] at e; cases e
      | some ms =>
        rw [e2] at e; cases e
        rw [rels_bls r2 e2, rel_bl_iff.mp r1]; rfl
    · cases e
def cAll (ds : List D) (h : HH) : R D := match ds with
  | [d] => ofO (itemsL h d) fun xs => ofO (blsD xs) fun bs => .ok (.bl (bs.all id)) h
  | _ => .stuck
def cAny (ds : List D) (h : HH) : R D := match ds with
  | [d] => ofO (itemsL h d) fun xs => ofO (blsD xs) fun bs => .ok (.bl (bs.any id)) h
  | _ => .stuck
theorem c_all (hc : X.calm = true) : CallR X (.builtin "all") (rdC X cAll) := CallR.mono (cr_all hc) fun xs H Q q => by
  obtain ⟨T, h, ds, r, rs, q⟩ := q
  obtain ⟨d, h', e, q⟩ := rdO_ok q
  unfold cAll at e
  split at e
  · rename_i d0
    obtain ⟨ys, e1, e⟩ := ofO_ok e
    obtain ⟨bs, e2, e⟩ := ofO_ok e
    cases e
    obtain ⟨v, rfl, rv⟩ := rels_one rs
    obtain ⟨a, vs, rfl, s, rr⟩ := rel_itemsL r rv e1
    exact ⟨a, bs, rfl, rels_bls rr e2 ▸ s, q T H _ Le.refl r (rel_bl_iff.mpr rfl)⟩
  · cases e
theorem c_any (hc : X.calm = true) : CallR X (.builtin "any") (rdC X cAny) := CallR.mono (cr_any hc) fun xs H Q q => by
  obtain ⟨T, h, ds, r, rs, q⟩ := q
  obtain ⟨d, h', e, q⟩ := rdO_ok q
  unfold cAny at e
  split at e
  · rename_i d0
    obtain ⟨ys, e1, e⟩ := ofO_ok e
    obtain ⟨bs, e2, e⟩ := ofO_ok e
    cases e
    obtain ⟨v, rfl, rv⟩ := rels_one rs
    obtain ⟨a, vs, rfl, s, rr⟩ := rel_itemsL r rv e1
    exact ⟨a, bs, rfl, rels_bls rr e2 ▸ s, q T H _ Le.refl r (rel_bl_iff.mpr rfl)⟩
  · cases e
def cMax (ds : List D) (h : HH) : R D := match ds with
  | [.int i, .int j] => .ok (.int (if j > i then j else i)) h
  | _ => .stuck
theorem c_max (hc : X.calm = true) : CallR X (.builtin "max") (rdC X cMax) := CallR.mono (call_max2 hc) fun xs H Q q => by
  obtain ⟨T, h, ds, r, rs, q⟩ := q
  obtain ⟨d, h', e, q⟩ := rdO_ok q
  unfold cMax at e
  split at e
  · cases e
    obtain ⟨v, u, rfl, rv, ru⟩ := rels_two rs
    rw [rel_int_iff] at rv ru
    subst rv ru
    exact ⟨_, _, rfl, q T H _ Le.refl r (rel_int_iff.mpr rfl)⟩
  · cases e
def cMin (ds : List D) (h : HH) : R D := match ds with
  | [.int i, .int j] => .ok (.int (if j < i then j else i)) h
  | _ => .stuck
theorem c_min (hc : X.calm = true) : CallR X (.builtin "min") (rdC X cMin) := CallR.mono (call_min2 hc) fun xs H Q q => by
  obtain ⟨T, h, ds, r, rs, q⟩ := q
  obtain ⟨d, h', e, q⟩ := rdO_ok q
  unfold cMin at e
  split at e
  · cases e
    obtain ⟨v, u, rfl, rv, ru⟩ := rels_two rs
    rw [rel_int_iff] at rv ru
    subst rv ru
    exact ⟨_, _, rfl, q T H _ Le.refl r (rel_int_iff.mpr rfl)⟩
  · cases e
def cSum (ds : List D) (h : HH) : R D := match ds with
  | [d] => ofO (itemsL h d) fun xs => ofO (intsD xs) fun ns => .ok (.int ns.sum) h
  | _ => .stuck
theorem c_sum (hc : X.calm = true) : CallR X (.builtin "sum") (rdC X cSum) := CallR.mono (cr_sum hc) fun xs H Q q => by
  obtain ⟨T, h, ds, r, rs, q⟩ := q
  obtain ⟨d, h', e, q⟩ := rdO_ok q
  unfold cSum at e
  split at e
  · rename_i d0
    obtain ⟨ys, e1, e⟩ := ofO_ok e
    obtain ⟨ns, e2, e⟩ := ofO_ok e
    cases e
    obtain ⟨v, rfl, rv⟩ := rels_one rs
    obtain ⟨a, vs, rfl, s, rr⟩ := rel_itemsL r rv e1
    exact ⟨a, ns, rfl, rels_ints rr e2 ▸ s, q T H _ Le.refl r (rel_int_iff.mpr rfl)⟩
  · cases e
/-- list(x): a new list -/
def fCall (o : List D → HH → Option (List D)) (f : Exs) : Exs := fun env h => (f env h).bind fun ds h1 => ofO (o ds h1) fun xs => .ok xs h1
def cLst (ds : List D) (h : HH) : Option (List D) := match ds with
  | [d] => items h d
  | _ => none
theorem sf_list {x : Str} {e : Expr} {f : Exs} {p pos : Pos} (hg : Gl X x) (hm : X.mg x = none) (hv : bootBuiltins x = some (.type "list")) (ha : SA X W [e] f)
    (hn : x ≠ "__name__" := by decide) (hdb : (x == ("__debug__" : Str)) = false := by decide)
    (he : starEach [e] X.env = (false, eval e X.env) :: starEach [] X.env := by rfl) (hpl : (backTo pos (starEach [] X.env)).any (·.1) = false := by rfl) : SF X W (.Call (.Name x p) [e] [] pos) (fCall cLst f) :=
  PE.mono (pe_callTy call_list_of hg hm hv ha.pa hn hdb he hpl) fun σ H Q hh => by
    obtain ⟨T, env, h, r1, r2, a⟩ := hh
    refine ⟨T, env, h, r1, r2, a.bind0 fun ds h1 T1 H1 vs e l1 q1 rvs a1 => ?_⟩
    cases e1 : cLst ds h1 with
    | none => rw [e1] at a1; exact False.elim a1
    | some xs =>
      rw [e1] at a1
      have a1 : After X.K X.mg W T H σ (qF X.K H) Q (.ok xs h1) := a1
      unfold cLst at e1
      split at e1
      · obtain ⟨v, rfl, rv⟩ := rels_one rvs
        obtain ⟨b, ws, rfl, s, rr⟩ := rel_items q1 rv e1
        refine ⟨b, ws, rfl, s, fun p hp => ?_⟩
        exact a1 (T1.blk p) (upd H1 p (.lst ws)) _ (l1.trans r1.mut (Le.blk hp)) (q1.blk hp) ⟨p, ws, rfl, upd_same, fun z => q1.mut.free hp (q1.sub p z), .inr rfl, l1.was q1.mut hp, rels_mono (Le.blk hp) q1.mut xs ws rr⟩
      · cases e1
end
end Pu

namespace Pu
open PySem PySem.Spec PyProof.Rows L2

/-! ### dicts -/
def kyD (d : D) : Option Ky := match d with
  | .int i => some (.inl i)
  | .str s => some (.inr s)
  | _ => none
def dGet (kvs : List (Ky × D)) (k : Ky) : Option D := (kvs.find? fun kv => decide (kv.1 = k)).map (·.2)
def dPut (kvs : List (Ky × D)) (k : Ky) (d : D) : List (Ky × D) :=
  if (kvs.any fun kv => decide (kv.1 = k)) = true then kvs.map (fun kv => if kv.1 = k then (kv.1, d) else kv) else kvs ++ [(k, d)]
theorem kyV_inj {a b : Ky} (h : kyV a = kyV b) : a = b := by
  cases a <;> cases b <;> unfold kyV at h
  · cases h; rfl
  · cases h
  · cases h
  · rw [ofStr_inj (Sum.inr.inj h)]
theorem kyV_dec (a b : Ky) : decide (kyV a = kyV b) = decide (a = b) := by
  by_cases h : a = b
  · subst h; simp
  · rw [decide_eq_false h, decide_eq_false fun q => h (kyV_inj q)]
/-- the pairs a dict holds -/
def dicD (h : HH) (d : D) : Option (List (Ky × D)) := match d with
  | .dic xs => some xs
  | .ref i => match h[i]? with
    | some (.dic xs) => some xs
    | some (.lkd xs) => some xs
    | _ => none
  | _ => none
section
variable {K : PySem.W.Frag} {T : Tk} {H : Hp} {h : HH}
theorem rel_ky {d : D} {v : V} {k : Ky} (r : rel K T H d v) (e : kyD d = some k) : v = kV (kyV k) := by
  unfold kyD at e
  split at e
  · cases e; exact rel_int_iff.mp r
  · cases e; exact rel_str_iff.mp r
  · cases e
theorem relk_get : ∀ {ds : List (Ky × D)} {vs : List (Key × V)}, relk K T H ds vs → ∀ k, (∀ d, dGet ds k = some d → ∃ v, valV vs (kyV k) = some v ∧ rel K T H d v) ∧ (dGet ds k = none → valV vs (kyV k) = none)
  | [], vs, r, k => by
    unfold relk at r; subst r
    exact ⟨fun d e => (by cases e), fun _ => rfl⟩
  | (j, d) :: ds, vs, r, k => by
    unfold relk at r
    obtain ⟨v, t, rfl, r1, r2⟩ := r
    have ih := relk_get r2 k
    by_cases hj : j = k
    · subst hj
      refine ⟨fun d' e => ⟨v, valV_pos rfl, ?_⟩, fun e => ?_⟩
      · have : dGet ((j, d) :: ds) j = some d := by unfold dGet; rw [List.find?_cons]; simp
        rw [this] at e; cases e; exact r1
      · have : dGet ((j, d) :: ds) j = some d := by unfold dGet; rw [List.find?_cons]; simp
        rw [this] at e; cases e
    · have e0 : dGet ((j, d) :: ds) k = dGet ds k := by unfold dGet; rw [List.find?_cons]; simp [hj]
      have e1 : valV ((kyV j, v) :: t) (kyV k) = valV t (kyV k) := valV_neg fun q => hj (kyV_inj q)
      rw [e0, e1]
      exact ih
theorem relk_append {ds es : List (Ky × D)} {vs ws : List (Key × V)} (a : relk K T H ds vs) (b : relk K T H es ws) : relk K T H (ds ++ es) (vs ++ ws) := by
  induction ds generalizing vs with
  | nil => unfold relk at a; subst a; exact b
  | cons d ds ih =>
    obtain ⟨k, d⟩ := d
    unfold relk at a
    obtain ⟨v, t, rfl, r1, r2⟩ := a
    show relk K T H ((k, d) :: (ds ++ es)) _
    unfold relk
    exact ⟨v, t ++ ws, rfl, r1, ih r2⟩
theorem relk_put {ds : List (Ky × D)} {vs : List (Key × V)} (r : relk K T H ds vs) (k : Ky) {d : D} {v : V} (q : rel K T H d v) : relk K T H (dPut ds k d) (putK vs (kyV k) v) := by
  have ha : ∀ {ds : List (Ky × D)} {vs : List (Key × V)}, relk K T H ds vs → (vs.any fun kv => decide (kv.1 = kyV k)) = ds.any fun kv => decide (kv.1 = k) := by
    intro ds
    induction ds with
    | nil => intro vs r; unfold relk at r; subst r; rfl
    | cons e ds ih =>
      intro vs r
      obtain ⟨j, e⟩ := e
      unfold relk at r
      obtain ⟨v, t, rfl, r1, r2⟩ := r
      rw [List.any_cons, List.any_cons, ih r2, kyV_dec]
  have hm : ∀ {ds : List (Ky × D)} {vs : List (Key × V)}, relk K T H ds vs → relk K T H (ds.map fun kv => if kv.1 = k then (kv.1, d) else kv) (vs.map fun kv => if kv.1 = kyV k then (kv.1, v) else kv) := by
    intro ds
    induction ds with
    | nil => intro vs r; unfold relk at r; subst r; unfold relk; rfl
    | cons e ds ih =>
      intro vs r
      obtain ⟨j, e⟩ := e
      unfold relk at r
      obtain ⟨u, t, rfl, r1, r2⟩ := r
      rw [List.map_cons, List.map_cons]
      by_cases hj : j = k
      · rw [if_pos hj, if_pos (by rw [hj])]
        unfold relk
        exact ⟨v, _, rfl, q, ih r2⟩
      · rw [if_neg hj, if_neg fun z => hj (kyV_inj z)]
        unfold relk
        exact ⟨u, _, rfl, r1, ih r2⟩
  unfold dPut putK
  rw [ha r]
  by_cases hk : (ds.any fun kv => decide (kv.1 = k)) = true
  · rw [if_pos hk, if_pos hk]; exact hm r
  · rw [if_neg hk, if_neg hk]
    refine relk_append r ?_
    unfold relk
    exact ⟨v, [], rfl, q, by unfold relk; rfl⟩
theorem rel_dicD (r : RelH K T H h) {d : D} {v : V} {xs : List (Ky × D)} (q : rel K T H d v) (e : dicD h d = some xs) : ∃ a vs, v = .ref a ∧ Rd H a (.dK vs) ∧ relk K T H xs vs := by
  unfold dicD at e
  split at e
  · cases e
    unfold rel at q
    obtain ⟨a, vs, e, s, n, q⟩ := q
    exact ⟨a, vs, e, .inl s, q⟩
  · unfold rel at q
    obtain ⟨a, e1, q⟩ := q
    split at e
    · rename_i xs' e2
      cases e
      obtain ⟨b, e3, vs, e4, rr⟩ := r.at_ _ _ e2
      rw [q] at e3; cases e3
      exact ⟨a, vs, e1, .inl e4, rr⟩
    · rename_i xs' e2
      cases e
      obtain ⟨b, e3, vs, e4, rr⟩ := r.at_ _ _ e2
      rw [q] at e3; cases e3
      exact ⟨a, vs, e1, .inr e4, rr⟩
    · cases e
  · cases e
end
theorem DGet.rd {H : Hp} {a : Addr} {kvs : List (Key × V)} {k : Key} (e : Rd H a (.dK kvs)) : DGet H a (kV k) (valV kvs k) := .inl ⟨kvs, k, e, rfl, rfl⟩
def opDGet (a b : D) (h : HH) : R D := ofO (dicD h a) fun kvs => ofO (kyD b) fun k => ofO (dGet kvs k) fun d => .ok d h
def opDIn (neg : Bool) (a b : D) (h : HH) : R D := ofO (dicD h b) fun kvs => ofO (kyD a) fun k => .ok (.bl (if neg then !(dGet kvs k).isSome else (dGet kvs k).isSome)) h
section
variable {X : Cx} {W : WX} {k : Nat}
theorem Cok.hu1 (C : Cok X W k) : X.A.units + 1 < cLine := hu_of C.hr
theorem se_dget (C : Cok X W k) {a b : Expr} {f g : Ex} {pos : Pos} (ha : SE X W a f) (hb : SE X W b g) (hs : NoSl b := by exact fun _ _ => rfl) : SE X W (.Subscript a b pos) (eOp opDGet f g) :=
  PE.mono (pe_dget C.hu1 ha hb hs) fun σ H Q hh => by
    obtain ⟨T, env, h, r1, r2, a⟩ := hh
    refine ⟨T, env, h, r1, r2, a.bind r1.mut fun d h1 T1 H1 v _ l1 q1 rv a1 => ?_⟩
    refine ⟨T1, env, h1, q1, relE_mono l1 r1.mut r2, a1.bind q1.mut fun e h2 T2 H2 u _ l2 q2 ru a2 => ?_⟩
    have rv2 := rel_mono l2 q1.mut d v rv
    unfold opDGet at a2
    cases e1 : dicD h2 d with
    | none => rw [e1] at a2; exact False.elim a2
    | some kvs =>
      rw [e1] at a2
      cases e2 : kyD e with
      | none => rw [e2] at a2; exact False.elim a2
      | some ky =>
        rw [e2] at a2
        cases e3 : dGet kvs ky with
        | none => dsimp only [ofO] at a2; rw [e3] at a2; exact False.elim a2
        | some d3 =>
          dsimp only [ofO] at a2; rw [e3] at a2
          obtain ⟨p, vs, rfl, s, rk⟩ := rel_dicD q2 rv2 e1
          obtain ⟨w, e4, rw'⟩ := (relk_get rk ky).1 d3 e3
          refine ⟨p, w, rfl, ?_, After.done a2 q2 rw'⟩
          rw [rel_ky ru e2, ← e4]
          exact DGet.rd s
theorem rd_din {neg : Bool} {f g : Ex} {σ : L2.St} {H : Hp} {Q : VK} (hh : rd X W (eOp (opDIn neg) f g) σ H Q) : rd X W f σ H fun y H1 => rd X W g σ H1 fun x H2 => ∃ a o, x = .ref a ∧ DGet H2 a y o ∧ Q (.bl (if neg then !o.isSome else o.isSome)) H2 := by
  obtain ⟨T, env, h, r1, r2, a⟩ := hh
  refine ⟨T, env, h, r1, r2, a.bind r1.mut fun d h1 T1 H1 v _ l1 q1 rv a1 => ?_⟩
  refine ⟨T1, env, h1, q1, relE_mono l1 r1.mut r2, a1.bind q1.mut fun e h2 T2 H2 u _ l2 q2 ru a2 => ?_⟩
  have rv2 := rel_mono l2 q1.mut d v rv
  unfold opDIn at a2
  cases e1 : dicD h2 e with
  | none => rw [e1] at a2; exact False.elim a2
  | some kvs =>
    rw [e1] at a2
    cases e2 : kyD d with
    | none => rw [e2] at a2; exact False.elim a2
    | some ky =>
      dsimp only [ofO] at a2; rw [e2] at a2
      obtain ⟨p, vs, rfl, s, rk⟩ := rel_dicD q2 ru e1
      have a3 := After.done a2 q2 (rel_bl_iff.mpr rfl)
      refine ⟨p, valV vs (kyV ky), rfl, by rw [rel_ky rv2 e2]; exact DGet.rd s, ?_⟩
      have e5 : (valV vs (kyV ky)).isSome = (dGet kvs ky).isSome := by
        cases e6 : dGet kvs ky with
        | none => rw [(relk_get rk ky).2 e6]; rfl
        | some d3 => obtain ⟨w, e7, _⟩ := (relk_get rk ky).1 d3 e6; rw [e7]; rfl
      rw [e5]
      exact a3
theorem se_din (C : Cok X W k) {a b : Expr} {f g : Ex} {pos : Pos} (ha : SE X W a f) (hb : SE X W b g) (hm : behindInMarks .In b = false := by rfl) : SE X W (.Compare a [.In] [b] pos) (eOp (opDIn false) f g) :=
  PE.mono (pe_cmp (pc_din C.hu1 ha hb) hm) fun _ _ _ hh => rd_din hh
theorem se_dnotin (C : Cok X W k) {a b : Expr} {f g : Ex} {pos : Pos} (ha : SE X W a f) (hb : SE X W b g) (hm : behindInMarks .NotIn b = false := by rfl) : SE X W (.Compare a [.NotIn] [b] pos) (eOp (opDIn true) f g) :=
  PE.mono (pe_cmp (pc_dnotin C.hu1 ha hb) hm) fun _ _ _ hh => rd_din hh

/-! .get -/
def eGet1 (f g : Ex) : Ex := fun env h => (f env h).bind fun d h1 => ofO (dicD h1 d) fun _ => (g env h1).bind fun e h2 => ofO (dicD h2 d) fun kvs => ofO (kyD e) fun k => .ok ((dGet kvs k).getD .non) h2
def eGet2 (f g x : Ex) : Ex := fun env h => (f env h).bind fun d h1 => ofO (dicD h1 d) fun _ => (g env h1).bind fun e h2 => (x env h2).bind fun z h3 => ofO (dicD h3 d) fun kvs => ofO (kyD e) fun k => .ok ((dGet kvs k).getD z) h3
theorem After.ofO {K : PySem.W.Frag} {mg : Str → Option Value} {W : WX} {T : Tk} {H : Hp} {σ : L2.St} {α β γ : Type} {q : Tk → Hp → α → β → Prop} {Q : β → Hp → Prop} {o : Option γ} {k : γ → R α}
    (a : After K mg W T H σ q Q (ofO o k)) : ∃ b, o = some b ∧ After K mg W T H σ q Q (k b) := by
  cases o with
  | none => exact a.elim
  | some b => exact ⟨b, rfl, a⟩
theorem se_get1 (C : Cok X W k) {o e : Expr} {f g : Ex} {apos cpos : Pos} (ho : SE X W o f) (he : SE X W e g) (m : M1 X o "get" apos e cpos := by exact ⟨rfl, rfl, rfl, rfl⟩) : SE X W (.Call (.Attribute o "get" apos) [e] [] cpos) (eGet1 f g) :=
  PE.mono (pe_dget1 C.hu1 ho he m) fun σ H Q hh => by
    obtain ⟨T, env, h, r1, r2, a⟩ := hh
    refine ⟨T, env, h, r1, r2, a.bind r1.mut fun d h1 T1 H1 v _ l1 q1 rv a1 => ?_⟩
    obtain ⟨kv0, e0, a1⟩ := a1.ofO
    obtain ⟨p, vs0, rfl, s0, _⟩ := rel_dicD q1 rv e0
    refine ⟨p, rfl, .inl ⟨vs0, s0⟩, T1, env, h1, q1, relE_mono l1 r1.mut r2, a1.bind q1.mut fun e h2 T2 H2 u _ l2 q2 ru a2 => ?_⟩
    obtain ⟨kvs, e1, a2⟩ := a2.ofO
    obtain ⟨ky, e2, a2⟩ := a2.ofO
    obtain ⟨p', vs, e3, s, rk⟩ := rel_dicD q2 (rel_mono l2 q1.mut d _ rv) e1
    cases e3
    refine ⟨valV vs (kyV ky), by rw [rel_ky ru e2]; exact DGet.rd s, ?_⟩
    refine a2.done q2 ?_
    cases e6 : dGet kvs ky with
    | none => rw [(relk_get rk ky).2 e6]; exact rel_non_iff.mpr rfl
    | some d3 => obtain ⟨w, e7, r7⟩ := (relk_get rk ky).1 d3 e6; rw [e7]; exact r7
theorem se_get2 (C : Cok X W k) {o e x : Expr} {f g y : Ex} {apos cpos : Pos} (ho : SE X W o f) (he : SE X W e g) (hx : SE X W x y) (m : M2 X o "get" apos e x cpos := by exact ⟨rfl, rfl, rfl, rfl⟩) : SE X W (.Call (.Attribute o "get" apos) [e, x] [] cpos) (eGet2 f g y) :=
  PE.mono (pe_dget2 C.hu1 ho he hx m) fun σ H Q hh => by
    obtain ⟨T, env, h, r1, r2, a⟩ := hh
    refine ⟨T, env, h, r1, r2, a.bind r1.mut fun d h1 T1 H1 v _ l1 q1 rv a1 => ?_⟩
    obtain ⟨kv0, e0, a1⟩ := a1.ofO
    obtain ⟨p, vs0, rfl, s0, _⟩ := rel_dicD q1 rv e0
    refine ⟨p, rfl, .inl ⟨vs0, s0⟩, T1, env, h1, q1, relE_mono l1 r1.mut r2, a1.bind q1.mut fun e h2 T2 H2 u _ l2 q2 ru a2 => ?_⟩
    refine ⟨T2, env, h2, q2, relE_mono (l1.trans r1.mut l2) r1.mut r2, a2.bind q2.mut fun z h3 T3 H3 w _ l3 q3 rz a3 => ?_⟩
    obtain ⟨kvs, e1, a3⟩ := a3.ofO
    obtain ⟨ky, e2, a3⟩ := a3.ofO
    obtain ⟨p', vs, e3, s, rk⟩ := rel_dicD q3 (rel_mono (l2.trans q1.mut l3) q1.mut d _ rv) e1
    cases e3
    refine ⟨valV vs (kyV ky), by rw [rel_ky ru e2]; exact DGet.rd s, ?_⟩
    refine a3.done q3 ?_
    cases e6 : dGet kvs ky with
    | none => rw [(relk_get rk ky).2 e6]; exact rz
    | some d3 => obtain ⟨w, e7, r7⟩ := (relk_get rk ky).1 d3 e6; rw [e7]; exact r7
end
end Pu

namespace Pu
open PySem PySem.Spec PyProof.Rows L2

inductive S where
  | next (env : En) (h : HH) | ret (d : D) (h : HH) | brk (env : En) (h : HH) | cont (env : En) (h : HH) | exc (c : String) (env : En) (h : HH) | stuck
abbrev Sx := En → HH → S
def AfterS (K : PySem.W.Frag) (mg : Str → Option Value) (W : WX) (T : Tk) (H : Hp) (E : Ends) : S → Prop
  | .next env h => ∀ T' H' σ, Le T H T' H' → RelH K T' H' h → relE K T' H' env σ → E.nx σ H'
  | .ret d h => ∀ T' H' v, Le T H T' H' → RelH K T' H' h → rel K T' H' d v → E.rt v H'
  | .brk env h => ∀ T' H' σ, Le T H T' H' → RelH K T' H' h → relE K T' H' env σ → E.bk σ H'
  | .cont env h => ∀ T' H' σ, Le T H T' H' → RelH K T' H' h → relE K T' H' env σ → E.ct σ H'
  | .exc c env h => ∀ C T' H' σ, mg (Str.ofString c) = some C → Le T H T' H' → RelH K T' H' h → relE K T' H' env σ → W C none σ H'
  | .stuck => False
def rdSt (X : Cx) (W : WX) (f : Sx) : TS := fun E σ H => ∃ T env h, RelH X.K T H h ∧ relE X.K T H env σ ∧ AfterS X.K X.mg W T H E (f env h)
abbrev SS (X : Cx) (W : WX) (st : Stmt) (f : Sx) : Prop := PS X st (rdSt X W f)
abbrev SB (X : Cx) (W : WX) (sts : List Stmt) (f : Sx) : Prop := PSs X sts (rdSt X W f)
def R.bindS {α : Type} (x : R α) (env : En) (k : α → HH → S) : S := match x with
  | .ok a h => k a h
  | .exc c h => .exc c env h
  | .stuck => .stuck
section
variable {K : PySem.W.Frag} {mg : Str → Option Value} {W : WX} {T T' : Tk} {H H' : Hp} {h : HH} {σ : L2.St} {env : En} {E E' : Ends} {α β : Type} {q : Tk → Hp → α → β → Prop}
theorem AfterS.later {r : S} (a : AfterS K mg W T H E r) (l : Le T H T' H') (m : Mu T H) : AfterS K mg W T' H' E r := by
  revert a
  cases r with
  | next env h => exact fun a T2 H2 s2 l2 rr e => a T2 H2 s2 (l.trans m l2) rr e
  | ret d h => exact fun a T2 H2 v2 l2 rr e => a T2 H2 v2 (l.trans m l2) rr e
  | brk env h => exact fun a T2 H2 s2 l2 rr e => a T2 H2 s2 (l.trans m l2) rr e
  | cont env h => exact fun a T2 H2 s2 l2 rr e => a T2 H2 s2 (l.trans m l2) rr e
  | exc c env h => exact fun a C T2 H2 s2 hm l2 rr e => a C T2 H2 s2 hm (l.trans m l2) rr e
  | stuck => exact fun a => a
theorem AfterS.bindS0 {r : R α} {k : α → HH → S} {P : β → Hp → Prop} (a : AfterS K mg W T H E (r.bindS env k)) (m : Mu T H) (e : relE K T H env σ)
    (hT : ∀ d h' T' H' v, r = .ok d h' → Le T H T' H' → RelH K T' H' h' → q T' H' d v → AfterS K mg W T H E (k d h') → P v H') : After K mg W T H σ q P r := by
  revert a hT
  cases r with
  | ok d h' => exact fun a hT T' H' v l rr qq => hT d h' T' H' v rfl l rr qq a
  | exc c h' => exact fun a _ C T' H' hm l rr => a C T' H' σ hm l rr (relE_mono l m e)
  | stuck => exact fun a _ => a
theorem AfterS.bindS {r : R α} {k : α → HH → S} {P : β → Hp → Prop} (a : AfterS K mg W T H E (r.bindS env k)) (m : Mu T H) (e : relE K T H env σ)
    (hT : ∀ d h' T' H' v, r = .ok d h' → Le T H T' H' → RelH K T' H' h' → q T' H' d v → AfterS K mg W T' H' E (k d h') → P v H') : After K mg W T H σ q P r :=
  a.bindS0 m e fun d h' T' H' v e l rr qq a' => hT d h' T' H' v e l rr qq (a'.later l m)
theorem AfterS.next (a : AfterS K mg W T H E (.next env h)) (r : RelH K T H h) (e : relE K T H env σ) : E.nx σ H := a T H σ Le.refl r e
theorem relE_set (e : relE K T H env σ) {d : D} {v : V} (r : rel K T H d v) (i : Nat) : relE K T H (env.set i (some d)) (σ.set i (some v)) := by
  refine ⟨by rw [List.length_set, List.length_set]; exact e.1, fun j d' h => ?_⟩
  by_cases hj : i = j
  · subst hj
    by_cases hl : i < env.length
    · rw [List.getElem?_set_self hl] at h
      cases h
      exact ⟨v, List.getElem?_set_self (by rw [← e.1]; exact hl), r⟩
    · rw [List.getElem?_eq_none (by rw [List.length_set]; omega)] at h; cases h
  · rw [List.getElem?_set_ne hj] at h ⊢
    exact e.2 j d' h
end

/-! ### blocks -/
def sNil : Sx := fun env h => .next env h
def sSeq (f g : Sx) : Sx := fun env h => match f env h with
  | .next env' h' => g env' h'
  | r => r
def sRet (f : Ex) : Sx := fun env h => (f env h).bindS env fun d h1 => .ret d h1
def sRetN : Sx := fun _ h => .ret .non h
def sEx (f : Ex) : Sx := fun env h => (f env h).bindS env fun _ h1 => .next env h1
def sIf (c : Et) (f g : Sx) : Sx := fun env h => (c env h).bindS env fun b h1 => if b = true then f env h1 else g env h1
def sBrk : Sx := fun env h => .brk env h
def sSet (i : Nat) (f : Ex) : Sx := fun env h => (f env h).bindS env fun d h1 => .next (env.set i (some d)) h1
section
variable {X : Cx} {W : WX} {st : Stmt} {rest : List Stmt} {f g : Sx} {e : Expr} {fe : Ex} {pos : Pos}
theorem sb_nil : SB X W [] sNil := PSs.mono pss_nil fun E σ H hh => by
  obtain ⟨T, env, h, r1, r2, a⟩ := hh
  exact a.next r1 r2
theorem sb_cons (h1 : SS X W st f) (h2 : SB X W rest g) : SB X W (st :: rest) (sSeq f g) := PSs.mono (pss_cons h1 h2) fun E σ H hh => by
  obtain ⟨T, env, h, r1, r2, a⟩ := hh
  refine ⟨T, env, h, r1, r2, ?_⟩
  revert a
  unfold sSeq
  cases f env h with
  | next env' h' => exact fun a T' H' σ' l rr ee => ⟨T', env', h', rr, ee, AfterS.later (r := g env' h') a l r1.mut⟩
  | ret d h' => exact fun a => a
  | brk env' h' => exact fun a => a
  | cont env' h' => exact fun a => a
  | exc c env' h' => exact fun a => a
  | stuck => exact fun a => a
theorem sb_one (h1 : SS X W st f) : SB X W [st] f := pss_one h1
theorem ss_ret (he : SE X W e fe) : SS X W (.Return (some e) pos) (sRet fe) := PS.mono (ps_ret he) fun E σ H hh => by
  obtain ⟨T, env, h, r1, r2, a⟩ := hh
  exact ⟨T, env, h, r1, r2, a.bindS r1.mut r2 fun d h1 T1 H1 v _ l1 q1 rv a1 => a1 T1 H1 v Le.refl q1 rv⟩
theorem ss_retN : SS X W (.Return none pos) sRetN := PS.mono ps_retN fun E σ H hh => by
  obtain ⟨T, env, h, r1, r2, a⟩ := hh
  exact a T H .non Le.refl r1 (rel_non_iff.mpr rfl)
theorem ss_ex (he : SE X W e fe) (hs : swapsWith e none pos.line X.env = pure false := by rfl) : SS X W (.Expr e pos) (sEx fe) := PS.mono (ps_expr he hs) fun E σ H hh => by
  obtain ⟨T, env, h, r1, r2, a⟩ := hh
  exact ⟨T, env, h, r1, r2, a.bindS r1.mut r2 fun d h1 T1 H1 v _ l1 q1 rv a1 => a1.next q1 (relE_mono l1 r1.mut r2)⟩
theorem ss_if {c : Expr} {a b : List Stmt} {fc : Et} (hc : ST X W c fc) (ha : SB X W a f) (hb : SB X W b g) : SS X W (.If c a b pos) (sIf fc f g) := PS.mono (ps_if hc ha hb) fun E σ H hh => by
  obtain ⟨T, env, h, r1, r2, a⟩ := hh
  refine ⟨T, env, h, r1, r2, a.bindS r1.mut r2 fun k h1 T1 H1 v _ l1 q1 rv a1 => ?_⟩
  subst rv
  by_cases hk : k = true
  · rw [if_pos hk] at a1 ⊢
    exact ⟨T1, env, h1, q1, relE_mono l1 r1.mut r2, a1⟩
  · rw [if_neg hk] at a1 ⊢
    exact ⟨T1, env, h1, q1, relE_mono l1 r1.mut r2, a1⟩
theorem ss_brk : SS X W (.Break pos) sBrk := PS.mono ps_break fun E σ H hh => by
  obtain ⟨T, env, h, r1, r2, a⟩ := hh
  exact a T H σ Le.refl r1 r2
theorem ss_set {i : Nat} {x : Str} {pos' : Pos} (hN : X.N.Nodup) (hi : X.N[i]? = some x) (hx : Loc X.env.scope x) (he : SE X W e fe) (hs : swapsWith e (some (.Name x pos')) pos.line X.env = pure false := by rfl)
    (hf : X.fn x = true ∨ X.env.scope.names.lookup x = some .local := by first | exact .inl rfl | exact .inr rfl | assumption) : SS X W (.Assign [.Name x pos'] e pos) (sSet i fe) := PS.mono (ps_set hN hi hx he hs hf) fun E σ H hh => by
  obtain ⟨T, env, h, r1, r2, a⟩ := hh
  exact ⟨T, env, h, r1, r2, a.bindS r1.mut r2 fun d h1 T1 H1 v _ l1 q1 rv a1 => a1.next q1 (relE_set (relE_mono l1 r1.mut r2) rv i)⟩
end

/-! ### targets -/
abbrev Tg := D → En → Option En
abbrev Tgs := List D → En → Option En
/-- the slots but those at vs are as they were -/
def But (vs : List Nat) (σ σ' : L2.St) : Prop := σ'.length = σ.length ∧ ∀ j, j ∉ vs → σ'[j]? = σ[j]?
def rdTg {α β : Type} (K : PySem.W.Frag) (q : Tk → Hp → α → β → Prop) (vs : List Nat) (g : α → En → Option En) (v : β) (σ : L2.St) (H : Hp) (Q : L2.St → Hp → Prop) : Prop :=
  ∃ T env h d env', RelH K T H h ∧ relE K T H env σ ∧ q T H d v ∧ g d env = some env' ∧ ∀ σ', relE K T H env' σ' → But vs σ σ' → Q σ' H
abbrev SG (X : Cx) (t : Expr) (vs : List Nat) (g : Tg) : Prop := PG X t (rdTg X.K (rel X.K) vs g)
abbrev SGs (X : Cx) (ts : List Expr) (vs : List Nat) (g : Tgs) : Prop := PGs X ts (rdTg X.K (rels X.K) vs g)
theorem But.trans {vs ws : List Nat} {a b c : L2.St} (x : But vs a b) (y : But ws b c) : But (vs ++ ws) a c :=
  ⟨y.1.trans x.1, fun j hj => (y.2 j fun z => hj (List.mem_append_right _ z)).trans (x.2 j fun z => hj (List.mem_append_left _ z))⟩
def gN (i : Nat) : Tg := fun d env => some (env.set i (some d))
def gsNil' : Tgs := fun ds env => match ds with
  | [] => some env
  | _ => none
def gsCons (g : Tg) (gs : Tgs) : Tgs := fun ds env => match ds with
  | d :: ds => (g d env).bind fun env' => gs ds env'
  | [] => none
def gT (n : Nat) (gs : Tgs) : Tg := fun d env => match d with
  | .tup ds => if ds.length = n then gs ds env else none
  | .tux ds => if ds.length = n then gs ds env else none
  | _ => none
theorem PG.mono {X : Cx} {e : Expr} {t t' : TG} (h : PG X e t) (i : ∀ v σ H Q, t' v σ H Q → t v σ H Q) : PG X e t' := by
  refine ⟨?_⟩
  have := h.run
  intro pins s σ H v u Q I r q
  exact this pins s σ H v u Q I r (i _ _ _ _ q)
theorem PGs.mono {X : Cx} {e : List Expr} {t t' : TGs} (h : PGs X e t) (i : ∀ v σ H Q, t' v σ H Q → t v σ H Q) : PGs X e t' := by
  refine ⟨?_⟩
  have := h.run
  intro pins s σ H v u Q I r q
  exact this pins s σ H v u Q I r (i _ _ _ _ q)
section
variable {X : Cx} {W : WX}
theorem sg_name {i : Nat} {x : Str} {pos : Pos} (hN : X.N.Nodup) (hi : X.N[i]? = some x) (hx : Loc X.env.scope x) (hf : X.fn x = true ∨ X.env.scope.names.lookup x = some .local := by first | exact .inl rfl | exact .inr rfl | assumption) : SG X (.Name x pos) [i] (gN i) :=
  PG.mono (pg_name hN hi hx hf) fun v σ H Q hh => by
    obtain ⟨T, env, h, d, env', r1, r2, rv, e, q⟩ := hh
    cases e
    refine q _ (relE_set r2 rv i) ⟨by rw [List.length_set], fun j hj => ?_⟩
    rw [List.getElem?_set_ne fun z => hj (by simp [z])]
theorem sgs_nil : SGs X [] [] gsNil' := PGs.mono pgs_nil fun v σ H Q hh => by
  obtain ⟨T, env, h, d, env', r1, r2, rv, e, q⟩ := hh
  unfold gsNil' at e
  split at e
  · cases e
    unfold rels at rv
    exact ⟨rv, q _ r2 ⟨rfl, fun _ _ => rfl⟩⟩
  · cases e
theorem sgs_cons {e : Expr} {es : List Expr} {g : Tg} {gs : Tgs} {vs ws : List Nat} (h1 : SG X e vs g) (h2 : SGs X es ws gs) (hs : (assignEach (e :: es) X.env).map (·.2) = assign e X.env :: (assignEach es X.env).map (·.2) := by rfl) : SGs X (e :: es) (vs ++ ws) (gsCons g gs) := PGs.mono (pgs_cons h1 h2 hs) fun v σ H Q hh => by
  obtain ⟨T, env, h, d, env', r1, r2, rv, e, q⟩ := hh
  unfold gsCons at e
  split at e
  · rename_i d ds
    cases e1 : g d env with
    | none => rw [e1] at e; cases e
    | some env1 =>
      rw [e1] at e
      unfold rels at rv
      obtain ⟨v1, vr, rfl, rv1, rvs⟩ := rv
      exact ⟨v1, vr, rfl, T, env, h, d, env1, r1, r2, rv1, e1, fun σ' r2' b => ⟨T, env1, h, ds, env', r1, r2', rvs, e, fun σ2 r3 b2 => q σ2 r3 (b.trans b2)⟩⟩
  · cases e
theorem sg_tup {es : List Expr} {kk : Nat} {gs : Tgs} {n : Nat} {vs : List Nat} {pos : Pos} (hc : X.calm = true) (h : SGs X es vs gs) (hn : (assignEach es X.env).length = n := by rfl) (hst : (assignEach es X.env).findIdx? (·.1) = none := by rfl) : SG X (.Tuple es kk pos) vs (gT n gs) :=
  PG.mono (pg_tup hc h hn hst) fun v σ H Q hh => by
    obtain ⟨T, env, h, d, env', r1, r2, rv, e, q⟩ := hh
    unfold gT at e
    split at e
    · rename_i ds
      split at e
      · rename_i hl
        unfold rel at rv
        obtain ⟨a, vr, rfl, s, rvs⟩ := rv
        exact ⟨a, vr, rfl, s.sq, by rw [rels_length rvs]; exact hl, T, env, h, ds, env', r1, r2, rvs, e, q⟩
      · cases e
    · rename_i ds
      split at e
      · rename_i hl
        unfold rel at rv
        obtain ⟨a, vr, rfl, s, rvs⟩ := rv
        exact ⟨a, vr, rfl, s, by rw [rels_length rvs]; exact hl, T, env, h, ds, env', r1, r2, rvs, e, q⟩
      · cases e
    · cases e
def ofOS {α : Type} (o : Option α) (k : α → S) : S := match o with
  | some a => k a
  | none => .stuck
theorem AfterS.ofOS {K : PySem.W.Frag} {mg : Str → Option Value} {W : WX} {T : Tk} {H : Hp} {E : Ends} {γ : Type} {o : Option γ} {k : γ → S}
    (a : AfterS K mg W T H E (ofOS o k)) : ∃ b, o = some b ∧ AfterS K mg W T H E (k b) := by
  cases o with
  | none => exact a.elim
  | some b => exact ⟨b, rfl, a⟩
def sAsg (g : Tg) (f : Ex) : Sx := fun env h => (f env h).bindS env fun d h1 => ofOS (g d env) fun env' => .next env' h1
theorem ss_asg {tg e : Expr} {fe : Ex} {g : Tg} {vs : List Nat} {pos : Pos} (he : SE X W e fe) (hg : SG X tg vs g) (hs : swapsWithSole [tg] e pos.line X.env = pure false := by rfl) (hw : swappedStores [tg] e X.env = pure none := by rfl)
    (h1 : (assignEach [tg] X.env).map (·.2) = [assign tg X.env] := by rfl) : SS X W (.Assign [tg] e pos) (sAsg g fe) :=
  PS.mono (ps_asg he hg hs hw h1) fun E σ H hh => by
    obtain ⟨T, env, h, r1, r2, a⟩ := hh
    refine ⟨T, env, h, r1, r2, a.bindS r1.mut r2 fun d h1 T1 H1 v _ l1 q1 rv a1 => ?_⟩
    obtain ⟨env', e1, a2⟩ := a1.ofOS
    exact ⟨T1, env, h1, d, env', q1, relE_mono l1 r1.mut r2, rv, e1, fun σ' r3 _ => a2.next q1 r3⟩
/-- o[i] = e, o a list or a dict that changes -/
def putAt (a b d : D) (h : HH) : Option HH := match a with
  | .ref j => match h[j]? with
    | some (.lst xs) => match b with
      | .int i => (ixN xs.length i).map fun n => h.set j (.lst (xs.set n d))
      | _ => none
    | some (.dic kvs) => (kyD b).bind fun k => if kvs.length < sz then some (h.set j (.dic (dPut kvs k d))) else none
    | _ => none
  | _ => none
def sPut (fo fi fe : Ex) : Sx := fun env h => (fe env h).bindS env fun d h1 => (fo env h1).bindS env fun a h2 => (fi env h2).bindS env fun b h3 => ofOS (putAt a b d h3) fun h4 => .next env h4
/-- the reading of what all three come to -/
theorem rd_put {fo fi fe : Ex} {E : Ends} {σ : L2.St} {H : Hp} (hh : rdSt X W (sPut fo fi fe) E σ H) :
    rd X W fe σ H fun v H1 => rd X W fo σ H1 fun x H2 => rd X W fi σ H2 fun y H3 => ∃ p, x = .ref p ∧
      ((∃ xs i n, H3 p = some (.lst xs) ∧ y = .int i ∧ ixN xs.length i = some n ∧ E.nx σ (upd H3 p (.lst (xs.set n v)))) ∨
       ∃ kvs k, H3 p = some (.dK kvs) ∧ y = kV k ∧ kvs.length < sizeLine ∧ E.nx σ (upd H3 p (.dK (putK kvs k v)))) := by
  obtain ⟨T, env, h, r1, r2, a⟩ := hh
  refine ⟨T, env, h, r1, r2, a.bindS r1.mut r2 fun d h1 T1 H1 v ee1 l1 q1 rv a1 => ?_⟩
  have e1 := relE_mono l1 r1.mut r2
  refine ⟨T1, env, h1, q1, e1, a1.bindS q1.mut e1 fun o h2 T2 H2 x ee2 l2 q2 rx a2 => ?_⟩
  have e2 := relE_mono l2 q1.mut e1
  refine ⟨T2, env, h2, q2, e2, a2.bindS q2.mut e2 fun b h3 T3 H3 y ee3 l3 q3 ry a3 => ?_⟩
  have e3 := relE_mono l3 q2.mut e2
  have rv3 := rel_mono (l2.trans q1.mut l3) q1.mut d v rv
  have rx3 := rel_mono l3 q2.mut o x rx
  obtain ⟨h4, e4, a4⟩ := a3.ofOS
  unfold putAt at e4
  split at e4
  · rename_i j
    unfold rel at rx3
    obtain ⟨p, rfl, hp⟩ := rx3
    refine ⟨p, rfl, ?_⟩
    have pl : p ∈ T3.L := List.mem_of_getElem? hp
    cases e5 : h3[j]? with
    | none => rw [e5] at e4; cases e4
    | some ob =>
      obtain ⟨p', e6, hob⟩ := q3.at_ _ _ e5
      rw [hp] at e6; cases e6
      cases ob with
      | lst xs =>
        rw [e5] at e4
        obtain ⟨vs, e7, rvs⟩ := hob
        cases b with
        | int i =>
          dsimp only at e4
          cases e8 : ixN xs.length i with
          | none => rw [e8] at e4; cases e4
          | some n =>
            rw [e8] at e4; cases e4
            refine .inl ⟨vs, i, n, e7, rel_int_iff.mp ry, by rw [rels_length rvs]; exact e8, ?_⟩
            refine a4 T3 _ σ (Le.wr pl (by intro _ _ z; rw [e7] at z; cases z)) (q3.wr hp LD.lst ⟨_, upd_same, ?_⟩) (relE_mono (Le.wr pl (by intro _ _ z; rw [e7] at z; cases z)) q3.mut e3)
            exact rels_mono (Le.wr pl (by intro _ _ z; rw [e7] at z; cases z)) q3.mut _ _ (rels_set rvs rv3 n)
        | _ => cases e4
      | dic kvs =>
        rw [e5] at e4
        obtain ⟨vs, e7, rvs⟩ := hob
        dsimp only at e4
        cases e8 : kyD b with
        | none => rw [e8] at e4; cases e4
        | some k =>
          rw [e8] at e4
          dsimp only [Option.bind] at e4
          split at e4
          · rename_i hz
            cases e4
            refine .inr ⟨vs, kyV k, e7, rel_ky ry e8, by rw [relk_length rvs, sizeLine_eq]; exact hz, ?_⟩
            refine a4 T3 _ σ (Le.wr pl (by intro _ _ z; rw [e7] at z; cases z)) (q3.wr hp LD.dK ⟨_, upd_same, ?_⟩) (relE_mono (Le.wr pl (by intro _ _ z; rw [e7] at z; cases z)) q3.mut e3)
            exact relk_mono (Le.wr pl (by intro _ _ z; rw [e7] at z; cases z)) q3.mut _ _ (relk_put rvs k rv3)
          · cases e4
      | lkd kvs => rw [e5] at e4; cases e4
  · cases e4
def rSetA : V → V → V → Hp → (Hp → Prop) → Prop := fun o i v H Q => ∃ p, o = .ref p ∧ ((∃ xs k n, H p = some (.lst xs) ∧ i = .int k ∧ ixN xs.length k = some n ∧ Q (upd H p (.lst (xs.set n v)))) ∨
  ∃ kvs k, H p = some (.dK kvs) ∧ i = kV k ∧ kvs.length < sizeLine ∧ Q (upd H p (.dK (putK kvs k v))))
theorem set_any (hu : X.A.units + 1 < cLine) : PSet X rSetA := by
  intro pins s σ H o i v ov iv u Q I ro ri rv ⟨p, e, q⟩
  subst e
  rcases q with ⟨xs, k, n, h1, h2, h3, q⟩ | ⟨kvs, k, h1, h2, h3, q⟩
  · exact set_list pins s σ H _ i v ov iv u Q I ro ri rv ⟨p, xs, k, n, rfl, h2, h1, h3, q⟩
  · subst h2
    cases (show ov = Value.ref p from ro)
    exact d_setItem hu I (DPut.k h1 h3) ri rv fun s' I' => ⟨_, I', q⟩
theorem ss_put {o i value : Expr} {fo fi fe : Ex} {pos pos' : Pos} (hv : SE X W value fe) (hg : PG X (.Subscript o i pos') (gSub (rd X W fo) (rd X W fi) rSetA))
    (hs : swapsWithSole [.Subscript o i pos'] value pos.line X.env = pure false := by rfl) (hw : swappedStores [.Subscript o i pos'] value X.env = pure none := by rfl)
    (h1 : (assignEach [.Subscript o i pos'] X.env).map (·.2) = [assign (.Subscript o i pos') X.env] := by rfl) : SS X W (.Assign [.Subscript o i pos'] value pos) (sPut fo fi fe) :=
  PS.mono (ps_asg hv hg hs hw h1) fun E σ H hh => rd_put hh
end
end Pu

namespace Pu
open PySem PySem.Spec PyProof.Rows L2

/-! ### whether two values are written the same -/
mutual
def beqD : D → D → Bool
  | .non, .non => true
  | .bl a, .bl b => a == b
  | .int a, .int b => decide (a = b)
  | .str a, .str b => decide (a = b)
  | .tup a, .tup b => beqDs a b
  | .lst a, .lst b => beqDs a b
  | .frz a, .frz b => beqDs a b
  | .dic a, .dic b => beqDk a b
  | .ref a, .ref b => decide (a = b)
  | .ty a, .ty b => decide (a = b)
  | .xc a, .xc b => decide (a = b)
  | .lam f c q a vs, .lam f' c' q' b ws => decide (f = f') && decide (c = c') && decide (q = q') && beqDs a b && decide (vs = ws)
  | .tux a, .tux b => beqDs a b
  | _, _ => false
def beqDs : List D → List D → Bool
  | [], [] => true
  | a :: as, b :: bs => beqD a b && beqDs as bs
  | _, _ => false
def beqDk : List (Sum Int String × D) → List (Sum Int String × D) → Bool
  | [], [] => true
  | (k, a) :: as, (j, b) :: bs => decide (k = j) && beqD a b && beqDk as bs
  | _, _ => false
end
mutual
theorem beqD_eq : ∀ a b : D, beqD a b = true → a = b
  | .non, b, h => by cases b <;> simp [beqD] at h ⊢
  | .bl a, b, h => by cases b <;> simp [beqD] at h ⊢; exact h
  | .int a, b, h => by cases b <;> simp [beqD] at h ⊢; exact h
  | .str a, b, h => by cases b <;> simp [beqD] at h ⊢; exact h
  | .tup a, b, h => by cases b <;> simp [beqD] at h ⊢; exact beqDs_eq _ _ h
  | .lst a, b, h => by cases b <;> simp [beqD] at h ⊢; exact beqDs_eq _ _ h
  | .frz a, b, h => by cases b <;> simp [beqD] at h ⊢; exact beqDs_eq _ _ h
  | .dic a, b, h => by cases b <;> simp [beqD] at h ⊢; exact beqDk_eq _ _ h
  | .ref a, b, h => by cases b <;> simp [beqD] at h ⊢; exact h
  | .ty a, b, h => by cases b <;> simp [beqD] at h ⊢; exact h
  | .xc a, b, h => by cases b <;> simp [beqD] at h ⊢; exact h
  | .lam f c q a vs, b, h => by
    cases b <;> simp [beqD] at h ⊢
    exact ⟨h.1.1.1.1, h.1.1.1.2, h.1.1.2, beqDs_eq _ _ h.1.2, h.2⟩
  | .tux a, b, h => by cases b <;> simp [beqD] at h ⊢; exact beqDs_eq _ _ h
theorem beqDs_eq : ∀ a b : List D, beqDs a b = true → a = b
  | [], b, h => by cases b <;> simp [beqDs] at h ⊢
  | a :: as, b, h => by
    cases b with
    | nil => simp [beqDs] at h
    | cons b bs =>
      simp only [beqDs, Bool.and_eq_true] at h
      rw [beqD_eq a b h.1, beqDs_eq as bs h.2]
theorem beqDk_eq : ∀ a b : List (Sum Int String × D), beqDk a b = true → a = b
  | [], b, h => by cases b <;> simp [beqDk] at h ⊢
  | (k, a) :: as, b, h => by
    cases b with
    | nil => simp [beqDk] at h
    | cons b bs =>
      obtain ⟨j, b⟩ := b
      simp only [beqDk, Bool.and_eq_true, decide_eq_true_eq] at h
      rw [h.1.1, beqD_eq a b h.1.2, beqDk_eq as bs h.2]
end
mutual
theorem beqD_refl : ∀ a : D, beqD a a = true
  | .non => by simp [beqD]
  | .bl a => by simp [beqD]
  | .int a => by simp [beqD]
  | .str a => by simp [beqD]
  | .tup a => by simp only [beqD]; exact beqDs_refl a
  | .lst a => by simp only [beqD]; exact beqDs_refl a
  | .frz a => by simp only [beqD]; exact beqDs_refl a
  | .dic a => by simp only [beqD]; exact beqDk_refl a
  | .ref a => by simp [beqD]
  | .ty a => by simp [beqD]
  | .xc a => by simp [beqD]
  | .lam f c q a vs => by simp [beqD, beqDs_refl a]
  | .tux a => by simp only [beqD]; exact beqDs_refl a
theorem beqDs_refl : ∀ a : List D, beqDs a a = true
  | [] => by simp [beqDs]
  | a :: as => by simp only [beqDs, beqD_refl a, beqDs_refl as, Bool.and_self]
theorem beqDk_refl : ∀ a : List (Sum Int String × D), beqDk a a = true
  | [] => by simp [beqDk]
  | (k, a) :: as => by simp only [beqDk, beqD_refl a, beqDk_refl as, decide_true, Bool.and_self]
end

/-! ### what is walked -/
/-- its items, and the lists that must stand still meanwhile -/
structure IT where
  ds : List D
  chk : List (Nat × List D)
abbrev Ei := En → HH → R IT
def chkOk (h : HH) : List (Nat × List D) → Bool
  | [] => true
  | (j, xs) :: r => (match h[j]? with | some (.lst ys) => beqDs ys xs | _ => false) && chkOk h r
def Itr8 (K : PySem.W.Frag) (T : Tk) (H : Hp) (it : IT) (J : It) : Prop := ∃ G Y, Walk J it.ds.length G Y ∧
  (∀ T1 H1 h1, Le T H T1 H1 → RelH K T1 H1 h1 → chkOk h1 it.chk = true → G H1) ∧
  ∀ i H1 x H', i < it.ds.length → Y i H1 x H' → ∀ T1 h1, Le T H T1 H1 → RelH K T1 H1 h1 → chkOk h1 it.chk = true → ∃ d, it.ds[i]? = some d ∧ Le T1 H1 T1 H' ∧ RelH K T1 H' h1 ∧ rel K T1 H' d x
def rdI (X : Cx) (W : WX) (f : Ei) : TI := rdG X.K X.mg W (Itr8 X.K) f
abbrev SI (X : Cx) (W : WX) (tg iter : Expr) (f : Ei) : Prop := PI X tg iter (rdI X W f)
/-- the list that d is, by its place where it changes -/
def chkD (d : D) (xs : List D) : List (Nat × List D) := match d with
  | .ref j => [(j, xs)]
  | _ => []
def iSeq (f : Ex) : Ei := fun env h => (f env h).bind fun d h1 => ofO (items h1 d) fun xs => .ok ⟨xs, chkD d xs⟩ h1
def intsL (lo : Int) (n : Nat) : List D := (List.range n).map fun i => .int (lo + (i : Nat))
@[irreducible] def inB (i : Int) : Bool := decide (-4611686018427387904 ≤ i) && decide (i < 4611686018427387904)
def iRg (f : Exs) : Ei := fun env h => (f env h).bind fun ds h1 => match ds with
  | [.int j] => if inB j = true then .ok ⟨intsL 0 j.toNat, []⟩ h1 else .stuck
  | [.int i, .int j] => if (inB i && inB j) = true then .ok ⟨intsL i (j - i).toNat, []⟩ h1 else .stuck
  | _ => .stuck
def iRev (f : Ex) : Ei := fun env h => (f env h).bind fun d h1 => ofO (items h1 d) fun xs => .ok ⟨xs.reverse, chkD d xs⟩ h1
def zipD (xs ys : List D) : List D := (xs.zip ys).map fun p => .tux [p.1, p.2]
def iZip8 (f : Exs) : Ei := fun env h => (f env h).bind fun ds h1 => match ds with
  | [.tup xs, .tup ys] => .ok ⟨zipD xs ys, []⟩ h1
  | [a, b] => ofO (itemsL h1 a) fun xs => ofO (itemsL h1 b) fun ys => .ok ⟨zipD xs ys, chkD a xs ++ chkD b ys⟩ h1
  | _ => .stuck
def numb : Nat → List D → List D
  | _, [] => []
  | i, d :: ds => .tux [.int i, d] :: numb (i + 1) ds
def iEnumL (f : Exs) : Ei := fun env h => (f env h).bind fun ds h1 => match ds with
  | [a] => ofO (itemsL h1 a) fun xs => .ok ⟨numb 0 xs, chkD a xs⟩ h1
  | _ => .stuck
section
variable {K : PySem.W.Frag} {T : Tk} {H : Hp} {h : HH}
theorem itemsL_stay {d : D} {v : V} {xs : List D} (r : RelH K T H h) (q : rel K T H d v) (e : itemsL h d = some xs) : ∃ a, v = .ref a ∧
    ∀ T1 H1 h1, Le T H T1 H1 → RelH K T1 H1 h1 → chkOk h1 (chkD d xs) = true → ∃ vs, SqL K H1 a vs ∧ rels K T1 H1 xs vs := by
  have m := r.mut
  cases d with
  | lst ys =>
    unfold itemsL at e; cases e
    unfold rel at q
    obtain ⟨a, vs, rfl, s, n, rv⟩ := q
    exact ⟨a, rfl, fun T1 H1 h1 l _ _ => ⟨vs, SqL.of (l.keep _ _ s (m.out n) fun _ z => nomatch z), rels_mono l m _ _ rv⟩⟩
  | frz ys =>
    unfold itemsL at e; cases e
    unfold rel at q
    obtain ⟨a, vs, rfl, s, rv⟩ := q
    refine ⟨a, rfl, fun T1 H1 h1 l _ _ => ⟨vs, ?_, rels_mono l m _ _ rv⟩⟩
    rcases s with ⟨s, n⟩ | s
    · exact .inl (l.rd m s n).1
    · exact s H1
  | ref j =>
    unfold itemsL at e
    unfold rel at q
    obtain ⟨a, rfl, hp⟩ := q
    dsimp only at e
    split at e
    · rename_i ys e2
      cases e
      refine ⟨a, rfl, fun T1 H1 h1 l r1 hc => ?_⟩
      simp only [chkD, chkOk, Bool.and_true] at hc
      split at hc
      · rename_i zs e3
        have := beqDs_eq _ _ hc
        subst this
        obtain ⟨b, e4, vs, e5, rv⟩ := r1.at_ _ _ e3
        rw [l.get hp] at e4; cases e4
        exact ⟨vs, SqL.of e5, rv⟩
      · cases hc
    · cases e
  | _ => unfold itemsL at e; cases e
theorem tup_stay {v : V} {xs : List D} (r : RelH K T H h) (q : rel K T H (.tup xs) v) : ∃ a, v = .ref a ∧ ∀ T1 H1, Le T H T1 H1 → ∃ vs, SqT K H1 a vs ∧ rels K T1 H1 xs vs := by
  unfold rel at q
  obtain ⟨a, vs, rfl, s, rv⟩ := q
  exact ⟨a, rfl, fun T1 H1 l => ⟨vs, l.sqT r.mut s.sq, rels_mono l r.mut _ _ rv⟩⟩
variable {a b : Addr} {n : Nat}
theorem wk_list : Walk (Itl K a) n (fun H => ∃ vs, vs.length = n ∧ SqL K H a vs) (fun i H x H' => H' = H ∧ ∀ vs, SqL K H a vs → vs[i]? = some x) :=
  ⟨fun i _ hi ⟨vs, e, q⟩ => ⟨vs, vs[i]'(by omega), q, by simp [e, hi]⟩, fun _ ⟨vs, e, q⟩ => ⟨vs, q, by omega⟩, fun _ _ _ _ _ _ y => y⟩
theorem wk_tup : Walk (Itt K a) n (fun H => ∃ vs, vs.length = n ∧ SqT K H a vs) (fun i H x H' => H' = H ∧ ∀ vs, SqT K H a vs → vs[i]? = some x) :=
  ⟨fun i _ hi ⟨vs, e, q⟩ => ⟨vs, vs[i]'(by omega), q, by simp [e, hi]⟩, fun _ ⟨vs, e, q⟩ => ⟨vs, q, by omega⟩, fun _ _ _ _ _ _ y => y⟩
theorem rels_back {ds : List D} {vs : List V} (r : rels K T H ds vs) {i : Nat} {v : V} (e : vs[i]? = some v) : ∃ d, ds[i]? = some d ∧ rel K T H d v := by
  have hl := (List.getElem?_eq_some_iff.mp e).1
  rw [rels_length r] at hl
  obtain ⟨v', e', q⟩ := rels_get r (List.getElem?_eq_getElem hl)
  rw [e] at e'; cases e'
  exact ⟨_, List.getElem?_eq_getElem hl, q⟩
theorem itr_list {d : D} {xs : List D} (hs : ∀ T1 H1 h1, Le T H T1 H1 → RelH K T1 H1 h1 → chkOk h1 (chkD d xs) = true → ∃ vs, SqL K H1 a vs ∧ rels K T1 H1 xs vs) : Itr8 K T H ⟨xs, chkD d xs⟩ (Itl K a) := by
  refine ⟨_, _, wk_list, fun T1 H1 h1 l r hc => ?_, fun i H1 x H' hi y T1 h1 l r hc => ?_⟩
  · obtain ⟨vs, q, rv⟩ := hs T1 H1 h1 l r hc
    exact ⟨vs, rels_length rv, q⟩
  · obtain ⟨vs, q, rv⟩ := hs T1 H1 h1 l r hc
    obtain ⟨rfl, y⟩ := y
    obtain ⟨d', e, rd⟩ := rels_back rv (y vs q)
    exact ⟨d', e, Le.refl, r, rd⟩
theorem itr_tup {xs : List D} {c : List (Nat × List D)} (hs : ∀ T1 H1, Le T H T1 H1 → ∃ vs, SqT K H1 a vs ∧ rels K T1 H1 xs vs) : Itr8 K T H ⟨xs, c⟩ (Itt K a) := by
  refine ⟨_, _, wk_tup, fun T1 H1 h1 l r hc => ?_, fun i H1 x H' hi y T1 h1 l r hc => ?_⟩
  · obtain ⟨vs, q, rv⟩ := hs T1 H1 l
    exact ⟨vs, rels_length rv, q⟩
  · obtain ⟨vs, q, rv⟩ := hs T1 H1 l
    obtain ⟨rfl, y⟩ := y
    obtain ⟨d', e, rd⟩ := rels_back rv (y vs q)
    exact ⟨d', e, Le.refl, r, rd⟩
theorem PI.mono {X : Cx} {tg e : Expr} {t t' : TI} (h : PI X tg e t) (i : ∀ σ H R, t' σ H R → t σ H R) : PI X tg e t' := ⟨fun pins s σ H Q I hq => h.run pins s σ H Q I (i σ H Q hq)⟩
theorem PI.or {X : Cx} {tg e : Expr} {t t' : TI} (h : PI X tg e t) (h' : PI X tg e t') : PI X tg e (fun σ H R => t σ H R ∨ t' σ H R) := ⟨fun pins s σ H Q I hq => hq.elim (h.run pins s σ H Q I) (h'.run pins s σ H Q I)⟩
variable {X : Cx} {W : WX} {tg : Expr}
theorem si_seq {e : Expr} {f : Ex} (hf : SE X W e f) : SI X W tg e (iSeq f) := PI.mono (PI.or (pi_list hf) (pi_tup hf)) fun σ H R hh => by
  obtain ⟨T, env, h, r1, r2, a⟩ := hh
  have key : (∃ xs h1, f env h = .ok (.tup xs) h1) ∨ ¬ ∃ xs h1, f env h = .ok (.tup xs) h1 := Classical.em _
  rcases key with ⟨xs, h1, e1⟩ | key
  · refine .inr ⟨T, env, h, r1, r2, a.bind r1.mut fun d h2 T1 H1 v e2 l1 q1 rv a1 => ?_⟩
    rw [e1] at e2; cases e2
    obtain ⟨p, rfl, hs⟩ := tup_stay q1 rv
    obtain ⟨vs, s, _⟩ := hs T1 H1 Le.refl
    exact ⟨p, rfl, ⟨vs, s⟩, After.done a1 q1 (itr_tup hs)⟩
  · refine .inl ⟨T, env, h, r1, r2, a.bind r1.mut fun d h2 T1 H1 v e2 l1 q1 rv a1 => ?_⟩
    obtain ⟨xs, e3, a2⟩ := a1.ofO
    have e4 : itemsL h2 d = some xs := by
      unfold items at e3
      split at e3
      · exact absurd ⟨_, _, e2⟩ key
      · exact e3
    obtain ⟨p, rfl, hs⟩ := itemsL_stay q1 rv e4
    cases hc : chkOk h2 (chkD d xs) with
    | true =>
      obtain ⟨vs, s, _⟩ := hs T1 H1 h2 Le.refl q1 hc
      exact ⟨p, rfl, ⟨vs, s⟩, a2.done q1 (itr_list hs)⟩
    | false =>
      exfalso
      revert hc e4
      unfold itemsL
      split
      · intro _ hc; simp [chkD, chkOk] at hc
      · intro _ hc; simp [chkD, chkOk] at hc
      · rename_i j
        split
        · rename_i ys e5
          intro z hc
          cases z
          simp only [chkD, chkOk, e5, beqDs_refl] at hc
          cases hc
        · intro z; cases z
      · intro z; cases z
theorem wk_ints {lo : Int} {n : Nat} {c : List (Nat × List D)} : Itr8 K T H ⟨intsL lo n, c⟩ (Itr lo n) := by
  refine ⟨fun _ => True, YFn fun i => .int (lo + i), ?_, fun _ _ _ _ _ _ => trivial, fun i H1 x H' hi y T1 h1 l r hc => ?_⟩
  · have : (intsL lo n).length = n := by unfold intsL; simp
    rw [this]; exact walk_range
  · obtain ⟨rfl, rfl⟩ := y
    have hi' : i < n := by unfold intsL at hi; simpa using hi
    exact ⟨.int (lo + i), by unfold intsL; simp [hi'], Le.refl, r, rel_int_iff.mpr rfl⟩
theorem inB_iff {i : Int} (h : inB i = true) : -(2 ^ 62) ≤ i ∧ i < 2 ^ 62 := by
  unfold inB at h
  simp only [Bool.and_eq_true, decide_eq_true_eq] at h
  omega
theorem si_range1 {a : Expr} {f : Exs} {p pos : Pos} (hg : Gl X "range") (hm : X.mg "range" = none) (ha : SA X W [a] f) (hs : starEach [a] X.env = [(false, eval a X.env)] := by rfl) : SI X W tg (.Call (.Name "range" p) [a] [] pos) (iRg f) :=
  PI.mono (pi_range1 hg hm ha.pa hs) fun σ H R hh => by
    obtain ⟨T, env, h, r1, r2, a⟩ := hh
    refine ⟨T, env, h, r1, r2, a.bind r1.mut fun ds h1 T1 H1 vs e l1 q1 rvs a1 => ?_⟩
    have hl := ha.len _ _ _ _ e
    split at a1
    · rename_i j
      split at a1
      · rename_i hb
        obtain ⟨v, rfl, rv⟩ := rels_one rvs
        rw [rel_int_iff] at rv
        subst rv
        exact ⟨j, rfl, (inB_iff hb).1, (inB_iff hb).2, a1.done q1 wk_ints⟩
      · exact a1.elim
    · simp at hl
    · exact a1.elim
theorem si_range2 {a b : Expr} {f : Exs} {p pos : Pos} (hg : Gl X "range") (hm : X.mg "range" = none) (ha : SA X W [a, b] f) (hs : starEach [a, b] X.env = [(false, eval a X.env), (false, eval b X.env)] := by rfl)
    (hs2 : starEach [b] X.env = [(false, eval b X.env)] := by rfl) : SI X W tg (.Call (.Name "range" p) [a, b] [] pos) (iRg f) :=
  PI.mono (pi_range2 hg hm ha.pa hs hs2) fun σ H R hh => by
    obtain ⟨T, env, h, r1, r2, a⟩ := hh
    refine ⟨T, env, h, r1, r2, a.bind r1.mut fun ds h1 T1 H1 vs e l1 q1 rvs a1 => ?_⟩
    have hl := ha.len _ _ _ _ e
    split at a1
    · simp at hl
    · rename_i i j
      split at a1
      · rename_i hb
        rw [Bool.and_eq_true] at hb
        obtain ⟨v, u, rfl, rv, ru⟩ := rels_two rvs
        rw [rel_int_iff] at rv ru
        subst rv ru
        exact ⟨i, j, rfl, ⟨(inB_iff hb.1).1, (inB_iff hb.1).2, (inB_iff hb.2).1, (inB_iff hb.2).2⟩, a1.done q1 wk_ints⟩
      · exact a1.elim
    · exact a1.elim
theorem chkOk_append {h : HH} : ∀ {c c' : List (Nat × List D)}, chkOk h (c ++ c') = true → chkOk h c = true ∧ chkOk h c' = true
  | [], c', e => ⟨rfl, e⟩
  | (j, xs) :: c, c', e => by
    rw [List.cons_append] at e
    have e : ((match h[j]? with | some (.lst ys) => beqDs ys xs | _ => false) && chkOk h (c ++ c')) = true := e
    rw [Bool.and_eq_true] at e
    refine ⟨?_, (chkOk_append e.2).2⟩
    show ((match h[j]? with | some (.lst ys) => beqDs ys xs | _ => false) && chkOk h c) = true
    rw [Bool.and_eq_true]
    exact ⟨e.1, (chkOk_append e.2).1⟩
theorem chkOk_self {d : D} {xs : List D} {h : HH} (e : itemsL h d = some xs) : chkOk h (chkD d xs) = true := by
  revert e
  unfold itemsL
  split
  · intro _; simp [chkD, chkOk]
  · intro _; simp [chkD, chkOk]
  · rename_i j
    split
    · rename_i ys e5
      intro z
      cases z
      simp only [chkD, chkOk, e5, beqDs_refl]; rfl
    · intro z; cases z
  · intro z; cases z
theorem Le.tup {v : V} {p : Addr} {ds : List D} {vs : List V} (r : RelH K T H h) (hp : H p = none) (rv : rels K T H ds vs) (e : v = .ref p) : Le T H T (upd H p (.tup vs)) ∧ RelH K T (upd H p (.tup vs)) h ∧ rel K T (upd H p (.tup vs)) (.tux ds) v := by
  subst e
  exact ⟨Le.new hp, r.new hp, rel_tux upd_same (rels_mono (Le.new hp) r.mut _ _ rv)⟩
theorem wk_zip (hn : n ≤ n) {m : Nat} : Walk (Itz K a b) (min n m) (fun H => (∃ vs, vs.length = n ∧ SqL K H a vs) ∧ ∃ vs, vs.length = m ∧ SqL K H b vs)
    (fun i H v H' => ∃ T x y, v = .ref T ∧ H T = none ∧ H' = upd H T (.tup [x, y]) ∧ (∀ xs, SqL K H a xs → xs[i]? = some x) ∧ ∀ ys, SqL K H b ys → ys[i]? = some y) :=
  ⟨fun i _ hi ⟨⟨vs, e, q⟩, ws, e', q'⟩ => ⟨vs, ws, vs[i]'(by omega), ws[i]'(by omega), q, q', List.getElem?_eq_getElem _, List.getElem?_eq_getElem _⟩,
    fun _ ⟨⟨vs, e, q⟩, ws, e', q'⟩ => ⟨vs, ws, q, q', by omega⟩, fun _ _ _ _ _ _ y => y⟩
theorem wk_zipT {m : Nat} : Walk (RZ.ItzT K a b) (min n m) (fun H => (∃ vs, vs.length = n ∧ SqT K H a vs) ∧ ∃ vs, vs.length = m ∧ SqT K H b vs)
    (fun i H v H' => ∃ T x y, v = .ref T ∧ H T = none ∧ H' = upd H T (.tup [x, y]) ∧ (∀ xs, SqT K H a xs → xs[i]? = some x) ∧ ∀ ys, SqT K H b ys → ys[i]? = some y) :=
  ⟨fun i _ hi ⟨⟨vs, e, q⟩, ws, e', q'⟩ => ⟨vs, ws, vs[i]'(by omega), ws[i]'(by omega), q, q', List.getElem?_eq_getElem _, List.getElem?_eq_getElem _⟩,
    fun _ ⟨⟨vs, e, q⟩, ws, e', q'⟩ => ⟨vs, ws, q, q', by omega⟩, fun _ _ _ _ _ _ y => y⟩
theorem zipD_len {xs ys : List D} : (zipD xs ys).length = min xs.length ys.length := by unfold zipD; simp
theorem zipD_get {xs ys : List D} {i : Nat} {x y : D} (hx : xs[i]? = some x) (hy : ys[i]? = some y) : (zipD xs ys)[i]? = some (.tux [x, y]) := by
  unfold zipD
  rw [List.getElem?_map, show (xs.zip ys)[i]? = some (x, y) from List.getElem?_zip_eq_some.mpr ⟨hx, hy⟩]; rfl
theorem si_zip {e1 e2 : Expr} {f : Exs} {p pos tpos : Pos} {elts : List Expr} {kk : Nat} (hg : Gl X "zip") (hm : X.mg "zip" = none) (ha : SA X W [e1, e2] f)
    (hs : starEach [e1, e2] X.env = (false, eval e1 X.env) :: starEach [e2] X.env := by rfl) (hpl : (backTo pos (starEach [e2] X.env)).any (·.1) = false := by rfl) :
    SI X W (.Tuple elts kk tpos) (.Call (.Name "zip" p) [e1, e2] [] pos) (iZip8 f) := PI.mono (RZ.pi_zipA hg hm ha.pa hs hpl) fun σ H R hh => by
  obtain ⟨T, env, h, r1, r2, a⟩ := hh
  refine ⟨T, env, h, r1, r2, a.bind r1.mut fun ds h1 T1 H1 vs e l1 q1 rvs a1 => ?_⟩
  have hl := ha.len _ _ _ _ e
  split at a1
  · rename_i xs ys
    obtain ⟨v, u, rfl, rv, ru⟩ := rels_two rvs
    obtain ⟨p1, rfl, s1⟩ := tup_stay q1 rv
    obtain ⟨p2, rfl, s2⟩ := tup_stay q1 ru
    obtain ⟨vs1, t1, _⟩ := s1 T1 H1 Le.refl
    obtain ⟨vs2, t2, _⟩ := s2 T1 H1 Le.refl
    refine ⟨p1, p2, vs1, vs2, rfl, .inr ⟨t1, t2, After.done a1 q1 ?_⟩⟩
    refine ⟨_, _, by rw [zipD_len]; exact wk_zipT, fun T3 H3 h3 l3 r3 hc => ?_, fun i H3 x H' hi y T3 h3 l3 r3 hc => ?_⟩
    · obtain ⟨ws1, t1, r1⟩ := s1 T3 H3 l3
      obtain ⟨ws2, t2, r2⟩ := s2 T3 H3 l3
      exact ⟨⟨ws1, rels_length r1, t1⟩, ws2, rels_length r2, t2⟩
    · obtain ⟨ws1, t1, w1⟩ := s1 T3 H3 l3
      obtain ⟨ws2, t2, w2⟩ := s2 T3 H3 l3
      obtain ⟨T', x', y', rfl, hp, rfl, y1, y2⟩ := y
      obtain ⟨d1, g1, k1⟩ := rels_back w1 (y1 _ t1)
      obtain ⟨d2, g2, k2⟩ := rels_back w2 (y2 _ t2)
      obtain ⟨z1, z2, z3⟩ := Le.tup r3 hp (rels_cons k1 (rels_cons k2 rels_nil)) rfl
      exact ⟨_, zipD_get g1 g2, z1, z2, z3⟩
  · rename_i a' b' _
    obtain ⟨xs, e1, a1⟩ := After.ofO a1
    obtain ⟨ys, e2, a1⟩ := After.ofO a1
    obtain ⟨v, u, rfl, rv, ru⟩ := rels_two rvs
    obtain ⟨p1, rfl, s1⟩ := itemsL_stay q1 rv e1
    obtain ⟨p2, rfl, s2⟩ := itemsL_stay q1 ru e2
    obtain ⟨vs1, t1, _⟩ := s1 T1 H1 h1 Le.refl q1 (chkOk_self e1)
    obtain ⟨vs2, t2, _⟩ := s2 T1 H1 h1 Le.refl q1 (chkOk_self e2)
    refine ⟨p1, p2, vs1, vs2, rfl, .inl ⟨t1, t2, After.done a1 q1 ?_⟩⟩
    refine ⟨_, _, by rw [zipD_len]; exact wk_zip (Nat.le_refl _), fun T3 H3 h3 l3 r3 hc => ?_, fun i H3 x H' hi y T3 h3 l3 r3 hc => ?_⟩
    · obtain ⟨c1, c2⟩ := chkOk_append hc
      obtain ⟨ws1, t1, r1⟩ := s1 T3 H3 h3 l3 r3 c1
      obtain ⟨ws2, t2, r2⟩ := s2 T3 H3 h3 l3 r3 c2
      exact ⟨⟨ws1, rels_length r1, t1⟩, ws2, rels_length r2, t2⟩
    · obtain ⟨c1, c2⟩ := chkOk_append hc
      obtain ⟨ws1, t1, w1⟩ := s1 T3 H3 h3 l3 r3 c1
      obtain ⟨ws2, t2, w2⟩ := s2 T3 H3 h3 l3 r3 c2
      obtain ⟨T', x', y', rfl, hp, rfl, y1, y2⟩ := y
      obtain ⟨d1, g1, k1⟩ := rels_back w1 (y1 _ t1)
      obtain ⟨d2, g2, k2⟩ := rels_back w2 (y2 _ t2)
      obtain ⟨z1, z2, z3⟩ := Le.tup r3 hp (rels_cons k1 (rels_cons k2 rels_nil)) rfl
      exact ⟨_, zipD_get g1 g2, z1, z2, z3⟩
  · exact False.elim a1
theorem numb_get : ∀ {xs : List D} {k i : Nat} {x : D}, xs[i]? = some x → (numb k xs)[i]? = some (.tux [.int ((k + i : Nat) : Int), x])
  | [], k, i, x, e => by simp at e
  | y :: ys, k, 0, x, e => by simp at e; subst e; rfl
  | y :: ys, k, i + 1, x, e => by
    show (numb (k + 1) ys)[i]? = _
    rw [numb_get (by simpa using e)]
    congr 4; omega
theorem numb_len : ∀ {xs : List D} {k : Nat}, (numb k xs).length = xs.length
  | [], k => rfl
  | y :: ys, k => by unfold numb; rw [List.length_cons, numb_len]; rfl
theorem wk_enum : Walk (Ite K a) n (fun H => ∃ vs, vs.length = n ∧ SqL K H a vs) (fun i H v H' => ∃ T x, v = .ref T ∧ H T = none ∧ H' = upd H T (.tup [.int (i : Nat), x]) ∧ ∀ xs, SqL K H a xs → xs[i]? = some x) :=
  ⟨fun i _ hi ⟨vs, e, q⟩ => ⟨vs, vs[i]'(by omega), q, List.getElem?_eq_getElem _⟩, fun _ ⟨vs, e, q⟩ => ⟨vs, q, by omega⟩, fun _ _ _ _ _ _ y => y⟩
theorem si_enumL {e : Expr} {f : Exs} {p pos tpos : Pos} {elts : List Expr} {kk : Nat} (hg : Gl X "enumerate") (hm : X.mg "enumerate" = none) (ha : SA X W [e] f) (hs : starEach [e] X.env = [(false, eval e X.env)] := by rfl) :
    SI X W (.Tuple elts kk tpos) (.Call (.Name "enumerate" p) [e] [] pos) (iEnumL f) := PI.mono (pi_enum hg hm ha.pa hs) fun σ H R hh => by
  obtain ⟨T, env, h, r1, r2, a⟩ := hh
  refine ⟨T, env, h, r1, r2, a.bind r1.mut fun ds h1 T1 H1 vs e l1 q1 rvs a1 => ?_⟩
  split at a1
  · obtain ⟨xs, e1, a1⟩ := After.ofO a1
    obtain ⟨v, rfl, rv⟩ := rels_one rvs
    obtain ⟨p1, rfl, s1⟩ := itemsL_stay q1 rv e1
    obtain ⟨vs1, t1, _⟩ := s1 T1 H1 h1 Le.refl q1 (chkOk_self e1)
    refine ⟨p1, vs1, rfl, t1, After.done a1 q1 ?_⟩
    refine ⟨_, _, by rw [numb_len]; exact wk_enum, fun T3 H3 h3 l3 r3 hc => ?_, fun i H3 x H' hi y T3 h3 l3 r3 hc => ?_⟩
    · obtain ⟨ws1, t1, r1⟩ := s1 T3 H3 h3 l3 r3 hc
      exact ⟨ws1, rels_length r1, t1⟩
    · obtain ⟨ws1, t1, w1⟩ := s1 T3 H3 h3 l3 r3 hc
      obtain ⟨T', x', rfl, hp, rfl, y1⟩ := y
      obtain ⟨d1, g1, k1⟩ := rels_back w1 (y1 _ t1)
      obtain ⟨z1, z2, z3⟩ := Le.tup r3 hp (rels_cons (d := .int ((i : Nat) : Int)) (rel_int_iff.mpr rfl) (rels_cons k1 rels_nil)) rfl
      refine ⟨_, ?_, z1, z2, z3⟩
      have := numb_get (k := 0) g1
      rw [Nat.zero_add] at this
      exact this
  · exact False.elim a1
theorem rev_get {α : Type} {xs : List α} {i : Nat} (hi : i < xs.length) : xs.reverse[i]? = xs[xs.length - 1 - i]? := List.getElem?_reverse hi
theorem wk_rev : Walk (Itv K a n) n (fun H => ∃ vs, vs.length = n ∧ SqL K H a vs) (fun i H x H' => H' = H ∧ ∀ vs, SqL K H a vs → vs[n - 1 - i]? = some x) :=
  ⟨fun i _ hi ⟨vs, e, q⟩ => ⟨hi, vs, vs[n - 1 - i]'(by omega), q, List.getElem?_eq_getElem _⟩, fun _ _ => Nat.le_refl _, fun _ _ _ _ _ _ y => y⟩
theorem wk_revT : Walk (RT.ItvT K a n) n (fun H => ∃ vs, vs.length = n ∧ SqT K H a vs) (fun i H x H' => H' = H ∧ ∀ vs, SqT K H a vs → vs[n - 1 - i]? = some x) :=
  ⟨fun i _ hi ⟨vs, e, q⟩ => ⟨hi, vs, vs[n - 1 - i]'(by omega), q, List.getElem?_eq_getElem _⟩, fun _ _ => Nat.le_refl _, fun _ _ _ _ _ _ y => y⟩
theorem si_rev {e : Expr} {f : Ex} {p pos : Pos} (hg : Gl X "reversed") (hm : X.mg "reversed" = none) (he : SE X W e f) (hs : starEach [e] X.env = (false, eval e X.env) :: starEach [] X.env := by rfl) : SI X W tg (.Call (.Name "reversed" p) [e] [] pos) (iRev f) :=
  PI.mono (RT.pi_revA hg hm he hs) fun σ H R hh => by
    obtain ⟨T, env, h, r1, r2, a⟩ := hh
    refine ⟨T, env, h, r1, r2, a.bind r1.mut fun d h1 T1 H1 v e l1 q1 rv a1 => ?_⟩
    obtain ⟨xs, e1, a1⟩ := a1.ofO
    have key : (∃ ys, d = .tup ys) ∨ itemsL h1 d = some xs := by
      unfold items at e1
      split at e1
      · exact .inl ⟨_, rfl⟩
      · exact .inr e1
    rcases key with ⟨ys, rfl⟩ | e2
    · have e3 : ys = xs := by unfold items at e1; exact Option.some.inj e1
      rw [e3] at rv
      obtain ⟨p1, rfl, s1⟩ := tup_stay q1 rv
      obtain ⟨vs1, t1, w1⟩ := s1 T1 H1 Le.refl
      refine ⟨p1, vs1, rfl, .inr ⟨t1, a1.done q1 ?_⟩⟩
      have hl : vs1.length = xs.reverse.length := by rw [rels_length w1, List.length_reverse]
      refine ⟨_, _, by rw [hl]; exact wk_revT, fun T3 H3 h3 l3 r3 hc => ?_, fun i H3 x H' hi y T3 h3 l3 r3 hc => ?_⟩
      · obtain ⟨ws1, t1, r1⟩ := s1 T3 H3 l3
        exact ⟨ws1, by rw [rels_length r1, List.length_reverse], t1⟩
      · obtain ⟨ws1, t1, w1⟩ := s1 T3 H3 l3
        obtain ⟨rfl, y1⟩ := y
        obtain ⟨d1, g1, k1⟩ := rels_back w1 (y1 _ t1)
        rw [List.length_reverse] at hi
        exact ⟨d1, by show xs.reverse[i]? = _; rw [rev_get hi]; simpa using g1, Le.refl, r3, k1⟩
    · obtain ⟨p1, rfl, s1⟩ := itemsL_stay q1 rv e2
      obtain ⟨vs1, t1, w1⟩ := s1 T1 H1 h1 Le.refl q1 (chkOk_self e2)
      refine ⟨p1, vs1, rfl, .inl ⟨t1, a1.done q1 ?_⟩⟩
      have hl : vs1.length = xs.reverse.length := by rw [rels_length w1, List.length_reverse]
      refine ⟨_, _, by rw [hl]; exact wk_rev, fun T3 H3 h3 l3 r3 hc => ?_, fun i H3 x H' hi y T3 h3 l3 r3 hc => ?_⟩
      · obtain ⟨ws1, t1, r1⟩ := s1 T3 H3 h3 l3 r3 hc
        exact ⟨ws1, by rw [rels_length r1, List.length_reverse], t1⟩
      · obtain ⟨ws1, t1, w1⟩ := s1 T3 H3 h3 l3 r3 hc
        obtain ⟨rfl, y1⟩ := y
        obtain ⟨d1, g1, k1⟩ := rels_back w1 (y1 _ t1)
        rw [List.length_reverse] at hi
        exact ⟨d1, by show xs.reverse[i]? = _; rw [rev_get hi]; simpa using g1, Le.refl, r3, k1⟩
end
end Pu

namespace Pu
open PySem PySem.Spec PyProof.Rows L2

/-! ### for, while -/
def forGo (c : List (Nat × List D)) (g : Tg) (body : Sx) : List D → En → HH → S
  | [], env, h => if chkOk h c = true then .next env h else .stuck
  | d :: ds, env, h => if chkOk h c = true then ofOS (g d env) fun env1 => match body env1 h with
    | .next env' h' => forGo c g body ds env' h'
    | .cont env' h' => forGo c g body ds env' h'
    | .brk env' h' => .next env' h'
    | r => r else .stuck
def sFor (it : Ei) (g : Tg) (body : Sx) : Sx := fun env h => (it env h).bindS env fun i h1 => forGo i.chk g body i.ds env h1
def whGo (c : Et) (body : Sx) : Nat → En → HH → S
  | 0, _, _ => .stuck
  | n + 1, env, h => (c env h).bindS env fun b h1 => if b = true then match body env h1 with
    | .next env' h' => whGo c body n env' h'
    | .cont env' h' => whGo c body n env' h'
    | .brk env' h' => .next env' h'
    | r => r else .next env h1
def sWh (n : Nat) (c : Et) (body : Sx) : Sx := whGo c body n
section
variable {X : Cx} {W : WX} {k : Nat}
theorem ss_for (C : Cok X W k) {tg iter : Expr} {body : List Stmt} {fi : Ei} {g : Tg} {fb : Sx} {vs : List Nat} {pos : Pos} (hi : SI X W tg iter fi) (hg : SG X tg vs g) (hb : SB X W body fb)
    (hs : ∀ x, foldedSetIterable iter X.env x = pure x := by intro _; rfl) : SS X W (.For tg iter body [] pos) (sFor fi g fb) := PS.mono (ps_for C.po C.calm hi hg hb hs) fun E σ H hh => by
  obtain ⟨T, env, h, r1, r2, a⟩ := hh
  refine ⟨T, env, h, r1, r2, a.bindS r1.mut r2 fun it h1 T1 H1 J _ l1 q1 ⟨G, Y, w, hG, hY⟩ a1 => ?_⟩
  refine for_it w (fun i σ H => ∃ T env h, RelH X.K T H h ∧ relE X.K T H env σ ∧ Le T1 H1 T H ∧ AfterS X.K X.mg W T H E (forGo it.chk g fb (it.ds.drop i) env h)) ?_ ?_ ?_ ?_
  · exact ⟨T1, env, h1, q1, relE_mono l1 r1.mut r2, Le.refl, by rw [List.drop_zero]; exact a1⟩
  · rintro i σ H hi ⟨T, env, h, r, e, l, a⟩
    refine hG T H h l r ?_
    cases ds : it.ds.drop i with
    | nil =>
      rw [ds] at a; unfold forGo at a
      by_cases hc : chkOk h it.chk = true
      · exact hc
      · rw [if_neg hc] at a; exact a.elim
    | cons d r =>
      rw [ds] at a; unfold forGo at a
      by_cases hc : chkOk h it.chk = true
      · exact hc
      · rw [if_neg hc] at a; exact a.elim
  · rintro i x σ H H' hi ⟨T, env, h, r, e, l, a⟩ y
    have ed : it.ds.drop i = it.ds[i] :: it.ds.drop (i + 1) := by rw [List.drop_eq_getElem_cons hi]
    rw [ed] at a
    unfold forGo at a
    by_cases hc : chkOk h it.chk = true
    · rw [if_pos hc] at a
      obtain ⟨env1, e1, a⟩ := a.ofOS
      obtain ⟨d, e2, l2, r2, rd⟩ := hY i H x H' hi y T h l r hc
      rw [List.getElem?_eq_getElem hi] at e2
      cases e2
      refine ⟨T, env, h, _, env1, r2, relE_mono l2 r.mut e, rd, e1, fun σ' r3 _ => ⟨T, env1, h, r2, r3, ?_⟩⟩
      have a := AfterS.later a l2 r.mut
      have l3 := l.trans q1.mut l2
      revert a
      cases fb env1 h with
      | next env' h' => exact fun a T' H2 σ2 l4 r4 e4 => ⟨T', env', h', r4, e4, l3.trans q1.mut l4, AfterS.later (r := forGo it.chk g fb (it.ds.drop (i + 1)) env' h') a l4 r2.mut⟩
      | cont env' h' => exact fun a T' H2 σ2 l4 r4 e4 => ⟨T', env', h', r4, e4, l3.trans q1.mut l4, AfterS.later (r := forGo it.chk g fb (it.ds.drop (i + 1)) env' h') a l4 r2.mut⟩
      | brk env' h' => exact fun a => a
      | ret d h' => exact fun a => a
      | exc c env' h' => exact fun a => a
      | stuck => exact fun a => a
    · rw [if_neg hc] at a; exact a.elim
  · rintro σ H ⟨T, env, h, r, e, l, a⟩
    rw [List.drop_length] at a
    unfold forGo at a
    by_cases hc : chkOk h it.chk = true
    · rw [if_pos hc] at a; exact a.next r e
    · rw [if_neg hc] at a; exact a.elim
theorem ss_while (C : Cok X W k) (n : Nat) {c : Expr} {body : List Stmt} {fc : Et} {fb : Sx} {pos : Pos} (hc : ST X W c fc) (hb : SB X W body fb) : SS X W (.While c body [] pos) (sWh n fc fb) := PS.mono (ps_while C.po hc hb) fun E σ H hh => by
  obtain ⟨T, env, h, r1, r2, a⟩ := hh
  refine ⟨fun m σ H => ∃ T env h, RelH X.K T H h ∧ relE X.K T H env σ ∧ AfterS X.K X.mg W T H E (whGo fc fb m env h), ⟨n, T, env, h, r1, r2, a⟩, ?_⟩
  rintro m σ H ⟨T, env, h, r1, r2, a⟩
  cases m with
  | zero => exact False.elim a
  | succ m =>
    unfold whGo at a
    refine ⟨T, env, h, r1, r2, a.bindS r1.mut r2 fun b h1 T1 H1 v _ l1 q1 rv a1 => ?_⟩
    subst rv
    by_cases hb : b = true
    · rw [if_pos hb] at a1 ⊢
      refine ⟨fun σ' H' => ∃ T env h, RelH X.K T H' h ∧ relE X.K T H' env σ' ∧ AfterS X.K X.mg W T H' E (whGo fc fb m env h), fun σ' H' q => ⟨m, Nat.lt_succ_self _, q⟩, T1, env, h1, q1, relE_mono l1 r1.mut r2, ?_⟩
      revert a1
      cases fb env h1 with
      | next env' h' => exact fun a T' H2 σ2 l4 r4 e4 => ⟨T', env', h', r4, e4, AfterS.later (r := whGo fc fb m env' h') a l4 q1.mut⟩
      | cont env' h' => exact fun a T' H2 σ2 l4 r4 e4 => ⟨T', env', h', r4, e4, AfterS.later (r := whGo fc fb m env' h') a l4 q1.mut⟩
      | brk env' h' => exact fun a => a
      | ret d h' => exact fun a => a
      | exc c env' h' => exact fun a => a
      | stuck => exact fun a => a
    · rw [if_neg hb] at a1 ⊢
      exact a1.next q1 (relE_mono l1 r1.mut r2)
end

/-! ### comprehensions -/
def wipeE (env : En) : List Nat → En
  | [] => env
  | v :: vs => (wipeE env vs).set v none
def bindX {α β : Type} (x : R α) (k : α → HH → R β) : R β := match x with
  | .ok a h => k a h
  | _ => .stuck
def lcGo (c : List (Nat × List D)) (g : Tg) (t : Et) (f : Ex) (env : En) : List D → List D → HH → R (List D)
  | [], acc, h => if chkOk h c = true then .ok acc h else .stuck
  | d :: ds, acc, h => if chkOk h c = true then ofO (g d env) fun env1 => bindX (t env1 h) fun b h1 =>
      if b = true then bindX (f env1 h1) fun y h2 => if acc.length < sz then lcGo c g t f env ds (acc ++ [y]) h2 else .stuck else lcGo c g t f env ds acc h1 else .stuck
def fLc (it : Ei) (g : Tg) (t : Et) (f : Ex) (vs : List Nat) : Exs := fun env h => (it env h).bind fun i h1 => lcGo i.chk g t f (wipeE env vs) i.ds [] h1
def tYesD : Et := fun _ h => .ok true h
abbrev W0 : WX := fun _ _ _ _ => False
theorem Cok.blk {X : Cx} {W : WX} {k : Nat} (C : Cok X W k) (s : Shared) (H : Hp) (scope : Scope) (cenv : Env) (fp : List Addr) : Cok (X.blk s H scope cenv fp) W0 k :=
  ⟨C.calm, takes0, PassesOwn.never, C.hr, C.gd⟩
structure SPt (X : Cx) (W : WX) (ifs : List Expr) (t : Et) : Prop where
  pt : PTs X ifs (rdt X W t)
theorem PTs.mono {X : Cx} {e : List Expr} {t t' : TT} (h : PTs X e t) (i : ∀ σ H Q, t' σ H Q → t σ H Q) : PTs X e t' := ⟨fun pins s σ H Q I hq => h.run pins s σ H Q I (i σ H Q hq)⟩
theorem spt_nil {X : Cx} {W : WX} : SPt X W [] tYesD := ⟨PTs.mono pts_nil fun σ H Q hh => by
  obtain ⟨T, env, h, r1, r2, a⟩ := hh
  exact a.done r1 rfl⟩
theorem spt_one {X : Cx} {W : WX} {c : Expr} {t : Et} (h : ST X W c t) : SPt X W [c] t := ⟨pts_one h⟩
section
variable {K : PySem.W.Frag} {T : Tk} {H : Hp}
theorem relE_wipe {env : En} {σ : L2.St} (e : relE K T H env σ) : ∀ vs : List Nat, relE K T H (wipeE env vs) (wipe σ vs)
  | [] => e
  | v :: vs => by
    have ih := relE_wipe e vs
    unfold wipeE wipe
    refine ⟨by rw [List.length_set, List.length_set]; exact ih.1, fun j d h => ?_⟩
    by_cases hj : v = j
    · subst hj
      by_cases hl : v < (wipeE env vs).length
      · rw [List.getElem?_set_self hl] at h; cases h
      · rw [List.getElem?_eq_none (by rw [List.length_set]; omega)] at h; cases h
    · rw [List.getElem?_set_ne hj] at h ⊢
      exact ih.2 j d h
theorem wipe_but {σ σ' : L2.St} : ∀ {vs : List Nat}, σ'.length = σ.length → (∀ j, j ∉ vs → σ'[j]? = σ[j]?) → wipe σ' vs = wipe σ vs := by
  intro vs hl h
  have key : ∀ (τ : L2.St) (vs : List Nat) (j : Nat), (wipe τ vs)[j]? = if j ∈ vs ∧ j < τ.length then some none else τ[j]? := by
    intro τ vs
    induction vs with
    | nil => intro j; simp [wipe]
    | cons v vs ih =>
      intro j
      unfold wipe
      by_cases hj : v = j
      · subst hj
        by_cases hl : v < τ.length
        · rw [List.getElem?_set_self (by rw [wipe_length]; exact hl)]; simp [hl]
        · rw [List.getElem?_eq_none (by rw [List.length_set, wipe_length]; omega)]; simp [hl]
      · rw [List.getElem?_set_ne hj, ih j]
        by_cases hm : j ∈ vs ∧ j < τ.length
        · rw [if_pos hm, if_pos ⟨List.mem_cons_of_mem _ hm.1, hm.2⟩]
        · rw [if_neg hm, if_neg]
          intro z
          rcases List.mem_cons.mp z.1 with z1 | z1
          · exact hj z1.symm
          · exact hm ⟨z1, z.2⟩
  apply List.ext_getElem?
  intro j
  rw [key, key, hl]
  by_cases hm : j ∈ vs ∧ j < σ.length
  · rw [if_pos hm, if_pos hm]
  · rw [if_neg hm, if_neg hm]
    by_cases hj : j ∈ vs
    · have : ¬ j < σ.length := fun z => hm ⟨hj, z⟩
      rw [List.getElem?_eq_none (by omega), List.getElem?_eq_none (by omega)]
    · exact h j hj
theorem wipe_idem {σ : L2.St} {vs : List Nat} : wipe (wipe σ vs) vs = wipe σ vs := by
  refine wipe_but (wipe_length _ _) fun j hj => ?_
  induction vs with
  | nil => rfl
  | cons v vs ih =>
    unfold wipe
    rw [List.getElem?_set_ne fun z => hj (by simp [z])]
    exact ih fun z => hj (List.mem_cons_of_mem _ z)
theorem Le.bw {T' : Tk} {H' : Hp} {a : Addr} {o : HO} (l : Le T H T' H') (n : H a = none) : Le T H T' (upd H' a o) :=
  ⟨l.pre, l.more, l.fresh, l.freshL, fun b u e hb ht => by rw [upd_ne (ne_of_none e n)]; exact l.keep b u e hb ht, fun b ps e hb => by rw [upd_ne (ne_of_none e n)]; exact l.kt b ps e hb, l.tq, fun b q xs e => by rw [upd_ne (ne_of_none e n)]; exact l.lk b q xs e⟩
theorem Le.notL {T' : Tk} {H' : Hp} {a : Addr} {o : HO} (l : Le T H T' H') (e : H a = some o) (n : a ∉ T.L) : a ∉ T'.L := fun q => by
  rcases l.freshL a q with z | z
  · exact n z
  · rw [e] at z; cases z
variable {X : Cx} {W : WX} {k : Nat}
/-- the reading of a comprehension -/
theorem rd_lc {fi : Ei} {g : Tg} {t : Et} {f : Ex} {vs tv : List Nat} {Y : Cx} (hK : Y.K = X.K) (hm : Y.mg = X.mg) {σ : L2.St} {H : Hp} {Q : VK} (hv : ∀ i ∈ tv, i ∈ vs)
    (hh : rdF X W (fLc fi g t f vs) σ H Q) : tLc (rdI X W fi) (rdTg X.K (rel X.K) tv g) (rdt Y W0 t) (rd Y W0 f) vs σ H Q := by
  obtain ⟨T, env, h, r1, r2, a⟩ := hh
  refine ⟨T, env, h, r1, r2, After.bind0 a fun it h1 T1 H1 J _ l1 q1 ⟨G, Y, w, hG, hY⟩ a1 => fun D hD => ?_⟩
  refine lc_it w (fun i H2 => ∃ T2 acc ws h2, RelH X.K T2 H2 h2 ∧ Le T1 H1 T2 H2 ∧ T2.B D ∧ D ∉ T2.L ∧ H2 D = some (.lst ws) ∧ rels X.K T2 H2 acc ws ∧ relE X.K T2 H2 (wipeE env vs) (wipe σ vs) ∧
    After X.K X.mg W T H σ (qF X.K H) Q (lcGo it.chk g t f (wipeE env vs) (it.ds.drop i) acc h2)) ?_ ?_ ?_ ?_
  · exact ⟨T1.blk D, [], [], h1, q1.blk hD, Le.blk hD, .inr rfl, fun z => q1.mut.free hD (q1.sub D z), upd_same, rels_nil, relE_wipe (relE_mono (l1.trans r1.mut (Le.blk hD)) r1.mut r2) vs, by rw [List.drop_zero]; exact a1⟩
  · rintro i H2 hi ⟨T2, acc, ws, h2, q2, l2, hb, hl, e0, rv, re, a⟩
    refine hG T2 H2 h2 l2 q2 ?_
    cases ds : it.ds.drop i with
    | nil =>
      rw [ds] at a; unfold lcGo at a
      by_cases hc : chkOk h2 it.chk = true
      · exact hc
      · rw [if_neg hc] at a; exact a.elim
    | cons d r =>
      rw [ds] at a; unfold lcGo at a
      by_cases hc : chkOk h2 it.chk = true
      · exact hc
      · rw [if_neg hc] at a; exact a.elim
  · rintro i x H2 H' hi ⟨T2, acc, ws, h2, q2, l2, hb, hl, e0, rv, re, a⟩ y
    have ed : it.ds.drop i = it.ds[i] :: it.ds.drop (i + 1) := by rw [List.drop_eq_getElem_cons hi]
    rw [ed] at a
    unfold lcGo at a
    by_cases hc : chkOk h2 it.chk = true
    · rw [if_pos hc] at a
      obtain ⟨env1, e1, a⟩ := a.ofO
      obtain ⟨d, e2, l3, q3, rd'⟩ := hY i H2 x H' hi y T2 h2 l2 q2 hc
      rw [List.getElem?_eq_getElem hi] at e2
      cases e2
      have e3 : H' D = some (.lst ws) := l3.keep _ _ e0 hl fun _ z => nomatch z
      have l4 : Le T1 H1 T2 H' := l2.trans q1.mut l3
      refine ⟨T2, wipeE env vs, h2, _, env1, q3, relE_mono l3 q2.mut re, rd', e1, fun σ2 r3 bt => ⟨?_, ?_⟩⟩
      · rw [wipe_but (σ := wipe σ vs) bt.1 fun j hj => bt.2 j fun z => hj (hv j z), wipe_idem]
      · cases et : t env1 h2 with
        | ok b h3 =>
          rw [et] at a
          have a : After X.K X.mg W T H σ (qF X.K H) Q (if b = true then bindX (f env1 h3) fun y h2 => if acc.length < sz then lcGo it.chk g t f (wipeE env vs) (it.ds.drop (i + 1)) (acc ++ [y]) h2 else .stuck else lcGo it.chk g t f (wipeE env vs) (it.ds.drop (i + 1)) acc h3) := a
          refine ⟨T2, env1, h2, by rw [hK]; exact q3, by rw [hK]; exact r3, ?_⟩
          rw [et]
          intro T3 H3 b' l5 q5 hbb
          rw [hK] at q5
          have hbb : b = b' := hbb
          subst hbb
          have e5 : H3 D = some (.lst ws) := l5.keep _ _ e3 hl fun _ z => nomatch z
          have nl5 := l5.notL e3 hl
          have l6 : Le T1 H1 T3 H3 := l4.trans q1.mut l5
          by_cases hbt : b = true
          · rw [if_pos hbt] at a ⊢
            cases ef : f env1 h3 with
            | ok y4 h4 =>
              rw [ef] at a
              refine ⟨T3, env1, h3, by rw [hK]; exact q5, by rw [hK]; exact relE_mono l5 q3.mut r3, ?_⟩
              rw [ef]
              intro T4 H4 v l7 q7 rv7
              rw [hK] at q7 rv7
              have e7 : H4 D = some (.lst ws) := l7.keep _ _ e5 nl5 fun _ z => nomatch z
              have nl7 := l7.notL e5 nl5
              have hb7 : T4.B D := l7.more _ (l5.more _ hb)
              have l27 : Le T2 H' T4 H4 := l5.trans q3.mut l7
              have a : After X.K X.mg W T H σ (qF X.K H) Q (if acc.length < sz then lcGo it.chk g t f (wipeE env vs) (it.ds.drop (i + 1)) (acc ++ [y4]) h4 else .stuck) := a
              by_cases hz : acc.length < sz
              · rw [if_pos hz] at a
                refine ⟨ws, e7, by rw [rels_length rv, sizeLine_eq]; exact hz, T4, acc ++ [y4], ws ++ [v], h4, q7.bw hb7 nl7 LD.lst, (l6.trans q1.mut l7).bw hD, hb7, nl7, upd_same, ?_, ?_, a⟩
                · exact rels_append (rels_bw q7.mut hb7 _ _ (rels_mono l27 q3.mut _ _ (rels_mono l3 q2.mut _ _ rv))) (rels_cons (rel_bw q7.mut hb7 _ _ rv7) rels_nil)
                · exact relE_bw q7.mut hb7 (relE_mono l27 q3.mut (relE_mono l3 q2.mut re))
              · rw [if_neg hz] at a; exact a.elim
            | exc c h4 => rw [ef] at a; exact a.elim
            | stuck => rw [ef] at a; exact a.elim
          · rw [if_neg hbt] at a ⊢
            exact ⟨T3, acc, ws, h3, q5, l6, l5.more _ hb, nl5, e5, rels_mono l5 q3.mut _ _ (rels_mono l3 q2.mut _ _ rv), relE_mono l5 q3.mut (relE_mono l3 q2.mut re), a⟩
        | exc c h3 => rw [et] at a; exact a.elim
        | stuck => rw [et] at a; exact a.elim
    · rw [if_neg hc] at a; exact a.elim
  · rintro H2 ⟨T2, acc, ws, h2, q2, l2, hb, hl, e0, rv, re, a⟩
    rw [List.drop_length] at a
    unfold lcGo at a
    by_cases hc : chkOk h2 it.chk = true
    · rw [if_pos hc] at a
      exact a T2 H2 _ (l1.trans r1.mut l2) q2 ⟨D, ws, rfl, e0, hl, hb, l1.was q1.mut hD, rv⟩
    · rw [if_neg hc] at a; exact a.elim
/-- a comprehension is a fresh list -/
theorem sf_lc (C : Cok X W k) {elt tg iter : Expr} {ifs : List Expr} {scope : Scope} {own : List (Str × Nat)} {pos : Pos} {fi : Ei} {g : Tg} {t : Et} {f : Ex} {tv : List Nat} (hN : X.N.Nodup) (hi : SI X W tg iter fi) (ok : BlkOk X.N X.env.scope scope own)
    (hg : ∀ (s : Shared) (H : Hp) (A : Addr) (cl : List (Str × Addr)) (fp : List Addr), SG (X.blk s H scope (compEnvC scope cl A X.env) fp) tg tv g)
    (ht : ∀ (s : Shared) (H : Hp) (A : Addr) (cl : List (Str × Addr)) (fp : List Addr), SPt (X.blk s H scope (compEnvC scope cl A X.env) fp) W0 ifs t)
    (he : ∀ (s : Shared) (H : Hp) (A : Addr) (cl : List (Str × Addr)) (fp : List Addr), SE (X.blk s H scope (compEnvC scope cl A X.env) fp) W0 elt f)
    (hv : ∀ i ∈ tv, i ∈ own.map (·.2) := by decide) (hs : ∀ x, foldedSetIterable iter X.env x = pure x := by intro _; rfl) :
    SF X W (.ListComp elt [⟨tg, iter, ifs, 0⟩] scope pos) (fLc fi g t f (own.map (·.2))) :=
  PE.mono (pe_lc C.calm hN hi ok hg (fun s H A cl fp => (ht s H A cl fp).pt) he hs) fun σ H Q hh => rd_lc (Y := X) rfl rfl hv hh
/-- it is named -/
theorem ss_setLc (C : Cok X W k) {i : Nat} {y : Str} {py : Pos} {elt tg iter : Expr} {ifs : List Expr} {scope : Scope} {own : List (Str × Nat)} {pos spos : Pos} {fi : Ei} {g : Tg} {t : Et} {f : Ex} {tv : List Nat} {fin : Exs → Ex}
    (hf : ∀ (f : Exs) (σ : L2.St) (H : Hp) (Q : VK), rd X W (fin f) σ H Q → rdF X W f σ H Q) (hN : X.N.Nodup) (hy : X.N[i]? = some y) (hyl : X.env.scope.names.lookup y = some .local)
    (hsw : swapsWith (.ListComp elt [⟨tg, iter, ifs, 0⟩] scope pos) (some (.Name y py)) spos.line X.env = pure true) (hi : SI X W tg iter fi) (ok : BlkOk X.N X.env.scope scope own)
    (hg : ∀ (s : Shared) (H : Hp) (A : Addr) (cl : List (Str × Addr)) (fp : List Addr), SG (X.blk s H scope (compEnvC scope cl A X.env) fp) tg tv g)
    (ht : ∀ (s : Shared) (H : Hp) (A : Addr) (cl : List (Str × Addr)) (fp : List Addr), SPt (X.blk s H scope (compEnvC scope cl A X.env) fp) W0 ifs t)
    (he : ∀ (s : Shared) (H : Hp) (A : Addr) (cl : List (Str × Addr)) (fp : List Addr), SE (X.blk s H scope (compEnvC scope cl A X.env) fp) W0 elt f)
    (hv : ∀ i ∈ tv, i ∈ own.map (·.2) := by decide) (hs : ∀ x, foldedSetIterable iter X.env x = pure x := by intro _; rfl) :
    SS X W (.Assign [.Name y py] (.ListComp elt [⟨tg, iter, ifs, 0⟩] scope pos) spos) (sSet i (fin (fLc fi g t f (own.map (·.2))))) :=
  PS.mono (ps_setLc C.calm hN hy hyl hsw hi ok hg (fun s H A cl fp => (ht s H A cl fp).pt) he hs) fun E σ H hh => by
    obtain ⟨T, env, h, r1, r2, a⟩ := hh
    refine rd_lc (Y := X) rfl rfl hv (hf _ _ _ _ ⟨T, env, h, r1, r2, a.bindS r1.mut r2 fun d h1 T1 H1 v _ l1 q1 rv a1 => ?_⟩)
    exact a1.next q1 (relE_set (relE_mono l1 r1.mut r2) rv i)
end
end Pu

namespace Pu
open PySem PySem.Spec PyProof.Rows L2

/-! ### defs -/
abbrev Fn := List D → HH → R D
def runF (n : Nat) (b : Sx) : Fn := fun ds h => match b (ds.map some ++ List.replicate (n - ds.length) none) h with
  | .ret d h' => .ok d h'
  | .next _ h' => .ok .non h'
  | .exc c _ h' => .exc c h'
  | _ => .stuck
def AfterF (K : PySem.W.Frag) (mg : Str → Option Value) (T : Tk) (H : Hp) (Q : VK) (E : XK) : R D → Prop
  | .ok d h' => ∀ T' H' v, Le T H T' H' → RelH K T' H' h' → rel K T' H' d v → Q v H'
  | .exc c h' => ∀ C T' H', mg (Str.ofString c) = some C → Le T H T' H' → RelH K T' H' h' → E C none H'
  | .stuck => False
structure FnG (P : Program) (w : World) (K : PySem.W.Frag) (mg : Str → Option Value) (base : Heap) (k : Nat) (f : Addr) (fd : FuncData) (ps : List Str) (F : Fn) : Prop where
  run : ∀ (A : Around) (outer : List Env) (s : Shared) (H : Hp) (args : Args) (us : List Value) (vs : List V) (T : Tk) (ds : List D) (h : HH) (Q : VK) (E : XK), Room k A → A.guards = some [] → Env0 P w K mg base A outer s H →
    BindsTo s fd args (ps.zip us) → Vals vs us → RelH K T H h → rels K T H ds vs → ds.length = ps.length → AfterF K mg T H Q E (F ds h) →
    codeAny (model P w) A (.call (.ref f) args) (CR (L2.CX P w) outer P w H s Q E) s
section
variable {P : Program} {w : World} {K : PySem.W.Frag} {mg : Str → Option Value} {base : Heap} {j k : Nat} {f : Addr} {fd : FuncData} {ps : List Str} {F F' : Fn}
theorem FnG.mono (g : FnG P w K mg base j f fd ps F) (h : j ≤ k) : FnG P w K mg base k f fd ps F :=
  ⟨fun A o s H args us vs T ds hh Q E hr => g.run A o s H args us vs T ds hh Q E (hr.mono h)⟩
/-- told otherwise, where it is told -/
theorem FnG.as (g : FnG P w K mg base k f fd ps F) (h : ∀ ds hh, ds.length = ps.length → F' ds hh = .stuck ∨ F' ds hh = F ds hh) : FnG P w K mg base k f fd ps F' :=
  ⟨fun A o s H args us vs T ds hh Q E hr hg e0 hb r rh rs hl a => g.run A o s H args us vs T ds hh Q E hr hg e0 hb r rh rs hl (by
    rcases h ds hh hl with z | z
    · rw [z] at a; exact a.elim
    · rw [← z]; exact a)⟩
theorem relE_start {T : Tk} {H : Hp} {N : List Str} {ds : List D} {vs : List V} (r : rels K T H ds vs) : relE K T H (ds.map some ++ List.replicate (N.length - ds.length) none) (L2.start N vs) := by
  unfold L2.start
  have hl := rels_length r
  refine ⟨by simp [hl], fun i d e => ?_⟩
  by_cases hi : i < ds.length
  · rw [List.getElem?_append_left (by simpa using hi), List.getElem?_map] at e
    cases e1 : ds[i]? with
    | none => rw [e1] at e; cases e
    | some d' =>
      rw [e1] at e; cases e
      obtain ⟨v, e2, q⟩ := rels_get r e1
      refine ⟨v, ?_, q⟩
      rw [List.getElem?_append_left (by simpa [hl] using hi), List.getElem?_map, e2]; rfl
  · rw [List.getElem?_append_right (by simpa using hi), List.getElem?_replicate] at e
    split at e <;> cases e
/-- a def, by its body -/
theorem fnG_of {name qual : Str} {st : Stmt} {N : List Str} {b : Sx} (Fu : Fun K name qual st f fd) (sc : FnScope N ps (defScope st))
    (hbody : ∀ (cdv : Value) (A : Around) (outer : List Env) (s : Shared) (H : Hp) (E : XK), Cok (cxOf (L2.CX P w) P w K mg base N qual (defScope st) f cdv A outer s H E) (fun cls d _ G => E cls d G) k →
      SB (cxOf (L2.CX P w) P w K mg base N qual (defScope st) f cdv A outer s H E) (fun cls d _ G => E cls d G) (defBody st) b) : FnG P w K mg base (k + 1) f fd ps (runF N.length b) := by
  obtain ⟨oc, od, kV, doc, pm, an, cdv, ct, osl, rfl, lk, hcd⟩ := Fu.ex
  refine ⟨fun A outer s H args us vs T ds h Q E hr hgd e0 hb r rh rs hl a => ?_⟩
  have hvl : vs.length = ps.length := (rels_length rs).trans hl
  have KX : K.In s.heap := e0.mod.kin.keeps fun b o e => (e0.bs b o e).1
  have lim : s.heap.NoLimit := e0.mod.nolimit.keeps fun b o e => (e0.bs b o e).1
  have hkind : ∀ y ∈ ps.zip us, (defScope st).names.lookup y.1 = some .local ∨ ((defScope st).names.lookup y.1 = some .cell ∧ ((cellsFrom (s.heap.objs.size + 1) (defScope st).names []).lookup y.1).isSome = true) := fun y hy => by
    rcases sc.par y.1 (List.of_mem_zip hy).1 with q | q
    · exact .inl q
    · exact .inr ⟨q, PySem.W.cellsFrom_some _ _ _ (.inl q)⟩
  refine codeAny_call_function hr.depth (KX _ _ lk) rfl sc.co sc.gen rfl (PySem.W.codeRec_of KX hcd) (hb _ _ _ _ ?_)
  refine wpAny_newFunctionEnv_cells sc.kind hkind fun env he s1 x => ?_
  subst he
  refine ⟨lim.keeps x.toInCall.keep, codeAny_func ?_⟩
  have ok : Cok (cxOf (L2.CX P w) P w K mg base N qual (defScope st) f cdv A outer s H E) (fun cls d _ G => E cls d G) k := ⟨rfl, takes_of rfl rfl rfl rfl, passes_of rfl, hr.deeper _, hgd⟩
  have ht := hbody cdv A outer s H E ok
  have I : Inv (cxOf (L2.CX P w) P w K mg base N qual (defScope st) f cdv A outer s H E) [] (L2.start N vs) H s1 := inv_start sc hr.hd e0 hvl r x
  have hq : rdSt (cxOf (L2.CX P w) P w K mg base N qual (defScope st) f cdv A outer s H E) (fun cls d _ G => E cls d G) b { nx := fun _ H' => Q .non H', rt := Q } (L2.start N vs) H := by
    refine ⟨T, _, h, rh, relE_start rs, ?_⟩
    revert a
    unfold runF
    cases b (ds.map some ++ List.replicate (N.length - ds.length) none) h with
    | next env' h' => exact fun a T' H' σ l q _ => a T' H' .non l q (rel_non_iff.mpr rfl)
    | ret d h' => exact fun a T' H' v l q rv => a T' H' v l q rv
    | brk env' h' => exact fun a => a.elim
    | cont env' h' => exact fun a => a.elim
    | exc c env' h' => exact fun a C T' H' σ hm l q _ => a C T' H' hm l q
    | stuck => exact fun a => a.elim
  refine wpAny_mono (ht.run [] s1 (L2.start N vs) H _ I hq) (fun fl s' hs => ?_) fun e s' hs => hs
  cases fl with
  | ret u =>
    obtain ⟨v, σ', H', J, rv, q⟩ := hs
    exact ⟨v, H', J.os, J.bare, J.base, J.hok, rv, q⟩
  | next =>
    obtain ⟨σ', H', J, q⟩ := hs
    exact ⟨V.non, H', J.os, J.bare, J.base, J.hok, rfl, q⟩
  | brk =>
    obtain ⟨_, _, _, q⟩ := hs
    exact False.elim q
  | cont =>
    obtain ⟨_, _, _, q⟩ := hs
    exact False.elim q
end

/-! ### calls -/
def eFn (F : Fn) (g : Exs) : Ex := fun env h => (g env h).bind F
section
variable {X : Cx} {W : WX} {k j : Nat} {f : Addr} {fd : FuncData} {ps : List Str} {F : Fn}
theorem call_fnG (C : Cok X W k) (G : FnG X.prog X.w X.K X.mg X.base j f fd ps F) (hk : j ≤ k) (hb : Binds X.K fd ps []) {pins : List (Addr × Obj)} {σ : L2.St} {H : Hp} {s : Shared} {Q : VK} {us : List Value} {vs : List V} {T : Tk} {ds : List D} {h : HH}
    (I : Inv X pins σ H s) (r : Vals vs us) (rh : RelH X.K T H h) (rs : rels X.K T H ds vs) (hl : ds.length = ps.length) (a : After X.K X.mg W T H σ (rel X.K) Q (F ds h)) :
    wpAny (model X.prog X.w) X.A (call (.ref f) us) (EP X pins σ Q) X.xe s := by
  have hu : us.length = ps.length := by rw [← r.length, rels_length rs]; exact hl
  have b := hb s us I.kIn (by rw [List.append_nil]; exact hu)
  rw [List.append_nil] at b
  refine wpAny_call (codeAny_mono (G.run X.A X.stack s H ⟨us, []⟩ us vs T ds h Q (fun cls d G => W cls d σ G) (C.hr.mono hk) C.gd I.env0 b r rh rs hl ?_) fun r s' hq => ?_)
  · revert a
    cases F ds h with
    | ok d h' => exact fun a => a
    | exc c h' => exact fun a => a
    | stuck => exact fun a => a
  · cases r with
    | error e => exact C.tk e s' (XE.of_call I (fun _ _ _ h => h) hq)
    | ok fl =>
      cases fl with
      | ret u => exact I.after hq
      | next => exact False.elim hq
      | brk => exact False.elim hq
      | cont => exact False.elim hq
theorem se_fn (C : Cok X W k) (G : FnG X.prog X.w X.K X.mg X.base j f fd ps F) (hk : j ≤ k) {x : Str} {e : Expr} {es : List Expr} {g : Exs} {p pos : Pos} (hg : Gl X x) (hm : X.mg x = some (.ref f)) (hkp : PySem.W.keepIn X.K (.ref f) = true) (hb : Binds X.K fd ps [])
    (ha : SA X W (e :: es) g) (hl : (e :: es).length = ps.length := by rfl) (hdb : (x == ("__debug__" : Str)) = false := by decide) (he : starEach (e :: es) X.env = (false, eval e X.env) :: starEach es X.env := by rfl) (hpl : (backTo pos (starEach es X.env)).any (·.1) = false := by rfl) :
    SE X W (.Call (.Name x p) (e :: es) [] pos) (eFn F g) := by
  refine ⟨fun pins s σ H Q I hh => wpAny_Call_Name_kw (ld_glob I hg hm ?_ hdb)⟩
  obtain ⟨T, env, h, r1, r2, a⟩ := hh
  have hq : rds X W g σ H fun vs H1 => ∃ T1 ds h1, RelH X.K T1 H1 h1 ∧ rels X.K T1 H1 ds vs ∧ ds.length = ps.length ∧ After X.K X.mg W T1 H1 σ (rel X.K) Q (F ds h1) :=
    ⟨T, env, h, r1, r2, a.bind r1.mut fun ds h1 T1 H1 vs e1 l1 q1 rv a1 => ⟨T1, ds, h1, q1, rv, (ha.len _ _ _ _ e1).trans hl, a1⟩⟩
  exact PySem.W.callWith_K (h₀ := X.base) I.ok.mod.kin hkp (thn (ha.pa.run pos pins s σ H _ I hq) fun us s1 ⟨vs, H1, I1, r, T1, ds, h1, q1, rv, hl1, a1⟩ => ⟨I1.kIn, call_fnG C G hk hb I1 r q1 rv hl1 a1⟩) he hpl
theorem se_fn0 (C : Cok X W k) (G : FnG X.prog X.w X.K X.mg X.base j f fd [] F) (hk : j ≤ k) {x : Str} {p pos : Pos} (hg : Gl X x) (hm : X.mg x = some (.ref f)) (hkp : PySem.W.keepIn X.K (.ref f) = true) (hb : Binds X.K fd [] [])
    (hdb : (x == ("__debug__" : Str)) = false := by decide) : SE X W (.Call (.Name x p) [] [] pos) (eFn F aNil) := by
  refine ⟨fun pins s σ H Q I hh => wpAny_Call_Name_kw (ld_glob I hg hm ?_ hdb)⟩
  obtain ⟨T, env, h, r1, r2, a⟩ := hh
  exact PySem.W.callWith_K0 I.kIn hkp (call_fnG C G hk hb I (.nil : Vals [] []) r1 rels_nil rfl a)
end
end Pu

namespace Pu
open PySem PySem.Spec PyProof.Rows L2

/-! ### the law's end -/
abbrev T0 : Tk := ⟨[], fun _ => False, []⟩
theorem relH0 {K : PySem.W.Frag} {H : Hp} (ht : LamX.Tabs (QK K) H) : RelH K T0 H [] := ⟨rfl, List.nodup_nil, fun i o e => (by simp at e), fun a e => (by cases e), fun a e => False.elim e, ht⟩
theorem rels_ofInts {K : PySem.W.Frag} {T : Tk} {H : Hp} : ∀ ns : List Int, rels K T H (ns.map D.int) (ns.map V.int)
  | [] => rels_nil
  | n :: ns => rels_cons (rel_int_iff.mpr rfl) (rels_ofInts ns)
/-- the law is called: from what its def comes to -/
theorem law_go {P : Program} {w : World} {K : PySem.W.Frag} {mg mb : Str → Option Value} {k : Nat} {fa a : Addr} {fd : FuncData} {x : Str} {F : Fn} {s₁ : Shared} {us : List Value} {ns : List Int}
    (KX : K.In s₁.heap) (hns : s₁.heap.Ns mainGlobals mg) (hb : s₁.heap.Ns builtinsNs mb) (hbb : ∀ x : Str, x ≠ "__name__" → mb x = bootBuiltins x) (hlim : s₁.heap.NoLimit) (hg : s₁.gens = #[])
    (ha : s₁.heap.get? a = some { cls := .type "list", data := .seq us.toArray }) (hi : IntsAre us ns) (hz : ns.length ≤ sizeLine) (hr : Room k callerA)
    (G : ∀ base : Heap, K.In base → base.Ns mainGlobals mg → FnG P w K mg base k fa fd [x] F) (hbind : ∀ (s : Shared) (u : Value), BindsTo s fd ⟨[u], []⟩ [(x, u)])
    (hF : ∃ h', F [.frz (ns.map D.int)] [] = .ok (.bl true) h') (hq : QK K = []) :
    codeAny (model P w) callerA (.call (.ref fa) ⟨[.ref a], []⟩) (fun r s' => r = .ok (.ret (.bool true)) ∧ OldK s₁.heap s'.heap ∧ s'.os = s₁.os ∧ AllBare s'.gens) s₁ := by
  obtain ⟨hF1, hF⟩ := hF
  have vals := vals_ints hi
  have len := hi.length
  -- the dict objects are not the script
  have notDict : ∀ {b : Addr} {o : Obj} {es : Array DictEntry} {ep : Nat}, s₁.heap.get? b = some o → o.data = .dict es ep → b ≠ a := fun e d z => by
    rw [z, ha] at e; cases e; cases d
  have core : ∀ H : Hp, (∀ b, b ≠ a → H b = none) → (∀ u, H a = some u → ∃ o xs, u = .frz o (.lst xs)) → ((Rd H a (.lst (ns.map V.int))) ∨ ∀ G, SqL K G a (ns.map V.int)) → HOk P w H s₁.heap → (H a ≠ none → K.lookup a = none) →
      codeAny (model P w) callerA (.call (.ref fa) ⟨[.ref a], []⟩) (fun r s' => r = .ok (.ret (.bool true)) ∧ OldK s₁.heap s'.heap ∧ s'.os = s₁.os ∧ AllBare s'.gens) s₁ := by
    intro H h0 hfr hS ok hK
    have keepNs : ∀ {b : Addr} {m : Str → Option Value}, s₁.heap.Ns b m → (hidT s₁.heap H).Ns b m := fun ⟨o, es, ep, e, d, r⟩ => ⟨o, es, ep, hidT_get e (h0 _ (notDict e d)), d, r⟩
    have inB : K.In (hidT s₁.heap H) := fun b o e => by
      refine hidT_get (KX b o e) ?_
      by_cases hba : b = a
      · cases q : H b with
        | none => rfl
        | some u =>
          subst hba
          rw [hK (by rw [q]; simp)] at e; cases e
      · exact h0 b hba
    obtain ⟨mc, l1, l2⟩ := hlim
    have md : Mod K mg (hidT s₁.heap H) := ⟨inB, keepNs hns, ⟨mb, keepNs hb, hbb⟩, mc, keepNs l1, l2⟩
    have env0 : Env0 P w K mg (hidT s₁.heap H) callerA [] s₁ H := ⟨rfl, md, fun b o e => of_hidT e, Nat.le_of_eq (hidT_size _ _), trivial, fun b hb => (nomatch (show b ∈ ([] : List Addr) from hb)), ok, .of_eq hg⟩
    have rr : rels K T0 H [.frz (ns.map D.int)] [.ref a] := by
      refine rels_cons ?_ rels_nil
      unfold rel
      exact ⟨a, _, rfl, hS.imp (fun z => ⟨z, fun z => z⟩) id, rels_ofInts ns⟩
    refine codeAny_mono ((G _ inB (keepNs hns)).run callerA [] s₁ H ⟨[.ref a], []⟩ [.ref a] [.ref a] T0 _ [] (fun v _ => v = .bl true) (fun _ _ _ => False) hr rfl env0 (hbind s₁ (.ref a)) (.cons rfl .nil) (relH0 fun p hp => by rw [hq] at hp; cases hp) rr rfl ?_) fun r s' h => ?_
    · rw [hF]
      exact fun T' H' v _ _ rv => rel_bl_iff.mp rv
    · cases r with
      | error e =>
        obtain ⟨_, _, _, _, _, _, _, _, _, _, _, _, z⟩ := h
        exact z.elim
      | ok fl =>
        cases fl with
        | ret u =>
          obtain ⟨v, H', os, bare, un, ok', rv, q⟩ := h
          have q : v = .bl true := q
          subst q
          cases rv
          refine ⟨rfl, OldK.of_keep fun b o e => ?_, os, bare⟩
          cases q : H b with
          | none => exact un.keep b o e q (fun z => nomatch (show b ∈ ([] : List Addr) from z)) (by simp)
          | some u =>
            have hba : b = a := Classical.byContradiction fun z => by rw [h0 b z] at q; cases q
            subst hba
            obtain ⟨ob, xs, rfl⟩ := hfr u q
            obtain ⟨g1, _⟩ := ok b _ q
            obtain ⟨g2, _⟩ := ok' b _ (un.frzs b ob _ q)
            rw [e] at g1; cases g1
            exact g2
        | next => exact False.elim h
        | brk => exact False.elim h
        | cont => exact False.elim h
  cases hk : K.lookup a with
  | some o =>
    have e := KX a o hk
    rw [ha] at e
    cases e
    refine core (fun _ => none) (fun _ _ => rfl) (fun u z => nomatch z) (.inr fun G => .inr ⟨_, us.toArray, _, hk, rfl, rfl, rfl, by rw [List.size_toArray, len]; exact hz, by simpa using vals⟩) (fun b u z => nomatch z) fun z => absurd rfl z
  | none =>
    refine core (fun b => if b = a then some (.frz { cls := .type "list", data := .seq us.toArray } (.lst (ns.map V.int))) else none) (fun b z => if_neg z) (fun u z => ?_) (.inl (.inr ⟨_, if_pos rfl⟩)) (fun b u z => ?_) fun _ => hk
    · have z := (if_pos rfl).symm.trans z
      cases z
      exact ⟨_, _, rfl⟩
    · by_cases hba : b = a
      · have z := (if_pos hba).symm.trans z
        cases z
        subst hba
        exact ⟨ha, by rw [List.length_map]; exact hz, us, _, vals, ha⟩
      · have z := (if_neg hba).symm.trans z
        cases z
theorem walk_G {l : PySem.W.OpenLaw} {n k : Nat} {q : Program} {loose : List Str} {XP : (Str → Option Value) → Heap → Prop} {YP : World → Heap → Prop} {d : DefRec} {K : Params → PySem.W.Frag} {x : Str} {F : Fn}
    (hn : l.most = some n) (hn2 : n ≤ sizeLine) (hdf : d.params.defaults = []) (hr : Room k callerA) (hY : ∀ (w : World) (h : Heap), YP w h → (K w.params).In h)
    (G : ∀ (w : World) (mg : Str → Option Value) (fa : Addr) (h : Heap), (K w.params).In h → h.Ns mainGlobals mg → mg d.name = some (.ref fa) →
      ∃ fd : FuncData, (∀ (s : Shared) (u : Value), BindsTo s fd ⟨[u], []⟩ [(x, u)]) ∧
        ∀ base : Heap, (K w.params).In base → base.Ns mainGlobals mg → FnG l.prog w (K w.params) mg base k fa fd [x] F)
    (hF : ∀ ns : List Int, ns.length ≤ n → ∃ h', F [.frz (ns.map D.int)] [] = .ok (.bl true) h') (hq : ∀ w : World, QK (K w.params) = [] := by exact fun w => QK_nil rfl) : PySem.W.WalkO q loose XP YP l.row.toRowW d [] (fun f vs => PySem.call f vs) := by
  refine Att.attach_call hn hdf fun w s₀ s₁ mg mb fa o pm cd doc a us ns Gr Y ho hd hcd hmg hobj hints hlen hg => ?_
  have KX := hY w _ Y
  obtain ⟨fd, hb, hG⟩ := G w mg fa _ KX Gr.T.g hmg
  exact law_go KX Gr.T.g Gr.T.b Gr.T.builtins Gr.T.nolimit hg hobj hints (Nat.le_trans hlen hn2) hr hG hb (hF ns hlen) (hq w)
end Pu

namespace Pu
open PySem PySem.Spec PyProof.Rows L2

/-! ### a list that changes -/
/-- the list that d is, by its place -/
def refL (h : HH) (d : D) : Option (Nat × List D) := match d with
  | .ref i => match h[i]? with
    | some (.lst xs) => some (i, xs)
    | _ => none
  | _ => none
section
variable {K : PySem.W.Frag} {T : Tk} {H : Hp} {h : HH}
theorem rel_refL (r : RelH K T H h) {d : D} {v : V} {i : Nat} {xs : List D} (q : rel K T H d v) (e : refL h d = some (i, xs)) : ∃ a vs, v = .ref a ∧ T.L[i]? = some a ∧ H a = some (.lst vs) ∧ rels K T H xs vs := by
  unfold refL at e
  split at e
  · unfold rel at q
    obtain ⟨a, rfl, hp⟩ := q
    split at e
    · rename_i j ys e2
      cases e
      obtain ⟨b, e3, vs, e4, rr⟩ := r.at_ _ _ e2
      rw [hp] at e3; cases e3
      exact ⟨a, vs, rfl, hp, e4, rr⟩
    · cases e
  · cases e
/-- it is written -/
theorem wr_lst (r : RelH K T H h) {i : Nat} {a : Addr} {ys : List D} {ws us : List V} (hp : T.L[i]? = some a) (s : H a = some (.lst us)) (rr : rels K T H ys ws) : Le T H T (upd H a (.lst ws)) ∧ RelH K T (upd H a (.lst ws)) (h.set i (.lst ys)) := by
  have pl : a ∈ T.L := List.mem_of_getElem? hp
  have lw : Le T H T (upd H a (.lst ws)) := Le.wr pl (by intro _ _ z; rw [s] at z; cases z)
  exact ⟨lw, r.wr hp LD.lst ⟨ws, upd_same, rels_mono lw r.mut _ _ rr⟩⟩
end
/-! ### methods of built-ins by values -/
def rdM (X : Cx) (m : D → List D → HH → R D) : V → List V → Hp → VK → Prop := fun x xs H Q => ∃ T h d ds, RelH X.K T H h ∧ rel X.K T H d x ∧ rels X.K T H ds xs ∧ match m d ds h with
  | .ok d' h' => ∀ T' H' v, Le T H T' H' → RelH X.K T' H' h' → rel X.K T' H' d' v → Q v H'
  | _ => False
def eM (c : HH → D → Bool) (m : D → List D → HH → R D) (f : Ex) (g : Exs) : Ex := fun env h => (f env h).bind fun d h1 => if c h1 d = true then (g env h1).bind fun ds h2 => noX (m d ds h2) else .stuck
def cL (h : HH) (d : D) : Bool := (itemsL h d).isSome
def cS (_ : HH) (d : D) : Bool := match d with
  | .str _ => true
  | _ => false
def mApp (d : D) (ds : List D) (h : HH) : R D := match refL h d, ds with
  | some (i, xs), [e] => if xs.length < sz then .ok .non (h.set i (.lst (xs ++ [e]))) else .stuck
  | _, _ => .stuck
def mExt (d : D) (ds : List D) (h : HH) : R D := match refL h d, ds with
  | some (i, xs), [e] => ofO (lview h e) fun ys => if xs.length + ys.length ≤ sz then .ok .non (h.set i (.lst (xs ++ ys))) else .stuck
  | _, _ => .stuck
def mPop (d : D) (ds : List D) (h : HH) : R D := match refL h d, ds with
  | some (i, xs), [] => ofO xs[xs.length - 1]? fun z => .ok z (h.set i (.lst xs.dropLast))
  | _, _ => .stuck
def mClear (d : D) (ds : List D) (h : HH) : R D := match refL h d, ds with
  | some (i, _), [] => .ok .non (h.set i (.lst []))
  | _, _ => .stuck
def mRev (d : D) (ds : List D) (h : HH) : R D := match refL h d, ds with
  | some (i, xs), [] => .ok .non (h.set i (.lst xs.reverse))
  | _, _ => .stuck
/-- the first place of an equal one -/
def findAt (a : D) : List D → Nat → Option Nat
  | [], _ => none
  | y :: ys, n => if eqv y a = true then some n else findAt a ys (n + 1)
def mIndex (d : D) (ds : List D) (h : HH) : R D := match itemsL h d, ds with
  | some xs, [e] => if inOk h e xs = true then ofO (findAt (view h e) xs 0) fun n => .ok (.int n) h else .stuck
  | _, _ => .stuck
section
variable {X : Cx} {W : WX} {k : Nat}
theorem MtR.mono {id : String} {r r' : V → List V → Hp → VK → Prop} (h : MtR X id r) (i : ∀ x xs H Q, r' x xs H Q → r x xs H Q) : MtR X id r' :=
  fun pins s σ H x xs v us Q I rx rs q => h pins s σ H x xs v us Q I rx rs (i _ _ _ _ q)
theorem cL_ty {T : Tk} {H : Hp} {h : HH} (r : RelH X.K T H h) {d : D} {v : V} (q : rel X.K T H d v) (e : cL h d = true) : tyV X.K "list" v H := by
  unfold cL at e
  cases e1 : itemsL h d with
  | none => rw [e1] at e; cases e
  | some xs =>
    obtain ⟨a, vs, rfl, s, _⟩ := rel_itemsL r q e1
    exact .inl ⟨rfl, vs, s⟩
theorem cS_ty {T : Tk} {H : Hp} {h : HH} (r : RelH X.K T H h) {d : D} {v : V} (q : rel X.K T H d v) (e : cS h d = true) : tyV X.K "str" v H := by
  unfold cS at e
  split at e
  · rw [rel_str_iff] at q; subst q; rfl
  · cases e
theorem rd_M {Ty : String} {c : HH → D → Bool} (hc : ∀ T H h d v, RelH X.K T H h → rel X.K T H d v → c h d = true → tyV X.K Ty v H) {m : D → List D → HH → R D} {f : Ex} {g : Exs} {σ : L2.St} {H : Hp} {Q : VK} (hh : rd X W (eM c m f g) σ H Q) :
    tBM X.K Ty (rdM X m) (rd X W f) (rds X W g) σ H Q := by
  obtain ⟨T, env, h, r1, r2, a⟩ := hh
  refine ⟨T, env, h, r1, r2, a.bind r1.mut fun d h1 T1 H1 v _ l1 q1 rv a1 => ?_⟩
  by_cases hk : c h1 d = true
  · rw [if_pos hk] at a1
    refine ⟨hc _ _ _ _ _ q1 rv hk, T1, env, h1, q1, relE_mono l1 r1.mut r2, a1.bind q1.mut fun ds h2 T2 H2 us _ l2 q2 rus a2 => ⟨T2, h2, d, ds, q2, rel_mono l2 q1.mut d v rv, rus, ?_⟩⟩
    revert a2
    cases m d ds h2 with
    | ok d' h' => exact fun a2 T' H' v' l r q => a2 T' H' v' l r q
    | exc c h' => exact fun a2 => a2
    | stuck => exact fun a2 => a2
  · rw [if_neg hk] at a1; exact a1.elim
theorem rd_M0 {Ty : String} {c : HH → D → Bool} (hc : ∀ T H h d v, RelH X.K T H h → rel X.K T H d v → c h d = true → tyV X.K Ty v H) {m : D → List D → HH → R D} {f : Ex} {σ : L2.St} {H : Hp} {Q : VK} (hh : rd X W (eM c m f aNil) σ H Q) :
    tBM0 X.K Ty (rdM X m) (rd X W f) σ H Q := by
  obtain ⟨T, env, h, r1, r2, a⟩ := hh
  refine ⟨T, env, h, r1, r2, a.bind r1.mut fun d h1 T1 H1 v _ l1 q1 rv a1 => ?_⟩
  by_cases hk : c h1 d = true
  · rw [if_pos hk] at a1
    refine ⟨hc _ _ _ _ _ q1 rv hk, T1, h1, d, [], q1, rv, rels_nil, ?_⟩
    have a1 : After X.K X.mg W T1 H1 σ (rel X.K) Q (noX (m d [] h1)) := a1
    revert a1
    cases m d [] h1 with
    | ok d' h' => exact fun a2 T' H' v' l r q => a2 T' H' v' l r q
    | exc c h' => exact fun a2 => a2
    | stuck => exact fun a2 => a2
  · rw [if_neg hk] at a1; exact a1.elim
/-- o.m(e, ..) of a list -/
theorem se_mL {id : String} {name : Str} {o e : Expr} {es : List Expr} {m : D → List D → HH → R D} {f : Ex} {g : Exs} {apos cpos : Pos} (slot : Slot "list" name id) (hty : typeOf (.builtin id) = pure (.type "method_descriptor")) (hm : MtR X id (rdM X m)) (ho : SE X W o f) (ha : SA X W (e :: es) g)
    (hbase : attributeBase o name X.env (eval o X.env) = eval o X.env := by rfl)
    (hfew : ((backTo cpos (starEach (e :: es) X.env)).all (fun x => !x.1) && (backToKw cpos (keywordEach [] X.env)).all (fun x => x.1.isSome)
      && decide ((e :: es).length + ([] : List Keyword).length + (if ([] : List Keyword).isEmpty then 0 else 1) < 30)) = true := by rfl)
    (hline : (apos.endLine == cpos.line) = true := by rfl) (hs : starEach (e :: es) X.env = (false, eval e X.env) :: starEach es X.env := by rfl) (hplain : (backTo cpos (starEach es X.env)).any (·.1) = false := by rfl) :
    SE X W (.Call (.Attribute o name apos) (e :: es) [] cpos) (eM cL m f g) :=
  PE.mono (pe_bm PySem.F.plainAttrs_list slot hty hm ho ha.pa hbase hfew hline hs hplain) fun _ _ _ => rd_M fun _ _ _ _ _ r q e => cL_ty r q e
theorem se_mL0 {id : String} {name : Str} {o : Expr} {m : D → List D → HH → R D} {f : Ex} {apos cpos : Pos} (slot : Slot "list" name id) (hty : typeOf (.builtin id) = pure (.type "method_descriptor")) (hm : MtR X id (rdM X m)) (ho : SE X W o f)
    (hbase : attributeBase o name X.env (eval o X.env) = eval o X.env := by rfl) (hline : (apos.endLine == cpos.line) = true := by rfl) : SE X W (.Call (.Attribute o name apos) [] [] cpos) (eM cL m f aNil) :=
  PE.mono (pe_bm0 PySem.F.plainAttrs_list slot hty hm ho hbase hline) fun _ _ _ => rd_M0 fun _ _ _ _ _ r q e => cL_ty r q e
theorem rdM_ok {r : R D} {P : D → HH → Prop} (q : match r with | .ok d h' => P d h' | _ => False) : ∃ d h', r = .ok d h' ∧ P d h' := rdO_ok q
theorem m_app : MtR X "list.append" (rdM X mApp) := MtR.mono mt_append fun x xs H Q q => by
  obtain ⟨T, h, d, ds, r, rv, rs, q⟩ := q
  obtain ⟨d', h', e, q⟩ := rdO_ok q
  unfold mApp at e
  split at e
  · rename_i i ys e1 a
    split at e
    · rename_i hz
      cases e
      obtain ⟨p, vs, rfl, hp, s, rr⟩ := rel_refL r rv a
      obtain ⟨u, rfl, ru⟩ := rels_one rs
      obtain ⟨w1, w2⟩ := wr_lst r hp s (rels_append rr (rels_cons ru rels_nil))
      exact ⟨p, vs, u, rfl, rfl, s, by rw [rels_length rr, sizeLine_eq]; exact hz, q T _ _ w1 w2 (rel_non_iff.mpr rfl)⟩
    · cases e
  · cases e
theorem m_ext : MtR X "list.extend" (rdM X mExt) := MtR.mono mt_extend fun x xs H Q q => by
  obtain ⟨T, h, d, ds, r, rv, rs, q⟩ := q
  obtain ⟨d', h', e, q⟩ := rdO_ok q
  unfold mExt at e
  split at e
  · rename_i i ys e1 a
    obtain ⟨zs, e2, e⟩ := ofO_ok e
    split at e
    · rename_i hz
      cases e
      obtain ⟨p, vs, rfl, hp, s, rr⟩ := rel_refL r rv a
      obtain ⟨u, rfl, ru⟩ := rels_one rs
      obtain ⟨p2, ws, rfl, s2, rr2⟩ := rel_lview r ru e2
      obtain ⟨w1, w2⟩ := wr_lst r hp s (rels_append rr rr2)
      exact ⟨p, p2, vs, ws, rfl, rfl, s, s2, by rw [rels_length rr, rels_length rr2, sizeLine_eq]; exact hz, q T _ _ w1 w2 (rel_non_iff.mpr rfl)⟩
    · cases e
  · cases e
theorem m_pop : MtR X "list.pop" (rdM X mPop) := MtR.mono mt_pop fun x xs H Q q => by
  obtain ⟨T, h, d, ds, r, rv, rs, q⟩ := q
  obtain ⟨d', h', e, q⟩ := rdO_ok q
  unfold mPop at e
  split at e
  · rename_i i ys a
    obtain ⟨z, e2, e⟩ := ofO_ok e
    cases e
    obtain ⟨p, vs, rfl, hp, s, rr⟩ := rel_refL r rv a
    have hx : xs = [] := List.length_eq_zero_iff.mp (rels_length rs)
    obtain ⟨u, e3, ru⟩ := rels_get rr e2
    have rd' : rels X.K T H ys.dropLast vs.dropLast := by
      rw [List.dropLast_eq_take, List.dropLast_eq_take, rels_length rr]
      exact rels_take _ rr
    obtain ⟨w1, w2⟩ := wr_lst r hp s rd'
    exact ⟨p, vs, u, rfl, hx, s, by rw [rels_length rr]; exact e3, q T _ _ w1 w2 (rel_mono w1 r.mut _ _ ru)⟩
  · cases e
theorem m_clear : MtR X "list.clear" (rdM X mClear) := MtR.mono mt_clear fun x xs H Q q => by
  obtain ⟨T, h, d, ds, r, rv, rs, q⟩ := q
  obtain ⟨d', h', e, q⟩ := rdO_ok q
  unfold mClear at e
  split at e
  · rename_i i ys a
    cases e
    obtain ⟨p, vs, rfl, hp, s, rr⟩ := rel_refL r rv a
    have hx : xs = [] := List.length_eq_zero_iff.mp (rels_length rs)
    obtain ⟨w1, w2⟩ := wr_lst r hp s (rels_nil (K := X.K) (T := T) (H := H))
    exact ⟨p, vs, rfl, hx, s, q T _ _ w1 w2 (rel_non_iff.mpr rfl)⟩
  · cases e
theorem m_rev : MtR X "list.reverse" (rdM X mRev) := MtR.mono mt_reverse fun x xs H Q q => by
  obtain ⟨T, h, d, ds, r, rv, rs, q⟩ := q
  obtain ⟨d', h', e, q⟩ := rdO_ok q
  unfold mRev at e
  split at e
  · rename_i i ys a
    cases e
    obtain ⟨p, vs, rfl, hp, s, rr⟩ := rel_refL r rv a
    have hx : xs = [] := List.length_eq_zero_iff.mp (rels_length rs)
    obtain ⟨w1, w2⟩ := wr_lst r hp s (rels_reverse rr)
    exact ⟨p, vs, rfl, hx, s, q T _ _ w1 w2 (rel_non_iff.mpr rfl)⟩
  · cases e
theorem findAt_spec {a : D} : ∀ {ys : List D} {n j : Nat}, findAt a ys n = some j → ∃ i, j = n + i ∧ (∃ z, ys[i]? = some z ∧ eqv z a = true) ∧ ∀ m z, m < i → ys[m]? = some z → eqv z a = false
  | [], n, j, e => by unfold findAt at e; cases e
  | y :: ys, n, j, e => by
    unfold findAt at e
    split at e
    · rename_i hy
      cases e
      exact ⟨0, rfl, ⟨y, rfl, hy⟩, fun m z hm => absurd hm (Nat.not_lt_zero _)⟩
    · rename_i hy
      obtain ⟨i, e1, ⟨z, e2, e3⟩, e4⟩ := findAt_spec e
      refine ⟨i + 1, by omega, ⟨z, by simpa using e2, e3⟩, fun m z' hm hz => ?_⟩
      cases m with
      | zero => simp at hz; subst hz; simpa using hy
      | succ m => exact e4 m z' (by omega) (by simpa using hz)
theorem toPs_get : ∀ {ys : List D} {i : Nat}, (toPs ys)[i]? = ys[i]?.map toP
  | [], i => by unfold toPs; simp
  | y :: ys, 0 => by unfold toPs; simp
  | y :: ys, i + 1 => by unfold toPs; simpa using toPs_get
theorem m_index (hu : X.A.units + 65 < cLine) : MtR X "list.index" (rdM X mIndex) := MtR.mono (mt_indexD hu) fun x xs H Q q => by
  obtain ⟨T, h, d, ds, r, rv, rs, q⟩ := q
  obtain ⟨d', h', e, q⟩ := rdO_ok q
  unfold mIndex at e
  split at e
  · rename_i ys e0 a
    split at e
    · rename_i hc
      obtain ⟨j, e2, e⟩ := ofO_ok e
      cases e
      unfold inOk at hc
      simp only [Bool.and_eq_true, decide_eq_true_eq] at hc
      obtain ⟨u, rfl, ru⟩ := rels_one rs
      obtain ⟨p, vs, rfl, s, rr⟩ := rel_itemsL r rv a
      obtain ⟨i, e3, ⟨z, e4, e5⟩, e6⟩ := findAt_spec e2
      have hj : j = i := by omega
      subst hj
      refine ⟨p, u, _, toPs ys, j, toP z, rfl, rfl, .lst s (rels_dp ys vs hc.1.1.2 rr), rel_view r ru hc.1.1.1, toPs_shaped hc.1.1.2 hc.2, toP_shaped hc.1.1.1 (by omega), by rw [toPs_get, e4]; rfl, e5, fun m z' hm hz => ?_, q T H _ Le.refl r (rel_int_iff.mpr rfl)⟩
      rw [toPs_get] at hz
      cases e7 : ys[m]? with
      | none => rw [e7] at hz; cases hz
      | some w => rw [e7] at hz; cases hz; exact e6 m w hm e7
    · cases e
  · cases e

/-! ### minus -/
def opNeg (d : D) (h : HH) : R D := match d with
  | .int i => .ok (.int (-i)) h
  | _ => .stuck
def eUn (o : D → HH → R D) (f : Ex) : Ex := fun env h => (f env h).bind fun d h1 => noX (o d h1)
theorem se_neg {a : Expr} {f : Ex} {pos : Pos} (ha : SE X W a f) : SE X W (.UnaryOp .USub a pos) (eUn opNeg f) := PE.mono (pe_un un_neg ha) fun σ H Q hh => by
  obtain ⟨T, env, h, r1, r2, a⟩ := hh
  refine ⟨T, env, h, r1, r2, a.bind r1.mut fun d h1 T1 H1 v _ l1 q1 rv a1 => ?_⟩
  cases d with
  | int i => exact ⟨i, rel_int_iff.mp rv, After.done (d := D.int (-i)) a1 q1 (rel_int_iff.mpr rfl)⟩
  | _ => exact False.elim a1

/-! ### dict displays -/
def dicGo : List (Ex × Ex) → En → HH → R (List (Ky × D))
  | [], _, h => .ok [] h
  | (f, g) :: r, env, h => (f env h).bind fun k h1 => (g env h1).bind fun d h2 => (dicGo r env h2).bind fun kvs h3 => ofO (kyD k) fun ky => .ok ((ky, d) :: kvs) h3
def merD (kvs : List (Ky × D)) : List (Ky × D) := kvs.foldl (fun acc p => dPut acc p.1 p.2) []
def eDic (ps : List (Ex × Ex)) : Ex := fun env h => (dicGo ps env h).bind fun kvs h1 => .ok (.dic (merD kvs)) h1
def eDicN (ps : List (Ex × Ex)) : Ex := fun env h => (dicGo ps env h).bind fun kvs h1 => .ok (.ref h1.length) (h1 ++ [.dic (merD kvs)])
def qK (K : PySem.W.Frag) : Tk → Hp → List (Ky × D) → List (V × V) → Prop := fun T H kvs ps => ∃ ks : List (Key × V), ps = ks.map (fun kv => (kV kv.1, kv.2)) ∧ relk K T H kvs ks
structure SD (X : Cx) (W : WX) (pos : Pos) (keys : List (Option Expr)) (values : List Expr) (ps : List (Ex × Ex)) : Prop where
  pps : PPs X pos keys values (ps.map fun p => (rd X W p.1, rd X W p.2))
theorem sd_nil {pos : Pos} : SD X W pos [] [] [] := ⟨pps_nil⟩
theorem sd_cons {pos : Pos} {a b : Expr} {ks : List (Option Expr)} {vs : List Expr} {f g : Ex} {ps : List (Ex × Ex)} (ha : SE X W a f) (hb : SE X W b g) (h : SD X W pos ks vs ps) : SD X W pos (some a :: ks) (b :: vs) ((f, g) :: ps) := ⟨pps_cons ha hb h.pps⟩
theorem rd_pairs {σ : L2.St} {env : En} : ∀ {ps : List (Ex × Ex)} {T : Tk} {H : Hp} {h : HH} {Q : List (V × V) → Hp → Prop}, RelH X.K T H h → relE X.K T H env σ → After X.K X.mg W T H σ (qK X.K) Q (dicGo ps env h) → tPairs (ps.map fun p => (rd X W p.1, rd X W p.2)) σ H Q
  | [], T, H, h, Q, r, e, a => After.done (d := ([] : List (Ky × D))) a r ⟨[], rfl, by unfold relk; rfl⟩
  | (f, g) :: ps, T, H, h, Q, r, e, a => by
    unfold dicGo at a
    refine ⟨T, env, h, r, e, a.bind r.mut fun k h1 T1 H1 x _ l1 q1 rk a1 => ?_⟩
    have e1 := relE_mono l1 r.mut e
    refine ⟨T1, env, h1, q1, e1, a1.bind q1.mut fun d h2 T2 H2 y _ l2 q2 rd' a2 => ?_⟩
    have e2 := relE_mono l2 q1.mut e1
    refine rd_pairs q2 e2 (a2.bind q2.mut fun kvs h3 T3 H3 qs _ l3 q3 ⟨ks, eqs, rks⟩ a3 => ?_)
    obtain ⟨ky, e3, a3⟩ := a3.ofO
    refine a3.done q3 ⟨(kyV ky, y) :: ks, ?_, ?_⟩
    · rw [eqs, List.map_cons, rel_ky (rel_mono (l2.trans q1.mut l3) q1.mut k x rk) e3]
    · unfold relk
      exact ⟨y, ks, rfl, rel_mono l3 q2.mut d y rd', rks⟩
theorem dicGo_len {env : En} : ∀ {ps : List (Ex × Ex)} {h h' : HH} {kvs : List (Ky × D)}, dicGo ps env h = .ok kvs h' → kvs.length = ps.length
  | [], h, h', kvs, e => by cases e; rfl
  | (f, g) :: ps, h, h', kvs, e => by
    unfold dicGo at e
    obtain ⟨k, h1, e1, e⟩ := R.bind_ok e
    obtain ⟨d, h2, e2, e⟩ := R.bind_ok e
    obtain ⟨ks, h3, e3, e⟩ := R.bind_ok e
    obtain ⟨ky, e4, e⟩ := ofO_ok e
    cases e
    rw [List.length_cons, List.length_cons, dicGo_len e3]
theorem relk_mer {T : Tk} {H : Hp} : ∀ {kvs : List (Ky × D)} {ks : List (Key × V)} {acc : List (Ky × D)} {ak : List (Key × V)}, relk X.K T H kvs ks → relk X.K T H acc ak → relk X.K T H (kvs.foldl (fun acc p => dPut acc p.1 p.2) acc) (mergeK ak ks)
  | [], ks, acc, ak, r, q => by unfold relk at r; subst r; exact q
  | (k, d) :: kvs, ks, acc, ak, r, q => by
    unfold relk at r
    obtain ⟨v, t, rfl, r1, r2⟩ := r
    exact relk_mer (kvs := kvs) (acc := dPut acc k d) (ak := putK ak (kyV k) v) r2 (relk_put q k r1)
theorem relk_nil {T : Tk} {H : Hp} : relk X.K T H [] [] := by unfold relk; rfl
theorem rd_dic {ps : List (Ex × Ex)} {fin : List (Ky × D) → HH → R D} {σ : L2.St} {H : Hp} {Q : VK} (h15 : ps.length ≤ 15)
    (hfin : ∀ T H T1 H1 h kvs ks p, RelH X.K T1 H1 h → Le T H T1 H1 → Mu T H → H p = none → H1 p = some (.dK ks) → p ∉ T1.L → T1.B p → relk X.K T1 H1 (merD kvs) ks → After X.K X.mg W T H σ (rel X.K) Q (fin kvs h) → Q (.ref p) H1)
    (hh : rd X W (fun env h => (dicGo ps env h).bind fin) σ H Q) : tDisp (ps.map fun p => (rd X W p.1, rd X W p.2)) σ H Q := by
  intro p hn
  obtain ⟨T, env, h, r1, r2, a⟩ := hh
  refine rd_pairs (r1.blk hn (o := .dK [])) (relE_mono (Le.blk hn) r1.mut r2) ?_
  revert a
  dsimp only
  cases e : dicGo ps env h with
  | ok kvs h1 =>
    intro a T1 H1 qs l1 q1 ⟨ks, eqs, rks⟩
    have np : p ∉ T.L := fun z => r1.mut.free hn (r1.sub p z)
    have e1 : H1 p = some (.dK []) := l1.keep p _ upd_same np fun _ z => nomatch z
    have nl : p ∉ T1.L := l1.notL (a := p) upd_same np
    have hb : T1.B p := l1.more p (.inr rfl)
    have lt : Le T H T1 H1 := (Le.blk hn).trans r1.mut l1
    refine ⟨e1, ks, eqs, by rw [relk_length rks, dicGo_len e]; exact h15, ?_⟩
    exact hfin T H T1 _ h1 kvs _ p (q1.bw hb nl LD.dK) (lt.bw hn) r1.mut hn upd_same nl hb (relk_bw q1.mut hb _ _ (relk_mer rks relk_nil)) a
  | exc c h1 => exact fun a C T1 H1 hm l1 q1 => a C T1 H1 hm ((Le.blk hn).trans r1.mut l1) q1
  | stuck => exact fun a => a
theorem se_dic {pos : Pos} {keys : List (Option Expr)} {values : List Expr} {ps : List (Ex × Ex)} (h : SD X W pos keys values ps) (hall : keys.all (·.isSome) = true := by rfl) (hl : keys.length = values.length := by rfl) (h0 : keys ≠ [] := by exact fun z => nomatch z)
    (h15 : keys.length ≤ 15 := by decide) (hp : ps.length ≤ 15 := by decide) : SE X W (.Dict keys values pos) (eDic ps) := PE.mono (pe_disp h.pps hall hl h0 h15) fun σ H Q hh => by
  refine rd_dic (fin := fun kvs h1 => .ok (.dic (merD kvs)) h1) hp (fun T H T1 H1 h kvs ks p q1 l m hn e1 nl hb rk a => ?_) hh
  refine a (T1.un p) H1 _ (l.un hn m) (q1.un hb nl) ?_
  unfold rel
  exact ⟨p, ks, rfl, e1, fun z => z.2 rfl, relk_un (hb := hb) _ _ rk⟩
theorem se_dicN {pos : Pos} {keys : List (Option Expr)} {values : List Expr} {ps : List (Ex × Ex)} (h : SD X W pos keys values ps) (hall : keys.all (·.isSome) = true := by rfl) (hl : keys.length = values.length := by rfl) (h0 : keys ≠ [] := by exact fun z => nomatch z)
    (h15 : keys.length ≤ 15 := by decide) (hp : ps.length ≤ 15 := by decide) : SE X W (.Dict keys values pos) (eDicN ps) := PE.mono (pe_disp h.pps hall hl h0 h15) fun σ H Q hh => by
  refine rd_dic (fin := fun kvs h1 => R.ok (D.ref h1.length) (h1 ++ [O.dic (merD kvs)])) hp (fun T H T1 H1 h kvs ks p q1 l m hn e1 nl hb rk a => ?_) hh
  refine a (T1.add p) H1 _ (l.add hn) (q1.add hb nl ⟨ks, e1, relk_add _ _ hb rk⟩) ?_
  unfold rel
  exact ⟨p, rfl, by show (T1.L ++ [p])[h.length]? = _; rw [← q1.len, List.getElem?_append_right (Nat.le_refl _), Nat.sub_self]; rfl⟩
theorem se_dic0 {pos : Pos} : SE X W (.Dict [] [] pos) (eDic []) := PE.mono pe_dnewK fun σ H Q hh p hn => by
  obtain ⟨T, env, h, r1, r2, a⟩ := hh
  refine After.new (d := D.dic []) a r1 hn ?_
  unfold rel
  exact ⟨p, [], rfl, upd_same, r1.mut.free hn, relk_nil⟩
theorem se_dicN0 {pos : Pos} : SE X W (.Dict [] [] pos) (eDicN []) := PE.mono pe_dnewK fun σ H Q hh p hn => by
  obtain ⟨T, env, h, r1, r2, a⟩ := hh
  have np : p ∉ T.L := fun z => r1.mut.free hn (r1.sub p z)
  refine a ((T.blk p).add p) _ _ ((Le.blk hn).add hn) ((r1.blk hn (o := .dK [])).add (.inr rfl) np ⟨[], upd_same, relk_nil⟩) ?_
  unfold rel
  exact ⟨p, rfl, by show (T.L ++ [p])[h.length]? = _; rw [← r1.len, List.getElem?_append_right (Nat.le_refl _), Nat.sub_self]; rfl⟩
end
end Pu

namespace Pu
open PySem PySem.Spec PyProof.Rows L2

section
variable {X : Cx} {W : WX} {k : Nat}
theorem Cok.hu64 (C : Cok X W k) : X.A.units + 64 < cLine := C.hr.units
theorem Cok.hu65 (C : Cok X W k) : X.A.units + 65 < cLine := by have := C.hr.un; omega
theorem Cok.hu0 (C : Cok X W k) : X.A.units < cLine := Nat.lt_of_le_of_lt (Nat.le_add_right _ _) C.hr.units
end
theorem bt_len : bootBuiltins "len" = some (.builtin "len") := by decide +kernel
theorem bt_isinstance : bootBuiltins "isinstance" = some (.builtin "isinstance") := by decide +kernel
theorem bt_abs : bootBuiltins "abs" = some (.builtin "abs") := by decide +kernel
theorem bt_max : bootBuiltins "max" = some (.builtin "max") := by decide +kernel
theorem bt_min : bootBuiltins "min" = some (.builtin "min") := by decide +kernel
theorem bt_sum : bootBuiltins "sum" = some (.builtin "sum") := by decide +kernel
theorem bt_all : bootBuiltins "all" = some (.builtin "all") := by decide +kernel
theorem bt_any : bootBuiltins "any" = some (.builtin "any") := by decide +kernel
theorem bt_repr : bootBuiltins "repr" = some (.builtin "repr") := by decide +kernel
theorem bt_int : bootBuiltins "int" = some (.type "int") := by decide +kernel
theorem bt_str : bootBuiltins "str" = some (.type "str") := by decide +kernel
theorem bt_tuple : bootBuiltins "tuple" = some (.type "tuple") := by decide +kernel
theorem bt_list : bootBuiltins "list" = some (.type "list") := by decide +kernel
theorem bt_dict : bootBuiltins "dict" = some (.type "dict") := by decide +kernel
theorem bt_bool : bootBuiltins "bool" = some (.type "bool") := by decide +kernel

section
variable {X : Cx} {W : WX} {k : Nat} {a b : Expr} {f g : Ex} {o : D → D → HH → R D} {pos : Pos}
theorem st_cmp {op : CmpOp} (ho : OpR X (compareOp op) (rdO X o)) (ha : SE X W a f) (hb : SE X W b g) (hm : behindInMarks op b = false := by first | exact nomark _ | rfl) : ST X W (.Compare a [op] [b] pos) (tB (eOp o f g)) :=
  PT.mono (pt_cmpR ho ha hb hm) fun _ _ _ hh => rd_op (rd_tB hh)
theorem st_din (C : Cok X W k) (ha : SE X W a f) (hb : SE X W b g) (hm : behindInMarks .In b = false := by first | exact nobehind _ (by decide) (by decide) | rfl) : ST X W (.Compare a [.In] [b] pos) (tB (eOp (opDIn false) f g)) :=
  PT.mono (pt_cmp (pc_din C.hu1 ha hb) hm) fun _ _ _ hh => rd_din (rd_tB hh)
theorem st_dnotin (C : Cok X W k) (ha : SE X W a f) (hb : SE X W b g) (hm : behindInMarks .NotIn b = false := by first | exact nobehind _ (by decide) (by decide) | rfl) : ST X W (.Compare a [.NotIn] [b] pos) (tB (eOp (opDIn true) f g)) :=
  PT.mono (pt_cmp (pc_dnotin C.hu1 ha hb) hm) fun _ _ _ hh => rd_din (rd_tB hh)
end
/-- a def of the module, as its callers see it -/
structure Fd (K : PySem.W.Frag) (mg : Str → Option Value) (name : Str) (ps : List Str) (st : Stmt) (f : Addr) (fd : FuncData) (own : Str := name) : Prop where
  fu : Fun K own own st f fd
  mg : mg name = some (.ref f)
  bi : Binds K fd ps []
/-- a name of the module that holds a value -/
structure Cn (mg : Str → Option Value) (K : PySem.W.Frag) (x : Str) (d : D) : Prop where
  ex : ∃ (v : V) (u : Value), mg x = some u ∧ RelV v u ∧ (∀ T H, rel K T H d v) ∧ ∀ ds, d = .tup ds → ∃ p o, v = .ref p ∧ K.lookup p = some o ∧ o.cls = Value.type "tuple" ∧ o.dict = none
theorem Cn.se {X : Cx} {W : WX} {x : Str} {d : D} {pos : Pos} (c : Cn X.mg X.K x d) (hg : Gl X x) (hdb : (x == ("__debug__" : Str)) = false := by decide) : SE X W (.Name x pos) (eC d) := by
  obtain ⟨v, u, hm, r, hd, _⟩ := c.ex
  exact se_glob hg hm r hd hdb

/-! ### dict(list of pairs) -/
def pairD : D → Option (Ky × D)
  | .tup [k, v] => (kyD k).map fun ky => (ky, v)
  | _ => none
def pairsD : List D → Option (List (Ky × D))
  | [] => some []
  | d :: r => match pairD d, pairsD r with
    | some p, some q => some (p :: q)
    | _, _ => none
def dictP (h : HH) : List D → Option (List (Ky × D))
  | [d] => (itemsL h d).bind pairsD
  | _ => none
def eDict (f : Exs) : Ex := fun env h => (f env h).bind fun ds h1 => ofO (dictP h1 ds) fun kvs => .ok (.dic (merD kvs)) h1
def eDictN (f : Exs) : Ex := fun env h => (f env h).bind fun ds h1 => ofO (dictP h1 ds) fun kvs => .ok (.ref h1.length) (h1 ++ [.dic (merD kvs)])
section
variable {X : Cx} {W : WX} {k : Nat}
theorem pairs_rel {T : Tk} {H : Hp} : ∀ {xs : List D} {vs : List V} {kvs : List (Ky × D)}, rels X.K T H xs vs → pairsD xs = some kvs →
    ∃ (ps : List Addr) (ks : List (Key × V)), vs = ps.map V.ref ∧ Paired (fun p kv => SqT X.K H p [kV kv.1, kv.2]) ps ks ∧ relk X.K T H kvs ks
  | [], vs, kvs, r, e => by
    unfold rels at r
    cases e
    exact ⟨[], [], r, .nil, by unfold relk; rfl⟩
  | d :: xs, vs, kvs, r, e => by
    unfold rels at r
    obtain ⟨v, t, rfl, r1, r2⟩ := r
    unfold pairsD at e
    split at e
    · rename_i p q e1 e2
      cases e
      obtain ⟨ps, ks, rfl, hp, rk⟩ := pairs_rel r2 e2
      unfold pairD at e1
      split at e1
      · rename_i kd vd
        obtain ⟨ky, e3, e4⟩ := Option.map_eq_some_iff.mp e1
        subst e4
        unfold rel at r1
        obtain ⟨a, ws, rfl, s, rr⟩ := r1
        obtain ⟨w1, w2, rfl, q1, q2⟩ := rels_two rr
        rw [rel_ky q1 e3] at s
        refine ⟨a :: ps, (kyV ky, w2) :: ks, rfl, .cons s.sq hp, ?_⟩
        unfold relk
        exact ⟨w2, ks, rfl, q2, rk⟩
      · cases e1
    · cases e
theorem rd_dict {f : Exs} {fin : List (Ky × D) → HH → R D} {σ : L2.St} {H : Hp} {Q : VK}
    (hfin : ∀ T H h kvs ks p, RelH X.K T H h → H p = none → relk X.K T H kvs ks → After X.K X.mg W T H σ (rel X.K) Q (fin kvs h) → Q (.ref p) (upd H p (.dK ks)))
    (hh : rd X W (fun env h => (f env h).bind fun ds h1 => ofO (dictP h1 ds) fun kvs => fin (merD kvs) h1) σ H Q) :
    rds X W f σ H fun xs H1 => ∃ (a : Addr) (ps : List Addr) (kvs : List (Key × V)), xs = [.ref a] ∧ SqL X.K H1 a (ps.map V.ref) ∧ Paired (fun p kv => SqT X.K H1 p [kV kv.1, kv.2]) ps kvs ∧
      ∀ p, H1 p = none → Q (.ref p) (upd H1 p (.dK (mergeK [] kvs))) := by
  obtain ⟨T, env, h, r1, r2, a⟩ := hh
  refine ⟨T, env, h, r1, r2, a.bind r1.mut fun ds h1 T1 H1 vs e l1 q1 rvs a1 => ?_⟩
  obtain ⟨kvs, e1, a2⟩ := a1.ofO
  unfold dictP at e1
  split at e1
  · obtain ⟨xs, e2, e3⟩ := Option.bind_eq_some_iff.mp e1
    obtain ⟨v, rfl, rv⟩ := rels_one rvs
    obtain ⟨b, ws, rfl, s, rr⟩ := rel_itemsL q1 rv e2
    obtain ⟨ps, ks, rfl, hp, rk⟩ := pairs_rel rr e3
    exact ⟨b, ps, ks, rfl, s, hp, fun p hn => hfin T1 H1 h1 (merD kvs) _ p q1 hn (relk_mer rk relk_nil) a2⟩
  · cases e1
theorem se_dict (C : Cok X W k) {x : Str} {e : Expr} {f : Exs} {p pos : Pos} (hg : Gl X x) (hm : X.mg x = none) (hv : bootBuiltins x = some (.type "dict")) (ha : SA X W [e] f)
    (hn : x ≠ "__name__" := by decide) (hdb : (x == ("__debug__" : Str)) = false := by decide)
    (he : starEach [e] X.env = (false, eval e X.env) :: starEach [] X.env := by rfl) (hpl : (backTo pos (starEach [] X.env)).any (·.1) = false := by rfl) : SE X W (.Call (.Name x p) [e] [] pos) (eDict f) :=
  PE.mono (pe_callTy (call_dictP C.calm) hg hm hv ha.pa hn hdb he hpl) fun σ H Q hh => by
    refine rd_dict (fin := fun kvs h1 => .ok (.dic kvs) h1) (fun T H h kvs ks p q hn rk a => ?_) hh
    refine After.new (d := D.dic kvs) a q hn ?_
    unfold rel
    exact ⟨p, ks, rfl, upd_same, q.mut.free hn, relk_mono (Le.new hn) q.mut _ _ rk⟩
theorem se_dictN (C : Cok X W k) {x : Str} {e : Expr} {f : Exs} {p pos : Pos} (hg : Gl X x) (hm : X.mg x = none) (hv : bootBuiltins x = some (.type "dict")) (ha : SA X W [e] f)
    (hn : x ≠ "__name__" := by decide) (hdb : (x == ("__debug__" : Str)) = false := by decide)
    (he : starEach [e] X.env = (false, eval e X.env) :: starEach [] X.env := by rfl) (hpl : (backTo pos (starEach [] X.env)).any (·.1) = false := by rfl) : SE X W (.Call (.Name x p) [e] [] pos) (eDictN f) :=
  PE.mono (pe_callTy (call_dictP C.calm) hg hm hv ha.pa hn hdb he hpl) fun σ H Q hh => by
    refine rd_dict (fin := fun kvs (h1 : HH) => R.ok (D.ref h1.length) (h1 ++ [O.dic kvs])) (fun T H h kvs ks p q hn rk a => ?_) hh
    have np : p ∉ T.L := fun z => q.mut.free hn (q.sub p z)
    have q2 := q.blk hn (o := .dK ks)
    have rk2 : relk X.K (T.blk p) (upd H p (.dK ks)) kvs ks := relk_mono (Le.blk hn) q.mut _ _ rk
    refine a ((T.blk p).add p) _ _ ((Le.blk hn).add hn) (q2.add (.inr rfl) np ⟨ks, upd_same, relk_add _ _ (.inr rfl) rk2⟩) ?_
    unfold rel
    exact ⟨p, rfl, by show (T.L ++ [p])[h.length]? = _; rw [← q.len, List.getElem?_append_right (Nat.le_refl _), Nat.sub_self]; rfl⟩
end
end Pu

namespace Pu
open PySem PySem.Spec PyProof.Rows L2

/-! ### what a def leaves behind is dropped; what it made and gives back is a value -/
mutual
def cl (n : Nat) : D → Bool
  | .tup xs => cls n xs
  | .tux xs => cls n xs
  | .lst xs => cls n xs
  | .frz xs => cls n xs
  | .dic kvs => clk n kvs
  | .ref i => decide (i < n)
  | .non => true
  | .bl _ => true
  | .int _ => true
  | .str _ => true
  | .ty _ => true
  | .xc _ => true
  | .lam _ _ _ ds _ => cls n ds
def cls (n : Nat) : List D → Bool
  | [] => true
  | d :: r => cl n d && cls n r
def clk (n : Nat) : List (Sum Int String × D) → Bool
  | [] => true
  | (_, d) :: r => cl n d && clk n r
end
def clO (n : Nat) : O → Bool
  | .lst xs => cls n xs
  | .dic kvs => clk n kvs
  | .lkd kvs => clk n kvs
mutual
inductive Fz (hh : HH) (n : Nat) : D → D → Prop
  | same {d : D} (h : cl n d = true) : Fz hh n d d
  | mk {i : Nat} {ds es : List D} (h : n ≤ i) (e : hh[i]? = some (.lst ds)) (z : Fzs hh n ds es) : Fz hh n (.ref i) (.lst es)
  | mkd {i : Nat} {ds es : List (Sum Int String × D)} (h : n ≤ i) (e : hh[i]? = some (.dic ds)) (z : Fzk hh n ds es) : Fz hh n (.ref i) (.dic es)
  | tup {ds es : List D} (z : Fzs hh n ds es) : Fz hh n (.tup ds) (.tup es)
  | lst {ds es : List D} (z : Fzs hh n ds es) : Fz hh n (.lst ds) (.lst es)
  | dic {ds es : List (Sum Int String × D)} (z : Fzk hh n ds es) : Fz hh n (.dic ds) (.dic es)
inductive Fzs (hh : HH) (n : Nat) : List D → List D → Prop
  | nil : Fzs hh n [] []
  | cons {d e : D} {ds es : List D} (h : Fz hh n d e) (r : Fzs hh n ds es) : Fzs hh n (d :: ds) (e :: es)
inductive Fzk (hh : HH) (n : Nat) : List (Sum Int String × D) → List (Sum Int String × D) → Prop
  | nil : Fzk hh n [] []
  | cons {k : Sum Int String} {d e : D} {ds es : List (Sum Int String × D)} (h : Fz hh n d e) (r : Fzk hh n ds es) : Fzk hh n ((k, d) :: ds) ((k, e) :: es)
end
/-- the first n objects alone -/
def Tk.cutT (T : Tk) (n : Nat) : Tk := ⟨T.L.take n, fun a => T.B a ∧ a ∉ T.L.drop n, T.Q⟩
section
variable {K : PySem.W.Frag} {T : Tk} {H : Hp} {hh : HH} {n : Nat}
theorem cut_not {a : Addr} (h : ¬ T.B a) : ¬ (T.cutT n).B a := fun q => h q.1
mutual
theorem rel_cl : ∀ (d : D) (v : V), cl n d = true → rel K T H d v → rel K (T.cutT n) H d v
  | .non, v, c, r => by unfold rel at r ⊢; exact r
  | .bl _, v, c, r => by unfold rel at r ⊢; exact r
  | .int _, v, c, r => by unfold rel at r ⊢; exact r
  | .str _, v, c, r => by unfold rel at r ⊢; exact r
  | .ty _, v, c, r => by unfold rel at r ⊢; exact r
  | .xc _, v, c, r => by unfold rel at r ⊢; exact r
  | .lam f c' q ds vs, v, c, r => by
    unfold rel at r ⊢
    unfold cl at c
    exact ⟨r.1, r.2.1, rels_cl ds vs c r.2.2⟩
  | .ref i, v, c, r => by
    unfold rel at r ⊢
    unfold cl at c
    obtain ⟨a, e, q⟩ := r
    refine ⟨a, e, ?_⟩
    show (T.L.take n)[i]? = _
    rw [List.getElem?_take_of_lt (of_decide_eq_true c)]
    exact q
  | .tup ds, v, c, r => by
    unfold rel at r ⊢
    unfold cl at c
    obtain ⟨a, vs, e, q, z⟩ := r
    exact ⟨a, vs, e, q, rels_cl ds vs c z⟩
  | .tux ds, v, c, r => by
    unfold rel at r ⊢
    unfold cl at c
    obtain ⟨a, vs, e, q, z⟩ := r
    exact ⟨a, vs, e, q, rels_cl ds vs c z⟩
  | .lst ds, v, c, r => by
    unfold rel at r ⊢
    unfold cl at c
    obtain ⟨a, vs, e, q, m, z⟩ := r
    exact ⟨a, vs, e, q, cut_not m, rels_cl ds vs c z⟩
  | .frz ds, v, c, r => by
    unfold rel at r ⊢
    unfold cl at c
    obtain ⟨a, vs, e, q, z⟩ := r
    exact ⟨a, vs, e, q.imp (fun q => ⟨q.1, cut_not q.2⟩) id, rels_cl ds vs c z⟩
  | .dic ds, v, c, r => by
    unfold rel at r ⊢
    unfold cl at c
    obtain ⟨a, vs, e, q, m, z⟩ := r
    exact ⟨a, vs, e, q, cut_not m, relk_cl ds vs c z⟩
theorem rels_cl : ∀ (ds : List D) (vs : List V), cls n ds = true → rels K T H ds vs → rels K (T.cutT n) H ds vs
  | [], vs, c, r => by unfold rels at r ⊢; exact r
  | d :: ds, vs, c, r => by
    unfold rels at r ⊢
    unfold cls at c
    rw [Bool.and_eq_true] at c
    obtain ⟨v, t, e, r1, r2⟩ := r
    exact ⟨v, t, e, rel_cl d v c.1 r1, rels_cl ds t c.2 r2⟩
theorem relk_cl : ∀ (ds : List (Sum Int String × D)) (vs : List (Key × V)), clk n ds = true → relk K T H ds vs → relk K (T.cutT n) H ds vs
  | [], vs, c, r => by unfold relk at r ⊢; exact r
  | (k, d) :: ds, vs, c, r => by
    unfold relk at r ⊢
    unfold clk at c
    rw [Bool.and_eq_true] at c
    obtain ⟨v, t, e, r1, r2⟩ := r
    exact ⟨v, t, e, rel_cl d v c.1 r1, relk_cl ds t c.2 r2⟩
end
theorem cut_gone (q : RelH K T H hh) {i : Nat} (hi : n ≤ i) {a : Addr} (e : T.L[i]? = some a) : ¬ (T.cutT n).B a := fun z => z.2 (by
  refine List.mem_iff_getElem?.mpr ⟨i - n, ?_⟩
  rw [List.getElem?_drop, Nat.add_sub_cancel' hi]
  exact e)
mutual
theorem Fz.rel (q : RelH K T H hh) : ∀ {d e : D} {v : V}, Fz hh n d e → Pu.rel K T H d v → Pu.rel K (T.cutT n) H e v
  | _, _, v, .same h, r => rel_cl _ v h r
  | _, _, v, .mk hi e z, r => by
    unfold Pu.rel at r ⊢
    obtain ⟨a, e1, e2⟩ := r
    obtain ⟨b, e3, vs, e4, rr⟩ := q.at_ _ _ e
    rw [e2] at e3; cases e3
    exact ⟨a, vs, e1, e4, cut_gone q hi e2, Fzs.rels q z rr⟩
  | _, _, v, .mkd hi e z, r => by
    unfold Pu.rel at r ⊢
    obtain ⟨a, e1, e2⟩ := r
    obtain ⟨b, e3, vs, e4, rr⟩ := q.at_ _ _ e
    rw [e2] at e3; cases e3
    exact ⟨a, vs, e1, e4, cut_gone q hi e2, Fzk.relk q z rr⟩
  | _, _, v, .tup z, r => by
    unfold Pu.rel at r ⊢
    obtain ⟨a, vs, e, s, rr⟩ := r
    exact ⟨a, vs, e, s, Fzs.rels q z rr⟩
  | _, _, v, .lst z, r => by
    unfold Pu.rel at r ⊢
    obtain ⟨a, vs, e, s, m, rr⟩ := r
    exact ⟨a, vs, e, s, cut_not m, Fzs.rels q z rr⟩
  | _, _, v, .dic z, r => by
    unfold Pu.rel at r ⊢
    obtain ⟨a, vs, e, s, m, rr⟩ := r
    exact ⟨a, vs, e, s, cut_not m, Fzk.relk q z rr⟩
theorem Fzs.rels (q : RelH K T H hh) : ∀ {d e : List D} {v : List V}, Fzs hh n d e → Pu.rels K T H d v → Pu.rels K (T.cutT n) H e v
  | _, _, v, .nil, r => by unfold Pu.rels at r ⊢; exact r
  | _, _, v, .cons h t, r => by
    unfold Pu.rels at r ⊢
    obtain ⟨u, w, e, r1, r2⟩ := r
    exact ⟨u, w, e, Fz.rel q h r1, Fzs.rels q t r2⟩
theorem Fzk.relk (q : RelH K T H hh) : ∀ {d e : List (Sum Int String × D)} {v : List (Key × V)}, Fzk hh n d e → Pu.relk K T H d v → Pu.relk K (T.cutT n) H e v
  | _, _, v, .nil, r => by unfold Pu.relk at r ⊢; exact r
  | _, _, v, .cons h t, r => by
    unfold Pu.relk at r ⊢
    obtain ⟨u, w, e, r1, r2⟩ := r
    exact ⟨u, w, e, Fz.rel q h r1, Fzk.relk q t r2⟩
end
theorem RelH.cutH {h' g : HH} (q : RelH K T H (h' ++ g)) (c : h'.all (clO h'.length) = true) : RelH K (T.cutT h'.length) H h' := by
  have hl := q.len
  rw [List.length_append] at hl
  refine ⟨?_, q.nd.sublist (List.take_sublist _ _), fun i o e => ?_, fun a h => ⟨q.sub a (List.mem_of_mem_take h), fun z => ?_⟩, fun a h => q.occ a h.1, q.tabs⟩
  · show (T.L.take _).length = _
    rw [List.length_take]
    omega
  · have hi := (List.getElem?_eq_some_iff.mp e).1
    obtain ⟨a, e1, r⟩ := q.at_ i o (by rw [List.getElem?_append_left hi]; exact e)
    refine ⟨a, by show (T.L.take _)[i]? = _; rw [List.getElem?_take_of_lt hi]; exact e1, ?_⟩
    have c1 := List.all_eq_true.mp c o (List.mem_of_getElem? e)
    cases o with
    | lst ds => obtain ⟨vs, e2, rr⟩ := r; exact ⟨vs, e2, rels_cl _ _ c1 rr⟩
    | dic ds => obtain ⟨vs, e2, rr⟩ := r; exact ⟨vs, e2, relk_cl _ _ c1 rr⟩
    | lkd ds => obtain ⟨vs, e2, rr⟩ := r; exact ⟨vs, e2, relk_cl _ _ c1 rr⟩
  · have nd := q.nd
    rw [← List.take_append_drop h'.length T.L] at nd
    exact (List.nodup_append.mp nd).2.2 a h a z rfl
theorem Le.cutH {T0 : Tk} {H0 : Hp} {h0 h' g : HH} (l : Le T0 H0 T H) (q0 : RelH K T0 H0 h0) (q : RelH K T H (h' ++ g)) (hl : h0.length ≤ h'.length) : Le T0 H0 (T.cutT h'.length) H := by
  have e0 := q0.len
  obtain ⟨M, eM⟩ := l.pre
  have tk : T.L.take h'.length = T0.L ++ M.take (h'.length - T0.L.length) := by
    rw [eM, List.take_append, List.take_of_length_le (by omega)]
  have dk : T.L.drop h'.length = M.drop (h'.length - T0.L.length) := by
    rw [eM, List.drop_append, List.drop_of_length_le (by omega), List.nil_append]
  refine ⟨⟨_, tk⟩, fun a h => ⟨l.more a h, fun z => ?_⟩, fun a h => l.fresh a h.1, fun a h => l.freshL a (List.mem_of_mem_take h), l.keep, l.kt, l.tq, l.lk⟩
  rw [dk] at z
  have z1 := List.mem_of_mem_drop z
  rcases l.freshL a (by rw [eM]; exact List.mem_append_right _ z1) with y | y
  · have nd := q.nd
    rw [eM] at nd
    exact (List.nodup_append.mp nd).2.2 a y a z1 rfl
  · obtain ⟨xs, e | ⟨xs, e | ⟨_, e⟩⟩⟩ := q0.occ a h <;> (rw [y] at e; cases e)
end
/-- how one telling of a def comes to another: what it left behind dropped -/
inductive Tells (hh : HH) : R D → R D → Prop
  | stuck {r : R D} : Tells hh r .stuck
  | ok {h' g : HH} {d e : D} (hl : hh.length ≤ h'.length) (c : h'.all (clO h'.length) = true) (z : Fz (h' ++ g) h'.length d e) : Tells hh (.ok d (h' ++ g)) (.ok e h')
  | exc {h' g : HH} {x : String} (hl : hh.length ≤ h'.length) (c : h'.all (clO h'.length) = true) : Tells hh (.exc x (h' ++ g)) (.exc x h')
  | same {r : R D} : Tells hh r r
section
variable {P : Program} {w : World} {K : PySem.W.Frag} {mg : Str → Option Value} {base : Heap} {j k : Nat} {f : Addr} {fd : FuncData} {ps : List Str} {F F' : Fn}
theorem FnG.imp (g : FnG P w K mg base k f fd ps F) (h : ∀ ds hh, ds.length = ps.length → Tells hh (F ds hh) (F' ds hh)) : FnG P w K mg base k f fd ps F' :=
  ⟨fun A o s H args us vs T ds hh Q E hr hg e0 hb r rh rs hl a => g.run A o s H args us vs T ds hh Q E hr hg e0 hb r rh rs hl (by
    have t := h ds hh hl
    revert a t
    cases F' ds hh with
    | ok e h' =>
      intro a t
      generalize F ds hh = r0 at t
      cases t with
      | same => exact a
      | ok hl c z => exact fun T' H' v l q rv => a _ H' v (l.cutH rh q hl) (q.cutH c) (z.rel q rv)
    | exc c h' =>
      intro a t
      generalize F ds hh = r0 at t
      cases t with
      | same => exact a
      | exc hl c => exact fun C T' H' hm l q => a C _ H' hm (l.cutH rh q hl) (q.cutH c)
    | stuck => exact fun a => a.elim)⟩
theorem FnG.no : FnG P w K mg base k f fd ps (fun _ _ => .stuck) :=
  ⟨fun A o s H args us vs T ds hh Q E hr hg e0 hb r rh rs hl a => a.elim⟩
end
end Pu

namespace Pu
open PySem PySem.Spec PyProof.Rows L2

def fz (hh : HH) (n : Nat) : Nat → D → D
  | 0, d => d
  | k + 1, .ref i => if i < n then .ref i else match hh[i]? with
    | some (.lst ds) => .lst (ds.map (fz hh n k))
    | some (.dic kvs) => .dic (kvs.map fun p => (p.1, fz hh n k p.2))
    | _ => .ref i
  | k + 1, .tup ds => .tup (ds.map (fz hh n k))
  | k + 1, .lst ds => .lst (ds.map (fz hh n k))
  | k + 1, .dic kvs => .dic (kvs.map fun p => (p.1, fz hh n k p.2))
  | _ + 1, d => d
theorem fzs_ok {hh : HH} {n : Nat} {f : D → D} (hf : ∀ d, cl n (f d) = true → Fz hh n d (f d)) : ∀ ds : List D, cls n (ds.map f) = true → Fzs hh n ds (ds.map f)
  | [], _ => .nil
  | d :: ds, c => by
    rw [List.map_cons] at c ⊢
    unfold cls at c
    rw [Bool.and_eq_true] at c
    exact .cons (hf d c.1) (fzs_ok hf ds c.2)
theorem fzk_ok {hh : HH} {n : Nat} {f : D → D} (hf : ∀ d, cl n (f d) = true → Fz hh n d (f d)) : ∀ ds : List (Sum Int String × D), clk n (ds.map fun p => (p.1, f p.2)) = true → Fzk hh n ds (ds.map fun p => (p.1, f p.2))
  | [], _ => .nil
  | (k, d) :: ds, c => by
    rw [List.map_cons] at c ⊢
    unfold clk at c
    rw [Bool.and_eq_true] at c
    exact .cons (hf d c.1) (fzk_ok hf ds c.2)
theorem fz_ok {hh : HH} {n : Nat} : ∀ (k : Nat) (d : D), cl n (fz hh n k d) = true → Fz hh n d (fz hh n k d)
  | 0, d, c => .same c
  | k + 1, .ref i, c => by
    unfold fz at c ⊢
    by_cases h : i < n
    · rw [if_pos h] at c ⊢; exact .same c
    · rw [if_neg h] at c ⊢
      cases e : hh[i]? with
      | none =>
        rw [e] at c
        unfold cl at c
        exact absurd (of_decide_eq_true c) h
      | some o =>
        rw [e] at c
        cases o with
        | lst ds => exact .mk (Nat.le_of_not_lt h) e (fzs_ok (fz_ok k) ds (by unfold cl at c; exact c))
        | dic ds => exact .mkd (Nat.le_of_not_lt h) e (fzk_ok (fz_ok k) ds (by unfold cl at c; exact c))
        | lkd ds => unfold cl at c; exact absurd (of_decide_eq_true c) h
  | k + 1, .tup ds, c => by unfold fz at c ⊢; unfold cl at c; exact .tup (fzs_ok (fz_ok k) ds c)
  | k + 1, .lst ds, c => by unfold fz at c ⊢; unfold cl at c; exact .lst (fzs_ok (fz_ok k) ds c)
  | k + 1, .dic ds, c => by unfold fz at c ⊢; unfold cl at c; exact .dic (fzk_ok (fz_ok k) ds c)
  | k + 1, .non, c => .same rfl
  | k + 1, .bl _, c => .same rfl
  | k + 1, .int _, c => .same rfl
  | k + 1, .str _, c => .same rfl
  | k + 1, .ty _, c => .same rfl
  | k + 1, .xc _, c => .same rfl
  | k + 1, .lam _ _ _ _ _, c => .same c
  | k + 1, .frz _, c => .same c
  | k + 1, .tux _, c => .same c
/-- a def whose fresh objects are dropped, frozen -/
def fzF (F : Fn) : Fn := fun ds hh => match F ds hh with
  | .ok d h' => if hh.length ≤ h'.length ∧ (h'.take hh.length).all (clO hh.length) = true ∧ cl hh.length (fz h' hh.length 9 d) = true then .ok (fz h' hh.length 9 d) (h'.take hh.length) else .stuck
  | .exc c h' => if hh.length ≤ h'.length ∧ (h'.take hh.length).all (clO hh.length) = true then .exc c (h'.take hh.length) else .stuck
  | .stuck => .stuck
theorem tells_fz (F : Fn) (ds : List D) (hh : HH) : Tells hh (F ds hh) (fzF F ds hh) := by
  unfold fzF
  cases F ds hh with
  | ok d h' =>
    dsimp only
    split
    · rename_i h
      obtain ⟨h1, h2, h3⟩ := h
      have l : (h'.take hh.length).length = hh.length := by rw [List.length_take]; omega
      have := Tells.ok (hh := hh) (h' := h'.take hh.length) (g := h'.drop hh.length) (d := d) (e := fz h' hh.length 9 d) (by omega) (by rw [l]; exact h2) (by
        rw [List.take_append_drop, l]; exact fz_ok 9 d h3)
      rw [List.take_append_drop] at this
      exact this
    · exact .stuck
  | exc c h' =>
    dsimp only
    split
    · rename_i h
      obtain ⟨h1, h2⟩ := h
      have l : (h'.take hh.length).length = hh.length := by rw [List.length_take]; omega
      have := Tells.exc (hh := hh) (h' := h'.take hh.length) (g := h'.drop hh.length) (x := c) (by omega) (by rw [l]; exact h2)
      rw [List.take_append_drop] at this
      exact this
    · exact .stuck
  | stuck => exact .stuck
theorem FnG.fz {P : Program} {w : World} {K : PySem.W.Frag} {mg : Str → Option Value} {base : Heap} {k : Nat} {f : Addr} {fd : FuncData} {ps : List Str} {F : Fn} (g : FnG P w K mg base k f fd ps F) : FnG P w K mg base k f fd ps (fzF F) :=
  g.imp fun ds hh _ => tells_fz F ds hh
mutual
theorem cl_pure {n : Nat} : ∀ d : D, cl 0 d = true → cl n d = true
  | .non, _ => rfl
  | .bl _, _ => rfl
  | .int _, _ => rfl
  | .str _, _ => rfl
  | .ty _, _ => rfl
  | .xc _, _ => rfl
  | .lam _ _ _ ds _, h => by unfold cl at h ⊢; exact cls_pure ds h
  | .ref i, h => by unfold cl at h; simp at h
  | .tup ds, h => by unfold cl at h ⊢; exact cls_pure ds h
  | .tux ds, h => by unfold cl at h ⊢; exact cls_pure ds h
  | .lst ds, h => by unfold cl at h ⊢; exact cls_pure ds h
  | .frz ds, h => by unfold cl at h ⊢; exact cls_pure ds h
  | .dic ds, h => by unfold cl at h ⊢; exact clk_pure ds h
theorem cls_pure {n : Nat} : ∀ d : List D, cls 0 d = true → cls n d = true
  | [], _ => by unfold cls; rfl
  | d :: ds, h => by
    unfold cls at h ⊢
    rw [Bool.and_eq_true] at h ⊢
    exact ⟨cl_pure d h.1, cls_pure ds h.2⟩
theorem clk_pure {n : Nat} : ∀ d : List (Sum Int String × D), clk 0 d = true → clk n d = true
  | [], _ => by unfold clk; rfl
  | (k, d) :: ds, h => by
    unfold clk at h ⊢
    rw [Bool.and_eq_true] at h ⊢
    exact ⟨cl_pure d h.1, clk_pure ds h.2⟩
end
theorem clO_pure {n : Nat} {o : O} (h : clO 0 o = true) : clO n o = true := by
  cases o with
  | lst ds => exact cls_pure ds h
  | dic ds => exact clk_pure ds h
  | lkd ds => exact clk_pure ds h
theorem all_pure {n : Nat} {hh : HH} (h : hh.all (clO 0) = true) : hh.all (clO n) = true :=
  List.all_eq_true.mpr fun o ho => clO_pure (List.all_eq_true.mp h o ho)
theorem map_id_of {f : D → D} (hf : ∀ d, cl 0 d = true → f d = d) : ∀ ds : List D, cls 0 ds = true → ds.map f = ds
  | [], _ => rfl
  | d :: ds, c => by
    unfold cls at c
    rw [Bool.and_eq_true] at c
    rw [List.map_cons, hf d c.1, map_id_of hf ds c.2]
theorem mapk_id_of {f : D → D} (hf : ∀ d, cl 0 d = true → f d = d) : ∀ ds : List (Sum Int String × D), clk 0 ds = true → (ds.map fun p => (p.1, f p.2)) = ds
  | [], _ => rfl
  | (k, d) :: ds, c => by
    unfold clk at c
    rw [Bool.and_eq_true] at c
    rw [List.map_cons, hf d c.1, mapk_id_of hf ds c.2]
theorem fz_pure {hh : HH} {n : Nat} : ∀ (k : Nat) (d : D), cl 0 d = true → fz hh n k d = d
  | 0, d, _ => rfl
  | k + 1, .ref i, h => by unfold cl at h; simp at h
  | k + 1, .tup ds, h => by unfold fz; unfold cl at h; rw [map_id_of (fz_pure k) ds h]
  | k + 1, .lst ds, h => by unfold fz; unfold cl at h; rw [map_id_of (fz_pure k) ds h]
  | k + 1, .dic ds, h => by unfold fz; unfold cl at h; rw [mapk_id_of (fz_pure k) ds h]
  | k + 1, .non, _ => rfl
  | k + 1, .bl _, _ => rfl
  | k + 1, .int _, _ => rfl
  | k + 1, .str _, _ => rfl
  | k + 1, .ty _, _ => rfl
  | k + 1, .xc _, _ => rfl
  | k + 1, .lam _ _ _ _ _, _ => rfl
  | k + 1, .frz _, _ => rfl
  | k + 1, .tux _, _ => rfl
/-- dropped: what is given back is pure -/
theorem fzF_pure {F : Fn} {ds : List D} {hh h' g : HH} {d : D} (e : F ds hh = .ok d (h' ++ g)) (hl : h'.length = hh.length) (hp : h'.all (clO 0) = true) (hd : cl 0 d = true) : fzF F ds hh = .ok d h' := by
  unfold fzF
  rw [e]
  dsimp only
  have t : (h' ++ g).take hh.length = h' := by rw [← hl, List.take_left']; rfl
  rw [fz_pure 9 d hd, t, if_pos ⟨by rw [List.length_append]; omega, all_pure hp, cl_pure d hd⟩]
/-- frozen: a fresh list of pure values is given back -/
theorem fzF_mk {F : Fn} {ds xs : List D} {hh h' g : HH} {i : Nat} (e : F ds hh = .ok (.ref i) (h' ++ g)) (hl : h'.length = hh.length) (hp : h'.all (clO 0) = true) (hi : hh.length ≤ i) (hx : (h' ++ g)[i]? = some (.lst xs)) (hd : cls 0 xs = true) : fzF F ds hh = .ok (.lst xs) h' := by
  unfold fzF
  rw [e]
  dsimp only
  have t : (h' ++ g).take hh.length = h' := by rw [← hl, List.take_left']; rfl
  have z : Pu.fz (h' ++ g) hh.length 9 (.ref i) = .lst xs := by
    unfold Pu.fz
    rw [if_neg (by omega), hx]
    dsimp only
    rw [map_id_of (fz_pure 8) xs hd]
  rw [z, t, if_pos ⟨by rw [List.length_append]; omega, all_pure hp, by unfold cl; exact cls_pure xs hd⟩]
end Pu

namespace Pu
open PySem PySem.Spec PyProof.Rows L2

/-! ### values that the top has written -/
def KD (K : PySem.W.Frag) (d : D) (u : Value) : Prop := ∃ v, RelV v u ∧ (∀ T H, rel K T H d v) ∧ ∀ ds, d = .tup ds → ∃ p o, v = .ref p ∧ K.lookup p = some o ∧ o.cls = Value.type "tuple" ∧ o.dict = none
def KDs (K : PySem.W.Frag) (ds : List D) (us : List Value) : Prop := ∃ vs, Vals vs us ∧ ∀ T H, rels K T H ds vs
section
variable {K : PySem.W.Frag}
theorem kd_int {i : Int} {t} : KD K (.int i) (.int i t) := ⟨.int i, ⟨t, rfl⟩, fun _ _ => rel_int_iff.mpr rfl, fun _ e => by cases e⟩
theorem kd_bl {b : Bool} : KD K (.bl b) (.bool b) := ⟨.bl b, rfl, fun _ _ => rel_bl_iff.mpr rfl, fun _ e => by cases e⟩
theorem kd_non : KD K .non .none := ⟨.non, rfl, fun _ _ => rel_non_iff.mpr rfl, fun _ e => by cases e⟩
theorem kd_str {s : String} {x : Str} {t} (e : x = Str.ofString s := by rfl) : KD K (.str s) (.str x t) := ⟨.str x, ⟨t, rfl⟩, fun _ _ => rel_str_iff.mpr (by rw [e]), fun _ e => by cases e⟩
theorem kds_nil : KDs K [] [] := ⟨[], .nil, fun _ _ => rels_nil⟩
theorem kds_cons {d : D} {u : Value} {ds : List D} {us : List Value} (h : KD K d u) (r : KDs K ds us) : KDs K (d :: ds) (u :: us) := by
  obtain ⟨v, a, b, _⟩ := h
  obtain ⟨vs, a', b'⟩ := r
  exact ⟨v :: vs, .cons a a', fun T H => rels_cons (b T H) (b' T H)⟩
theorem kd_tup {a : Addr} {us : List Value} {n : Nat} {sl : Array (Option Value)} {ds : List D} (l : K.lookup a = some ⟨.type "tuple", none, .seq us.toArray n, sl⟩) (z : KDs K ds us) (hz : us.length ≤ sizeLine := by decide) : KD K (.tup ds) (.ref a) := by
  obtain ⟨vs, a', b'⟩ := z
  refine ⟨.ref a, rfl, fun T H => ?_, fun _ _ => ⟨a, _, rfl, l, rfl, rfl⟩⟩
  unfold rel
  exact ⟨a, vs, rfl, .inr ⟨_, us.toArray, n, l, rfl, rfl, by simpa using hz, by simpa using a'⟩, b' T H⟩
theorem cn_mk {h : Heap} {mg : Str → Option Value} {x : Str} {u : Value} {d : D} (X : K.In h) (G : h.Ns mainGlobals mg) (e : PySem.W.nsIn K mainGlobals x = some (some u)) (k : KD K d u) : Cn mg K x d := by
  obtain ⟨v, r, q, z⟩ := k
  exact ⟨⟨v, u, PySem.W.mg_of X G e, r, q, z⟩⟩
end
/-- a def as its callers see it, from what the top has written -/
theorem fd_mk {K : PySem.W.Frag} {h : Heap} {mg : Str → Option Value} {x y : Str} {ps : List Str} {st : Stmt} {f : Addr} {oc : Value} {od an : Option Addr} {osl : Array (Option Value)} {kV doc pm cdv ct : Value} (X : K.In h) (G : h.Ns mainGlobals mg) (e : PySem.W.nsIn K mainGlobals x = some (some (.ref f)))
    (l : K.lookup f = some ⟨oc, od, .func (PySem.W.fnOf y y (defArgs st) (defBody st) (defScope st) .none kV doc pm an cdv ct), osl⟩) (c : PySem.W.codeIn K cdv y = true) (k : PySem.W.keepIn K (.ref f) = true)
    (hb : ∀ (kV doc pm : Value) (an : Option Addr) (cdv ct : Value) (us : List Value), us.length = ps.length → bindArgs (PySem.W.fnOf y y (defArgs st) (defBody st) (defScope st) .none kV doc pm an cdv ct) ⟨us, []⟩ = pure (ps.zip us)) :
    Fd K mg x ps st f (PySem.W.fnOf y y (defArgs st) (defBody st) (defScope st) .none kV doc pm an cdv ct) y :=
  have F := fun_mk (st := st) l c k
  ⟨F, PySem.W.mg_of X G e, F.binds hb⟩
end Pu

namespace Pu
open PySem PySem.Spec PyProof.Rows L2

/-! ### an item, «in», of whatever stands there -/
def isDicD (h : HH) (d : D) : Bool := (dicD h d).isSome
def opIxA (a b : D) (h : HH) : R D := if isDicD h a then opDGet a b h else opIx a b h
def opInA (a b : D) (h : HH) : R D := if isDicD h b then opDIn false a b h else opIn a b h
def opNotInA (a b : D) (h : HH) : R D := if isDicD h b then opDIn true a b h else opNotIn a b h
theorem eOp_or {o1 o2 o : D → D → HH → R D} {p : D → D → HH → Bool} (ho : ∀ a b h, o a b h = if p a b h then o1 a b h else o2 a b h) (f g : Ex) (env : En) (h : HH) : eOp o f g env h = eOp o1 f g env h ∨ eOp o f g env h = eOp o2 f g env h := by
  unfold eOp
  cases f env h with
  | ok a h1 =>
    show ((g env h1).bind fun b h2 => noX (o a b h2)) = ((g env h1).bind fun b h2 => noX (o1 a b h2)) ∨ ((g env h1).bind fun b h2 => noX (o a b h2)) = ((g env h1).bind fun b h2 => noX (o2 a b h2))
    cases g env h1 with
    | ok b h2 =>
      show noX (o a b h2) = noX (o1 a b h2) ∨ noX (o a b h2) = noX (o2 a b h2)
      rw [ho a b h2]
      split
      · exact .inl rfl
      · exact .inr rfl
    | exc c h2 => exact .inl rfl
    | stuck => exact .inl rfl
  | exc c h2 => exact .inl rfl
  | stuck => exact .inl rfl
section
variable {X : Cx} {W : WX} {k : Nat} {a b : Expr} {f g : Ex} {pos : Pos}
theorem PE.or2 {e : Expr} {t t1 t2 : TE} (h1 : PE X e t1) (h2 : PE X e t2) (i : ∀ σ H Q, t σ H Q → t1 σ H Q ∨ t2 σ H Q) : PE X e t :=
  ⟨fun pins s σ H Q I hq => (i σ H Q hq).elim (h1.run pins s σ H Q I) (h2.run pins s σ H Q I)⟩
theorem PT.or2 {e : Expr} {t t1 t2 : TT} (h1 : PT X e t1) (h2 : PT X e t2) (i : ∀ σ H Q, t σ H Q → t1 σ H Q ∨ t2 σ H Q) : PT X e t :=
  ⟨fun pins s σ H Q I hq => (i σ H Q hq).elim (h1.run pins s σ H Q I) (h2.run pins s σ H Q I)⟩
theorem rd_or {o1 o2 o : D → D → HH → R D} {p : D → D → HH → Bool} (ho : ∀ a b h, o a b h = if p a b h then o1 a b h else o2 a b h) {σ : L2.St} {H : Hp} {Q : VK} (hh : rd X W (eOp o f g) σ H Q) : rd X W (eOp o1 f g) σ H Q ∨ rd X W (eOp o2 f g) σ H Q := by
  obtain ⟨T, env, h, r1, r2, a⟩ := hh
  rcases eOp_or ho f g env h with e | e
  · exact .inl ⟨T, env, h, r1, r2, by rw [← e]; exact a⟩
  · exact .inr ⟨T, env, h, r1, r2, by rw [← e]; exact a⟩
theorem rdt_or {o1 o2 o : D → D → HH → R D} {p : D → D → HH → Bool} (ho : ∀ a b h, o a b h = if p a b h then o1 a b h else o2 a b h) {σ : L2.St} {H : Hp} {Q : Bool → Hp → Prop} (hh : rdt X W (tB (eOp o f g)) σ H Q) : rdt X W (tB (eOp o1 f g)) σ H Q ∨ rdt X W (tB (eOp o2 f g)) σ H Q := by
  obtain ⟨T, env, h, r1, r2, a⟩ := hh
  unfold tB at a
  rcases eOp_or ho f g env h with e | e
  · exact .inl ⟨T, env, h, r1, r2, by unfold tB; rw [← e]; exact a⟩
  · exact .inr ⟨T, env, h, r1, r2, by unfold tB; rw [← e]; exact a⟩
theorem se_ixA (C : Cok X W k) (ha : SE X W a f) (hb : SE X W b g) (hs : PlainIx b := by exact fun _ _ => rfl) (hs2 : NoSl b := by exact fun _ _ => rfl) : SE X W (.Subscript a b pos) (eOp opIxA f g) :=
  PE.or2 (se_dget C ha hb hs2) (se_ix ha hb hs) fun σ H Q hh => rd_or (p := fun a b h => isDicD h a) (fun _ _ _ => rfl) hh
theorem se_inA (C : Cok X W k) (ha : SE X W a f) (hb : SE X W b g) (hm : behindInMarks .In b = false := by first | exact nobehind _ (by decide) (by decide) | rfl) (hm2 : behindInMarks .In b = false := by first | exact nomark _ | rfl) : SE X W (.Compare a [.In] [b] pos) (eOp opInA f g) :=
  PE.or2 (se_din C ha hb hm) (se_cmp (o_in C.hu65) ha hb hm2) fun σ H Q hh => rd_or (p := fun a b h => isDicD h b) (fun _ _ _ => rfl) hh
theorem se_notinA (C : Cok X W k) (ha : SE X W a f) (hb : SE X W b g) (hm : behindInMarks .NotIn b = false := by first | exact nobehind _ (by decide) (by decide) | rfl) (hm2 : behindInMarks .NotIn b = false := by first | exact nomark _ | rfl) : SE X W (.Compare a [.NotIn] [b] pos) (eOp opNotInA f g) :=
  PE.or2 (se_dnotin C ha hb hm) (se_cmp (o_notIn C.hu65) ha hb hm2) fun σ H Q hh => rd_or (p := fun a b h => isDicD h b) (fun _ _ _ => rfl) hh
theorem st_inA (C : Cok X W k) (ha : SE X W a f) (hb : SE X W b g) (hm : behindInMarks .In b = false := by first | exact nobehind _ (by decide) (by decide) | rfl) (hm2 : behindInMarks .In b = false := by first | exact nomark _ | rfl) : ST X W (.Compare a [.In] [b] pos) (tB (eOp opInA f g)) :=
  PT.or2 (st_din C ha hb hm) (st_cmp (o_in C.hu65) ha hb hm2) fun σ H Q hh => rdt_or (p := fun a b h => isDicD h b) (fun _ _ _ => rfl) hh
theorem st_notinA (C : Cok X W k) (ha : SE X W a f) (hb : SE X W b g) (hm : behindInMarks .NotIn b = false := by first | exact nobehind _ (by decide) (by decide) | rfl) (hm2 : behindInMarks .NotIn b = false := by first | exact nomark _ | rfl) : ST X W (.Compare a [.NotIn] [b] pos) (tB (eOp opNotInA f g)) :=
  PT.or2 (st_dnotin C ha hb hm) (st_cmp (o_notIn C.hu65) ha hb hm2) fun σ H Q hh => rdt_or (p := fun a b h => isDicD h b) (fun _ _ _ => rfl) hh
end
end Pu

namespace Pu
open PySem PySem.Spec PyProof.Rows L2

/-! ### what a mirror comes to, by what is asked of its end; what is asked stays as it is till the end is known -/
abbrev Rq {α : Type} (_ : α → HH → Prop) (_ : String → HH → Prop) : Type := R α
def Wp {α : Type} (q : α → HH → Prop) (e : String → HH → Prop) (r : Rq q e) : Prop := match (r : R α) with
  | .ok a h => q a h
  | .exc c h => e c h
  | .stuck => False
structure Ks where
  nx : En → HH → Prop
  rt : D → HH → Prop
  bk : En → HH → Prop
  ct : En → HH → Prop
  ex : String → HH → Prop
abbrev Sq (_ : Ks) : Type := S
def Wb (K : Ks) (s : Sq K) : Prop := match (s : S) with
  | .next env h => K.nx env h
  | .ret d h => K.rt d h
  | .brk env h => K.bk env h
  | .cont env h => K.ct env h
  | .exc c _ h => K.ex c h
  | .stuck => False
abbrev Oq {α : Type} (_ : α → Prop) : Type := Option α
/-- there is one, and of it is asked -/
def Wo {α : Type} (p : α → Prop) (o : Oq p) : Prop := match (o : Option α) with
  | some x => p x
  | none => False
abbrev Bq (_ _ : Prop) : Type := Bool
def Wi (a b : Prop) (c : Bq a b) : Prop := match (c : Bool) with
  | true => a
  | false => b
abbrev noE : String → HH → Prop := fun _ _ => False
@[simp] theorem wo_some {α : Type} {p : α → Prop} {x : α} : Wo p (some x) ↔ p x := Iff.rfl
@[simp] theorem wo_none {α : Type} {p : α → Prop} : Wo p none ↔ False := Iff.rfl
@[simp] theorem wi_true {a b : Prop} : Wi a b true ↔ a := Iff.rfl
@[simp] theorem wi_false {a b : Prop} : Wi a b false ↔ b := Iff.rfl
theorem wo_of {α : Type} {p : α → Prop} {o : Option α} {x : α} (e : o = some x) (h : p x) : Wo p o := by rw [e]; exact h
theorem wi_of {a b : Prop} {c : Bool} (h1 : c = true → a) (h2 : c = false → b) : Wi a b c := by
  cases c
  · exact h2 rfl
  · exact h1 rfl
theorem wi_dec {a b c : Prop} [Decidable c] (h1 : c → a) (h2 : ¬ c → b) : Wi a b (decide c) := wi_of (fun h => h1 (of_decide_eq_true h)) (fun h => h2 (of_decide_eq_false h))
section
variable {α β γ : Type} {q : α → HH → Prop} {p : β → HH → Prop} {e : String → HH → Prop} {K : Ks} {h : HH} {env : En}
@[simp] theorem wp_ok {a : α} : Wp q e (.ok a h) ↔ q a h := Iff.rfl
@[simp] theorem wp_exc {c : String} : Wp q e (.exc c h : R α) ↔ e c h := Iff.rfl
@[simp] theorem wp_stuck : Wp q e (.stuck : R α) ↔ False := Iff.rfl
@[simp ↓] theorem wp_bind {r : R α} {k : α → HH → R β} : Wp p e (r.bind k) ↔ Wp (fun a h => Wp p e (k a h)) e r := by cases r <;> rfl
@[simp ↓] theorem wp_bindX {r : R α} {k : α → HH → R β} : Wp p e (bindX r k) ↔ Wp (fun a h => Wp p e (k a h)) noE r := by cases r <;> rfl
@[simp ↓] theorem wp_noX {r : R D} {q : D → HH → Prop} : Wp q e (noX r) ↔ Wp q noE r := by cases r <;> rfl
@[simp ↓] theorem wp_ofO {o : Option γ} {k : γ → R α} : Wp q e (ofO o k) ↔ Wo (fun x => Wp q e (k x)) o := by cases o <;> rfl
@[simp ↓] theorem wp_ofB {o : Option Bool} {k : Bool → R α} : Wp q e (ofB o h k) ↔ Wo (fun x => Wp q e (k x)) o := by cases o <;> rfl
@[simp ↓] theorem wp_br {c : Bool} {a b : R α} : Wp q e (if c = true then a else b) ↔ Wi (Wp q e a) (Wp q e b) c := by cases c <;> rfl
theorem wp_ite {c : Prop} [Decidable c] {a b : R α} : Wp q e (if c then a else b) ↔ (c → Wp q e a) ∧ (¬ c → Wp q e b) := by
  by_cases hc : c
  · rw [if_pos hc]; exact ⟨fun h => ⟨fun _ => h, fun n => absurd hc n⟩, fun h => h.1 hc⟩
  · rw [if_neg hc]; exact ⟨fun h => ⟨fun n => absurd n hc, fun _ => h⟩, fun h => h.2 hc⟩
theorem wp_if {c : Prop} [Decidable c] {r : R α} : Wp q e (if c then r else .stuck) ↔ c ∧ Wp q e r := by
  by_cases hc : c
  · rw [if_pos hc]; exact ⟨fun w => ⟨hc, w⟩, fun w => w.2⟩
  · rw [if_neg hc]; exact ⟨fun w => w.elim, fun w => hc w.1⟩
theorem wp_mono {r : R α} {q' : α → HH → Prop} {e' : String → HH → Prop} (w : Wp q e r) (i : ∀ a h, q a h → q' a h) (j : ∀ c h, e c h → e' c h) : Wp q' e' r := by
  cases r with
  | ok a h => exact i a h w
  | exc c h => exact j c h w
  | stuck => exact w
theorem wp_congr {r : R α} {q' : α → HH → Prop} (i : ∀ a h, q a h ↔ q' a h) : Wp q e r ↔ Wp q' e r := by
  cases r with
  | ok a h => exact i a h
  | exc c h => exact Iff.rfl
  | stuck => exact Iff.rfl
theorem wp_imp {r : R α} {q' : α → HH → Prop} (w : Wp q noE r) (i : ∀ a h, q a h → q' a h) : Wp q' e r := wp_mono w i fun _ _ h => h.elim
theorem wp_eq {r : R α} {a : α} : Wp (fun x h' => x = a ∧ h' = h) noE r ↔ r = .ok a h := by
  cases r with
  | ok x h' => exact ⟨fun ⟨e1, e2⟩ => by rw [e1, e2], fun e => by cases e; exact ⟨rfl, rfl⟩⟩
  | exc c h' => exact ⟨fun h => h.elim, fun e => by cases e⟩
  | stuck => exact ⟨fun h => h.elim, fun e => by cases e⟩
theorem wp_ex {r : R α} : Wp q noE r ↔ ∃ a h, r = .ok a h ∧ q a h := by
  cases r with
  | ok x h' => exact ⟨fun w => ⟨x, h', rfl, w⟩, fun ⟨a, h, e1, w⟩ => by cases e1; exact w⟩
  | exc c h' => exact ⟨fun h => h.elim, fun ⟨a, h, e1, w⟩ => by cases e1⟩
  | stuck => exact ⟨fun h => h.elim, fun ⟨a, h, e1, w⟩ => by cases e1⟩
theorem wp_of {r : R α} {a : α} (h1 : r = .ok a h) (hq : q a h) : Wp q e r := by rw [h1]; exact hq
/-! statements -/
@[simp] theorem wb_next : Wb K (.next env h) ↔ K.nx env h := Iff.rfl
@[simp] theorem wb_ret {d : D} : Wb K (.ret d h) ↔ K.rt d h := Iff.rfl
@[simp] theorem wb_brk : Wb K (.brk env h) ↔ K.bk env h := Iff.rfl
@[simp] theorem wb_cont : Wb K (.cont env h) ↔ K.ct env h := Iff.rfl
@[simp] theorem wb_exc {c : String} : Wb K (.exc c env h) ↔ K.ex c h := Iff.rfl
@[simp] theorem wb_stuck : Wb K .stuck ↔ False := Iff.rfl
@[simp ↓] theorem wb_bindS {r : R α} {k : α → HH → S} : Wb K (r.bindS env k) ↔ Wp (fun a h => Wb K (k a h)) K.ex r := by cases r <;> rfl
@[simp ↓] theorem wb_ofOS {o : Option γ} {k : γ → S} : Wb K (ofOS o k) ↔ Wo (fun x => Wb K (k x)) o := by cases o <;> rfl
theorem wb_ite {c : Prop} [Decidable c] {a b : S} : Wb K (if c then a else b) ↔ (c → Wb K a) ∧ (¬ c → Wb K b) := by
  by_cases hc : c
  · rw [if_pos hc]; exact ⟨fun h => ⟨fun _ => h, fun n => absurd hc n⟩, fun h => h.1 hc⟩
  · rw [if_neg hc]; exact ⟨fun h => ⟨fun n => absurd n hc, fun _ => h⟩, fun h => h.2 hc⟩
theorem wb_mono {s : S} {K' : Ks} (w : Wb K s) (i1 : ∀ a h, K.nx a h → K'.nx a h) (i2 : ∀ a h, K.rt a h → K'.rt a h) (i3 : ∀ a h, K.bk a h → K'.bk a h) (i4 : ∀ a h, K.ct a h → K'.ct a h) (i5 : ∀ a h, K.ex a h → K'.ex a h) : Wb K' s := by
  cases s with
  | next => exact i1 _ _ w
  | ret => exact i2 _ _ w
  | brk => exact i3 _ _ w
  | cont => exact i4 _ _ w
  | exc => exact i5 _ _ w
  | stuck => exact w
def Ks.wnx (K : Ks) (nx : En → HH → Prop) : Ks := ⟨nx, K.rt, K.bk, K.ct, K.ex⟩
@[simp] theorem wnx_nx {n : En → HH → Prop} : (K.wnx n).nx = n := rfl
@[simp] theorem wnx_rt {n : En → HH → Prop} : (K.wnx n).rt = K.rt := rfl
@[simp] theorem wnx_bk {n : En → HH → Prop} : (K.wnx n).bk = K.bk := rfl
@[simp] theorem wnx_ct {n : En → HH → Prop} : (K.wnx n).ct = K.ct := rfl
@[simp] theorem wnx_ex {n : En → HH → Prop} : (K.wnx n).ex = K.ex := rfl
@[simp] theorem wnx_wnx {n m : En → HH → Prop} : (K.wnx n).wnx m = K.wnx m := rfl
@[simp ↓] theorem wb_sNil : Wb K (sNil env h) ↔ K.nx env h := Iff.rfl
@[simp ↓] theorem wb_sSeq {f g : Sx} : Wb K (sSeq f g env h) ↔ Wb (K.wnx fun env' h' => Wb K (g env' h')) (f env h) := by
  unfold sSeq
  cases f env h <;> rfl
@[simp ↓] theorem wb_sRet {f : Ex} : Wb K (sRet f env h) ↔ Wp K.rt K.ex (f env h) := by
  unfold sRet; rw [wb_bindS]; rfl
@[simp ↓] theorem wb_sRetN : Wb K (sRetN env h) ↔ K.rt .non h := Iff.rfl
@[simp ↓] theorem wb_sEx {f : Ex} : Wb K (sEx f env h) ↔ Wp (fun _ h1 => K.nx env h1) K.ex (f env h) := by
  unfold sEx; rw [wb_bindS]; rfl
@[simp ↓] theorem wb_sBrk : Wb K (sBrk env h) ↔ K.bk env h := Iff.rfl
@[simp ↓] theorem wb_sIf {c : Et} {f g : Sx} : Wb K (sIf c f g env h) ↔ Wp (fun b h1 => Wi (Wb K (f env h1)) (Wb K (g env h1)) b) K.ex (c env h) := by
  unfold sIf
  rw [wb_bindS]
  exact wp_congr fun b h1 => by cases b <;> rfl
@[simp ↓] theorem wb_sSet {i : Nat} {f : Ex} : Wb K (sSet i f env h) ↔ Wp (fun d h1 => K.nx (env.set i (some d)) h1) K.ex (f env h) := by
  unfold sSet; rw [wb_bindS]; rfl
@[simp ↓] theorem wb_sAsg {g : Tg} {f : Ex} : Wb K (sAsg g f env h) ↔ Wp (fun d h1 => Wo (fun env' => K.nx env' h1) (g d env)) K.ex (f env h) := by
  unfold sAsg
  rw [wb_bindS]
  exact wp_congr fun d h1 => wb_ofOS
@[simp ↓] theorem wb_sPut {fo fi fe : Ex} : Wb K (sPut fo fi fe env h) ↔ Wp (fun d h1 => Wp (fun a h2 => Wp (fun b h3 => Wo (fun h4 => K.nx env h4) (putAt a b d h3)) K.ex (fi env h2)) K.ex (fo env h1)) K.ex (fe env h) := by
  unfold sPut
  rw [wb_bindS]
  refine wp_congr fun d h1 => ?_
  rw [wb_bindS]
  refine wp_congr fun a h2 => ?_
  rw [wb_bindS]
  exact wp_congr fun b h3 => wb_ofOS
/-! loops -/
@[simp ↓] theorem wb_for {it : Ei} {g : Tg} {body : Sx} : Wb K (sFor it g body env h) ↔ Wp (fun i h1 => Wb K (forGo i.chk g body i.ds env h1)) K.ex (it env h) := by
  unfold sFor; rw [wb_bindS]
theorem wb_forGo {c : List (Nat × List D)} {g : Tg} {body : Sx} (I : Nat → En → HH → Prop) : ∀ (ds : List D) (n : Nat) {env : En} {h : HH}, I n env h →
    (∀ i env h, I i env h → chkOk h c = true) →
    (∀ i d env h, ds[i]? = some d → I (n + i) env h → Wo (fun env1 => Wb ⟨I (n + i + 1), K.rt, K.nx, I (n + i + 1), K.ex⟩ (body env1 h)) (g d env)) →
    (∀ env h, I (n + ds.length) env h → K.nx env h) → Wb K (forGo c g body ds env h)
  | [], n, env, h, i0, hc, _, hd => by
    unfold forGo
    rw [if_pos (hc _ _ _ i0)]
    exact hd _ _ (by simpa using i0)
  | d :: ds, n, env, h, i0, hc, st, hd => by
    unfold forGo
    rw [if_pos (hc _ _ _ i0), wb_ofOS]
    have w := st 0 d env h rfl (by simpa using i0)
    revert w
    cases g d env with
    | none => exact fun w => w
    | some env1 =>
      have go : ∀ env h, I (n + 1) env h → Wb K (forGo c g body ds env h) := fun env h i1 => wb_forGo I ds (n + 1) i1 hc (fun i d env h e q => by
        have := st (i + 1) d env h (by simpa using e) (by rw [show n + (i + 1) = n + 1 + i by omega]; exact q)
        rw [show n + (i + 1) + 1 = n + 1 + i + 1 by omega] at this
        exact this) (fun env h q => hd env h (by rw [List.length_cons, show n + (ds.length + 1) = n + 1 + ds.length by omega]; exact q))
      rw [wo_some, wo_some]
      cases body env1 h with
      | next env' h' => exact fun w => go _ _ w
      | cont env' h' => exact fun w => go _ _ w
      | brk env' h' => exact fun w => w
      | ret d h' => exact fun w => w
      | exc c env' h' => exact fun w => w
      | stuck => exact fun w => w
theorem wb_forI {c : List (Nat × List D)} {g : Tg} {body : Sx} (I : Nat → En → HH → Prop) {ds : List D} (i0 : I 0 env h)
    (hc : ∀ i env h, I i env h → chkOk h c = true)
    (st : ∀ i d env h, ds[i]? = some d → I i env h → Wo (fun env1 => Wb ⟨I (i + 1), K.rt, K.nx, I (i + 1), K.ex⟩ (body env1 h)) (g d env))
    (hd : ∀ env h, I ds.length env h → K.nx env h) : Wb K (forGo c g body ds env h) :=
  wb_forGo I ds 0 i0 hc (fun i d env h e q => by
    rw [Nat.zero_add] at q ⊢
    exact st i d env h e q) (fun env h q => hd env h (by rwa [Nat.zero_add] at q))
/-- unrolled -/
theorem wb_for0 {c : List (Nat × List D)} {g : Tg} {body : Sx} : Wb K (forGo c g body [] env h) ↔ chkOk h c = true ∧ K.nx env h := by
  unfold forGo
  by_cases hc : chkOk h c = true
  · rw [if_pos hc]; exact ⟨fun w => ⟨hc, w⟩, fun w => w.2⟩
  · rw [if_neg hc]; exact ⟨fun w => w.elim, fun w => hc w.1⟩
theorem wb_for1 {c : List (Nat × List D)} {g : Tg} {body : Sx} {d : D} {ds : List D} : Wb K (forGo c g body (d :: ds) env h) ↔
    chkOk h c = true ∧ Wo (fun env1 => Wb ⟨fun env h => Wb K (forGo c g body ds env h), K.rt, K.nx, fun env h => Wb K (forGo c g body ds env h), K.ex⟩ (body env1 h)) (g d env) := by
  rw [forGo]
  by_cases hc : chkOk h c = true
  · rw [if_pos hc, wb_ofOS]
    refine Iff.trans ?_ ⟨fun w => ⟨hc, w⟩, fun w => w.2⟩
    cases g d env with
    | none => exact Iff.rfl
    | some env1 => rw [wo_some, wo_some]; cases body env1 h <;> rfl
  · rw [if_neg hc]; exact ⟨fun w => w.elim, fun w => hc w.1⟩
theorem wp_lc0 {c : List (Nat × List D)} {g : Tg} {t : Et} {f : Ex} {acc : List D} {q : List D → HH → Prop} : Wp q e (lcGo c g t f env [] acc h) ↔ chkOk h c = true ∧ q acc h := by
  unfold lcGo
  exact wp_if
theorem wp_lc1 {c : List (Nat × List D)} {g : Tg} {t : Et} {f : Ex} {d : D} {ds acc : List D} {q : List D → HH → Prop} : Wp q e (lcGo c g t f env (d :: ds) acc h) ↔
    chkOk h c = true ∧ Wo (fun env1 => Wp (fun b h1 => Wi (Wp (fun y h2 => acc.length < sz ∧ Wp q e (lcGo c g t f env ds (acc ++ [y]) h2)) noE (f env1 h1)) (Wp q e (lcGo c g t f env ds acc h1)) b) noE (t env1 h)) (g d env) := by
  rw [lcGo, wp_if]
  refine and_congr Iff.rfl ?_
  rw [wp_ofO]
  cases g d env with
  | none => exact Iff.rfl
  | some env1 =>
    rw [wo_some, wo_some, wp_bindX]
    refine wp_congr fun b h1 => ?_
    cases b
    · exact Iff.rfl
    · rw [if_pos rfl, wp_bindX]
      exact wp_congr fun y h2 => wp_if
/-- a comprehension, place by place -/
theorem lc_map {c : List (Nat × List D)} {g : Tg} {f : Ex} {φ : D → D} {env : En} {h : HH} (hc : chkOk h c = true) : ∀ (ds acc : List D), acc.length + ds.length ≤ sz →
    (∀ d, d ∈ ds → ∃ env1, g d env = some env1 ∧ f env1 h = .ok (φ d) h) → lcGo c g tYesD f env ds acc h = .ok (acc ++ ds.map φ) h
  | [], acc, _, _ => by unfold lcGo; rw [if_pos hc]; simp
  | d :: ds, acc, hl, hs => by
    unfold lcGo
    rw [if_pos hc]
    obtain ⟨env1, e1, e2⟩ := hs d (by simp)
    rw [e1]
    simp only [ofO, tYesD, bindX, if_true, e2]
    rw [List.length_cons] at hl
    rw [if_pos (by omega), lc_map hc ds (acc ++ [φ d]) (by rw [List.length_append, List.length_singleton]; omega) fun d hd => hs d (by simp [hd])]
    simp
/-- with a test -/
theorem lc_filter {c : List (Nat × List D)} {g : Tg} {t : Et} {f : Ex} {φ : D → D} {ψ : D → Bool} {env : En} {h : HH} (hc : chkOk h c = true) : ∀ (ds acc : List D), acc.length + ds.length ≤ sz →
    (∀ d, d ∈ ds → ∃ env1, g d env = some env1 ∧ t env1 h = .ok (ψ d) h ∧ (ψ d = true → f env1 h = .ok (φ d) h)) → lcGo c g t f env ds acc h = .ok (acc ++ (ds.filter ψ).map φ) h
  | [], acc, _, _ => by unfold lcGo; rw [if_pos hc]; simp
  | d :: ds, acc, hl, hs => by
    unfold lcGo
    rw [if_pos hc]
    obtain ⟨env1, e1, e2, e3⟩ := hs d (by simp)
    rw [e1]
    simp only [ofO, bindX, e2]
    rw [List.length_cons] at hl
    by_cases hb : ψ d = true
    · rw [if_pos hb, e3 hb]
      dsimp only
      rw [if_pos (by omega), lc_filter hc ds (acc ++ [φ d]) (by rw [List.length_append, List.length_singleton]; omega) fun d hd => hs d (by simp [hd])]
      simp [hb]
    · rw [if_neg hb, lc_filter hc ds acc (by omega) fun d hd => hs d (by simp [hd])]
      simp [hb]
end
@[simp ↓] theorem wp_runF {n : Nat} {b : Sx} {ds : List D} {h : HH} {q : D → HH → Prop} {e : String → HH → Prop} : Wp q e (runF n b ds h) ↔ Wb ⟨fun _ h => q .non h, q, fun _ _ => False, fun _ _ => False, e⟩ (b (ds.map some ++ List.replicate (n - ds.length) none) h) := by
  unfold runF
  cases b (ds.map some ++ List.replicate (n - ds.length) none) h <;> rfl
end Pu

namespace Pu
open PySem PySem.Spec PyProof.Rows L2

/-! ### expressions, by what is asked of their ends -/
section
variable {q : D → HH → Prop} {qs : List D → HH → Prop} {qb : Bool → HH → Prop} {qi : IT → HH → Prop} {qo : Option Int → HH → Prop} {e : String → HH → Prop} {h : HH} {env : En} {f g k : Ex} {s t : Et} {as : Exs} {o o' : D → D → HH → R D}
/-- of a truth is asked -/
def Wd (p : Bool → Prop) : D → Prop
  | .bl b => p b
  | _ => False
/-- of a whole number is asked -/
def Wn (p : Int → Prop) : D → Prop
  | .int i => p i
  | _ => False
@[simp] theorem wd_bl {p : Bool → Prop} {b : Bool} : Wd p (.bl b) ↔ p b := Iff.rfl
@[simp] theorem wn_int {p : Int → Prop} {i : Int} : Wn p (.int i) ↔ p i := Iff.rfl
theorem wp_wo {γ α : Type} {o : Option γ} {k : γ → R α} {q : α → HH → Prop} {p : γ → Prop} (hp : ∀ x, Wp q e (k x) ↔ p x) : Wp q e (ofO o k) ↔ Wo p o := by
  cases o with
  | none => exact Iff.rfl
  | some x => exact hp x
@[simp] theorem wp_eC {d : D} : Wp q e (eC d env h) ↔ q d h := Iff.rfl
theorem eV_of {i : Nat} {d : D} (he : env[i]? = some (some d)) : eV i env h = .ok d h := by unfold eV; rw [he]
@[simp] theorem wp_eV {i : Nat} : Wp q e (eV i env h) ↔ Wo (fun x => Wo (fun d => q d h) x) env[i]? := by
  unfold eV
  cases env[i]? with
  | none => exact Iff.rfl
  | some x => cases x <;> exact Iff.rfl
@[simp] theorem wp_aNil : Wp qs e (aNil env h) ↔ qs [] h := Iff.rfl
@[simp ↓] theorem wp_aCons : Wp qs e (aCons f as env h) ↔ Wp (fun a h1 => Wp (fun r h2 => qs (a :: r) h2) e (as env h1)) e (f env h) := by
  unfold aCons; rw [wp_bind]; exact wp_congr fun a h1 => by rw [wp_bind]; rfl
@[simp ↓] theorem wp_eTup : Wp q e (eTup as env h) ↔ Wp (fun ds h1 => q (.tup ds) h1) e (as env h) := by unfold eTup; rw [wp_bind]; rfl
@[simp ↓] theorem wp_eVal : Wp q e (eVal as env h) ↔ Wp (fun ds h1 => q (.lst ds) h1) e (as env h) := by unfold eVal; rw [wp_bind]; rfl
@[simp ↓] theorem wp_eNew : Wp q e (eNew as env h) ↔ Wp (fun ds h1 => q (.ref h1.length) (h1 ++ [.lst ds])) e (as env h) := by unfold eNew; rw [wp_bind]; rfl
@[simp ↓] theorem wp_eOp : Wp q e (eOp o f g env h) ↔ Wp (fun a h1 => Wp (fun b h2 => Wp q noE (o a b h2)) e (g env h1)) e (f env h) := by
  unfold eOp; rw [wp_bind]; exact wp_congr fun a h1 => by rw [wp_bind]; exact wp_congr fun b h2 => wp_noX
@[simp ↓] theorem wp_eCall {o : List D → HH → R D} : Wp q e (eCall o as env h) ↔ Wp (fun ds h1 => Wp q noE (o ds h1)) e (as env h) := by unfold eCall; rw [wp_bind]; exact wp_congr fun b h2 => wp_noX
@[simp ↓] theorem wp_eFn {F : Fn} : Wp q e (eFn F as env h) ↔ Wp (fun ds h1 => Wp q e (F ds h1)) e (as env h) := by unfold eFn; rw [wp_bind]
@[simp ↓] theorem wp_eUn {o : D → HH → R D} : Wp q e (eUn o f env h) ↔ Wp (fun d h1 => Wp q noE (o d h1)) e (f env h) := by unfold eUn; rw [wp_bind]; exact wp_congr fun b h2 => wp_noX
@[simp ↓] theorem wp_tV : Wp qb e (tV f env h) ↔ Wp (fun d h1 => Wo (fun b => qb b h1) (truD h1 d)) e (f env h) := by unfold tV; rw [wp_bind]; exact wp_congr fun b h2 => wp_ofB
@[simp ↓] theorem wp_tB : Wp qb e (tB f env h) ↔ Wp (fun d h1 => Wd (fun b => qb b h1) d) e (f env h) := by
  unfold tB
  rw [wp_bind]
  exact wp_congr fun d h1 => by cases d <;> rfl
@[simp ↓] theorem wp_tAndP : Wp qb e (tAndP s t env h) ↔ Wp (fun b h1 => Wi (Wp qb e (t env h1)) (qb false h1) b) e (s env h) := by
  unfold tAndP
  rw [wp_bind]
  exact wp_congr fun b h1 => by cases b <;> rfl
@[simp ↓] theorem wp_tOrP : Wp qb e (tOrP s t env h) ↔ Wp (fun b h1 => Wi (qb true h1) (Wp qb e (t env h1)) b) e (s env h) := by
  unfold tOrP
  rw [wp_bind]
  exact wp_congr fun b h1 => by cases b <;> rfl
@[simp ↓] theorem wp_tNotP : Wp qb e (tNotP s env h) ↔ Wp (fun b h1 => qb (!b) h1) e (s env h) := by unfold tNotP; rw [wp_bind]; rfl
@[simp ↓] theorem wp_eAnd : Wp q e (eAnd f g env h) ↔ Wp (fun d h1 => Wo (fun b => Wi (Wp q e (g env h1)) (q d h1) b) (truD h1 d)) e (f env h) := by
  unfold eAnd
  rw [wp_bind]
  refine wp_congr fun d h1 => ?_
  rw [wp_ofB]
  cases truD h1 d with
  | none => exact Iff.rfl
  | some b => cases b <;> rfl
@[simp ↓] theorem wp_eOr : Wp q e (eOr f g env h) ↔ Wp (fun d h1 => Wo (fun b => Wi (q d h1) (Wp q e (g env h1)) b) (truD h1 d)) e (f env h) := by
  unfold eOr
  rw [wp_bind]
  refine wp_congr fun d h1 => ?_
  rw [wp_ofB]
  cases truD h1 d with
  | none => exact Iff.rfl
  | some b => cases b <;> rfl
@[simp ↓] theorem wp_eNot : Wp q e (eNot f env h) ↔ Wp (fun d h1 => Wo (fun b => q (.bl (!b)) h1) (truD h1 d)) e (f env h) := by unfold eNot; rw [wp_bind]; exact wp_congr fun d h1 => wp_ofB
@[simp ↓] theorem wp_eIf : Wp q e (eIf t f g env h) ↔ Wp (fun b h1 => Wi (Wp q e (f env h1)) (Wp q e (g env h1)) b) e (t env h) := by
  unfold eIf
  rw [wp_bind]
  exact wp_congr fun b h1 => by cases b <;> rfl
@[simp ↓] theorem wp_eChain : Wp q e (eChain o o' f g k env h) ↔ Wp (fun a h1 => Wp (fun b h2 => Wp (fun d h3 => Wd (fun z => Wi (Wp (fun c h4 => Wp q noE (o' b c h4)) e (k env h3)) (q (.bl false) h3) z) d) noE (o a b h2)) e (g env h1)) e (f env h) := by
  unfold eChain
  rw [wp_bind]
  refine wp_congr fun a h1 => ?_
  rw [wp_bind]
  refine wp_congr fun b h2 => ?_
  rw [wp_bind, wp_noX]
  refine wp_congr fun d h3 => ?_
  cases d with
  | bl z =>
    cases z
    · exact Iff.rfl
    · show Wp q e ((k env h3).bind fun c h4 => noX (o' b c h4)) ↔ _
      rw [wp_bind]; exact wp_congr fun b h2 => wp_noX
  | _ => exact Iff.rfl
@[simp] theorem wp_oNo : Wp qo e (oNo env h) ↔ qo none h := Iff.rfl
@[simp ↓] theorem wp_oSo : Wp qo e (oSo f env h) ↔ Wp (fun d h1 => Wn (fun i => qo (some i) h1) d) e (f env h) := by
  unfold oSo
  rw [wp_bind]
  exact wp_congr fun d h1 => by cases d <;> rfl
@[simp ↓] theorem wp_eSl {lo hi : Eo} : Wp q e (eSl f lo hi env h) ↔ Wp (fun a h1 => Wp (fun l h2 => Wp (fun u h3 => Wp q noE (opSl a l u h3)) e (hi env h2)) e (lo env h1)) e (f env h) := by
  unfold eSl; rw [wp_bind]; exact wp_congr fun a h1 => by rw [wp_bind]; exact wp_congr fun a h1 => by rw [wp_bind]; exact wp_congr fun a h1 => wp_noX
@[simp ↓] theorem wp_eM {c : HH → D → Bool} {m : D → List D → HH → R D} : Wp q e (eM c m f as env h) ↔ Wp (fun d h1 => c h1 d = true ∧ Wp (fun ds h2 => Wp q noE (m d ds h2)) e (as env h1)) e (f env h) := by
  unfold eM
  rw [wp_bind]
  refine wp_congr fun d h1 => ?_
  rw [wp_if]
  refine and_congr Iff.rfl ?_
  rw [wp_bind]; exact wp_congr fun a h1 => wp_noX
@[simp ↓] theorem wp_fCall {o : List D → HH → Option (List D)} : Wp qs e (fCall o as env h) ↔ Wp (fun ds h1 => Wo (fun x => qs x h1) (o ds h1)) e (as env h) := by unfold fCall; rw [wp_bind]; exact wp_congr fun ds h1 => wp_ofO
@[simp ↓] theorem wp_eGet1 : Wp q e (eGet1 f g env h) ↔ Wp (fun d h1 => Wo (fun _ => Wp (fun b h2 => Wo (fun kvs => Wo (fun ky => q ((dGet kvs ky).getD .non) h2) (kyD b)) (dicD h2 d)) e (g env h1)) (dicD h1 d)) e (f env h) := by
  unfold eGet1; rw [wp_bind]
  refine wp_congr fun d h1 => wp_wo fun _ => ?_
  rw [wp_bind]
  exact wp_congr fun b h2 => wp_wo fun kvs => wp_wo fun ky => Iff.rfl
@[simp ↓] theorem wp_eGet2 {z : Ex} : Wp q e (eGet2 f g z env h) ↔ Wp (fun d h1 => Wo (fun _ => Wp (fun b h2 => Wp (fun x h3 => Wo (fun kvs => Wo (fun ky => q ((dGet kvs ky).getD x) h3) (kyD b)) (dicD h3 d)) e (z env h2)) e (g env h1)) (dicD h1 d)) e (f env h) := by
  unfold eGet2; rw [wp_bind]
  refine wp_congr fun d h1 => wp_wo fun _ => ?_
  rw [wp_bind]
  refine wp_congr fun b h2 => ?_
  rw [wp_bind]
  exact wp_congr fun b h2 => wp_wo fun kvs => wp_wo fun ky => Iff.rfl
@[simp ↓] theorem wp_eDict : Wp q e (eDict as env h) ↔ Wp (fun ds h1 => Wo (fun kvs => q (.dic (merD kvs)) h1) (dictP h1 ds)) e (as env h) := by unfold eDict; rw [wp_bind]; exact wp_congr fun ds h1 => wp_ofO
@[simp ↓] theorem wp_eDictN : Wp q e (eDictN as env h) ↔ Wp (fun ds h1 => Wo (fun kvs => q (.ref h1.length) (h1 ++ [.dic (merD kvs)])) (dictP h1 ds)) e (as env h) := by unfold eDictN; rw [wp_bind]; exact wp_congr fun ds h1 => wp_ofO
@[simp ↓] theorem wp_iSeq : Wp qi e (iSeq f env h) ↔ Wp (fun d h1 => Wo (fun xs => qi ⟨xs, chkD d xs⟩ h1) (items h1 d)) e (f env h) := by unfold iSeq; rw [wp_bind]; exact wp_congr fun ds h1 => wp_ofO
@[simp ↓] theorem wp_iRev : Wp qi e (iRev f env h) ↔ Wp (fun d h1 => Wo (fun xs => qi ⟨xs.reverse, chkD d xs⟩ h1) (items h1 d)) e (f env h) := by unfold iRev; rw [wp_bind]; exact wp_congr fun ds h1 => wp_ofO
def rgD (ds : List D) : Option (List D) := match ds with
  | [.int j] => if inB j = true then some (intsL 0 j.toNat) else none
  | [.int i, .int j] => if (inB i && inB j) = true then some (intsL i (j - i).toNat) else none
  | _ => none
@[simp ↓] theorem wp_iRg : Wp qi e (iRg as env h) ↔ Wp (fun ds h1 => Wo (fun xs => qi ⟨xs, []⟩ h1) (rgD ds)) e (as env h) := by
  unfold iRg
  rw [wp_bind]
  refine wp_congr fun ds h1 => ?_
  unfold rgD
  split
  · split
    · rename_i hb; first | rfl | (simp only [hb, if_true]; rfl)
    · rename_i hb; first | rfl | simp [hb]
  · split
    · rename_i hb; first | rfl | (simp only [hb, if_true]; rfl)
    · rename_i hb; first | rfl | simp [hb]
  · first | rfl | (split <;> simp_all)
@[simp] theorem rgD_1 {j : Int} (hj : inB j = true) : rgD [.int j] = some (intsL 0 j.toNat) := by unfold rgD; simp [hj]
@[simp] theorem rgD_2 {i j : Int} (hi : inB i = true) (hj : inB j = true) : rgD [.int i, .int j] = some (intsL i (j - i).toNat) := by unfold rgD; simp [hi, hj]
def zpD (h : HH) (ds : List D) : Option IT := match ds with
  | [.tup xs, .tup ys] => some ⟨zipD xs ys, []⟩
  | [a, b] => (itemsL h a).bind fun xs => (itemsL h b).map fun ys => ⟨zipD xs ys, chkD a xs ++ chkD b ys⟩
  | _ => none
@[simp ↓] theorem wp_iZip8 : Wp qi e (iZip8 as env h) ↔ Wp (fun ds h1 => Wo (fun x => qi x h1) (zpD h1 ds)) e (as env h) := by
  unfold iZip8
  rw [wp_bind]
  refine wp_congr fun ds h1 => ?_
  split
  · rfl
  · rename_i a b hn
    rw [zpD.eq_2 h1 a b hn]
    cases itemsL h1 a with
    | none => rfl
    | some x => cases itemsL h1 b <;> rfl
  · rename_i h2 h3
    rw [zpD.eq_3 h1 ds h2 h3]
    rfl
@[simp] theorem zpD_tt {xs ys : List D} : zpD h [.tup xs, .tup ys] = some ⟨zipD xs ys, []⟩ := rfl
@[simp] theorem zpD_ll {xs ys : List D} : zpD h [.lst xs, .lst ys] = some ⟨zipD xs ys, []⟩ := rfl
@[simp ↓] theorem wp_iEnumL : Wp qi e (iEnumL as env h) ↔ Wp (fun ds h1 => Wo (fun a => Wo (fun xs => qi ⟨numb 0 xs, chkD a xs⟩ h1) (itemsL h1 a)) (match ds with | [a] => some a | _ => none)) e (as env h) := by
  unfold iEnumL
  rw [wp_bind]
  refine wp_congr fun ds h1 => ?_
  split
  · exact wp_ofO
  · rename_i hn
    first
      | rfl
      | (split
         · exact (hn _ rfl).elim
         · rfl)
@[simp ↓] theorem wp_fLc {it : Ei} {tg : Tg} {vs : List Nat} : Wp qs e (fLc it tg t f vs env h) ↔ Wp (fun i h1 => Wp qs e (lcGo i.chk tg t f (wipeE env vs) i.ds [] h1)) e (it env h) := by unfold fLc; rw [wp_bind]
@[simp ↓] theorem wp_eDic {ps : List (Ex × Ex)} : Wp q e (eDic ps env h) ↔ Wp (fun kvs h1 => q (.dic (merD kvs)) h1) e (dicGo ps env h) := by unfold eDic; rw [wp_bind]; rfl
@[simp ↓] theorem wp_eDicN {ps : List (Ex × Ex)} : Wp q e (eDicN ps env h) ↔ Wp (fun kvs h1 => q (.ref h1.length) (h1 ++ [.dic (merD kvs)])) e (dicGo ps env h) := by unfold eDicN; rw [wp_bind]; rfl
@[simp] theorem wp_dicGo0 {q : List (Ky × D) → HH → Prop} : Wp q e (dicGo [] env h) ↔ q [] h := Iff.rfl
@[simp ↓] theorem wp_dicGo1 {q : List (Ky × D) → HH → Prop} {ps : List (Ex × Ex)} : Wp q e (dicGo ((f, g) :: ps) env h) ↔ Wp (fun k h1 => Wp (fun d h2 => Wp (fun kvs h3 => Wo (fun ky => q ((ky, d) :: kvs) h3) (kyD k)) e (dicGo ps env h2)) e (g env h1)) e (f env h) := by
  rw [dicGo, wp_bind]; refine wp_congr fun a h1 => ?_; rw [wp_bind]; refine wp_congr fun a h1 => ?_; rw [wp_bind]; exact wp_congr fun a h1 => wp_ofO
@[simp] theorem wp_tYes : Wp qb e (tYesD env h) ↔ qb true h := Iff.rfl
/-! operators at known kinds -/
@[simp] theorem wp_addI {i j : Int} : Wp q e (opAdd (.int i) (.int j) h) ↔ q (.int (i + j)) h := Iff.rfl
@[simp] theorem wp_subI {i j : Int} : Wp q e (opSub (.int i) (.int j) h) ↔ q (.int (i - j)) h := Iff.rfl
@[simp] theorem wp_mulT {xs : List D} {j : Int} : Wp q e (opMul (.tup xs) (.int j) h) ↔ (xs.length ≠ 0 ∧ xs.length ≤ 1000 ∧ 2 ≤ j ∧ j ≤ 1000) ∧ q (.tup (List.replicate j.toNat xs).flatten) h := wp_if
@[simp] theorem wp_mulI {i j : Int} : Wp q e (opMul (.int i) (.int j) h) ↔ ((-p64 < i ∧ i < p64) ∨ (-p64 < j ∧ j < p64)) ∧ q (.int (i * j)) h := wp_if
@[simp] theorem wp_divI {i j : Int} : Wp q e (opDiv (.int i) (.int j) h) ↔ (0 < j ∧ j < pDv) ∧ q (.int (i / j)) h := wp_if
@[simp] theorem wp_modI {i j : Int} : Wp q e (opMod (.int i) (.int j) h) ↔ 0 < j ∧ q (.int (i % j)) h := wp_if
@[simp] theorem wp_powI {i j : Int} : Wp q e (opPow (.int i) (.int j) h) ↔ ((0 ≤ j ∧ j ≤ 1000000) ∧ (-p64 < i ∧ i < p64)) ∧ q (.int (i ^ j.toNat)) h := wp_if
@[simp] theorem wp_shlI {i j : Int} : Wp q e (opShl (.int i) (.int j) h) ↔ ((0 ≤ j ∧ j ≤ 1000000) ∧ (-p64 < i ∧ i < p64)) ∧ q (.int (i * 2 ^ j.toNat)) h := wp_if
@[simp] theorem wp_shrI {i j : Int} : Wp q e (opShr (.int i) (.int j) h) ↔ 0 ≤ j ∧ q (.int (i / 2 ^ j.toNat)) h := wp_if
@[simp] theorem wp_addT {xs ys : List D} : Wp q e (opAdd (.tup xs) (.tup ys) h) ↔ xs.length + ys.length ≤ sz ∧ q (.tup (xs ++ ys)) h := wp_if
@[simp] theorem wp_addL {xs ys : List D} : Wp q e (opAdd (.lst xs) (.lst ys) h) ↔ xs.length + ys.length ≤ sz ∧ q (.lst (xs ++ ys)) h := wp_if
@[simp] theorem wp_addS {x y : String} : Wp q e (opAdd (.str x) (.str y) h) ↔ x.length + y.length ≤ sz ∧ q (.str (x ++ y)) h := wp_if
@[simp] theorem wp_ltI {i j : Int} : Wp q e (opLt (.int i) (.int j) h) ↔ q (.bl (decide (i < j))) h := Iff.rfl
@[simp] theorem wp_leI {i j : Int} : Wp q e (opLe (.int i) (.int j) h) ↔ q (.bl (decide (i ≤ j))) h := Iff.rfl
@[simp] theorem wp_gtI {i j : Int} : Wp q e (opGt (.int i) (.int j) h) ↔ q (.bl (decide (j < i))) h := Iff.rfl
@[simp] theorem wp_geI {i j : Int} : Wp q e (opGe (.int i) (.int j) h) ↔ q (.bl (decide (j ≤ i))) h := Iff.rfl
@[simp] theorem wp_negI {i : Int} : Wp q e (opNeg (.int i) h) ↔ q (.int (-i)) h := Iff.rfl
@[simp] theorem wp_eq_ {a b : D} : Wp q e (opEq a b h) ↔ Wo (fun k => q (.bl k) h) (same? h a b) := by unfold opEq; cases same? h a b <;> rfl
@[simp] theorem wp_ne_ {a b : D} : Wp q e (opNe a b h) ↔ Wo (fun k => q (.bl (!k)) h) (same? h a b) := by unfold opNe; cases same? h a b <;> rfl
@[simp] theorem wp_isB {a b : Bool} : Wp q e (opIs (.bl a) (.bl b) h) ↔ q (.bl (a == b)) h := Iff.rfl
@[simp] theorem wp_isNotB {a b : Bool} : Wp q e (opIsNot (.bl a) (.bl b) h) ↔ q (.bl (!(a == b))) h := Iff.rfl
@[simp] theorem wp_isN {a : D} : Wp q e (opIs a .non h) ↔ q (.bl (match a with | .non => true | _ => false)) h := by cases a <;> rfl
@[simp] theorem wp_isNotN {a : D} : Wp q e (opIsNot a .non h) ↔ q (.bl (match a with | .non => false | _ => true)) h := by cases a <;> rfl
@[simp] theorem wp_ixT {xs : List D} {i : Int} : Wp q e (opIxA (.tup xs) (.int i) h) ↔ Wo (fun d => q d h) (atI xs i) := wp_ofO
@[simp] theorem wp_ixL {xs : List D} {i : Int} : Wp q e (opIxA (.lst xs) (.int i) h) ↔ Wo (fun d => q d h) (atI xs i) := wp_ofO
@[simp] theorem wp_ixF {xs : List D} {i : Int} : Wp q e (opIxA (.frz xs) (.int i) h) ↔ Wo (fun d => q d h) (atI xs i) := wp_ofO
@[simp] theorem wp_ixS {s : String} {i : Int} : Wp q e (opIxA (.str s) (.int i) h) ↔ s.length ≤ sz ∧ Wo (fun c => q (chD c) h) (atI s.toList i) := by
  have : opIxA (.str s) (.int i) h = if s.length ≤ sz then ofO (atI s.toList i) fun c => .ok (chD c) h else .stuck := rfl
  rw [this, wp_if]
  exact and_congr Iff.rfl wp_ofO
/-- what stands at a place of an object -/
def ixO (o : O) (b : D) (p : D → Prop) : Prop := match o, b with
  | .lst xs, .int i => Wo p (atI xs i)
  | .dic kvs, b => Wo (fun k => Wo p (dGet kvs k)) (kyD b)
  | .lkd kvs, b => Wo (fun k => Wo p (dGet kvs k)) (kyD b)
  | _, _ => False
theorem ixR_eq {j : Nat} {b : D} : opIxA (.ref j) b h = ofO h[j]? fun o => match o, b with
    | .lst xs, .int i => ofO (atI xs i) fun d => .ok d h
    | .dic kvs, b => ofO (kyD b) fun k => ofO (dGet kvs k) fun d => .ok d h
    | .lkd kvs, b => ofO (kyD b) fun k => ofO (dGet kvs k) fun d => .ok d h
    | _, _ => .stuck := by
  cases hj : h[j]? with
  | none =>
    have hd : dicD h (.ref j) = none := by unfold dicD; dsimp only; rw [hj]
    have hi : itemsL h (.ref j) = none := by unfold itemsL; dsimp only; rw [hj]
    have hb : isDicD h (.ref j) = false := by unfold isDicD; rw [hd]; rfl
    unfold opIxA
    rw [hb]
    show opIx (.ref j) b h = .stuck
    cases b with
    | int i => show ofO (itemsL h (.ref j)) _ = _; rw [hi]; rfl
    | _ => rfl
  | some o =>
    cases o with
    | lst xs =>
      have hd : dicD h (.ref j) = none := by unfold dicD; dsimp only; rw [hj]
      have hi : itemsL h (.ref j) = some xs := by unfold itemsL; dsimp only; rw [hj]
      have hb : isDicD h (.ref j) = false := by unfold isDicD; rw [hd]; rfl
      unfold opIxA
      rw [hb]
      show opIx (.ref j) b h = _
      cases b with
      | int i => show ofO (itemsL h (.ref j)) _ = _; rw [hi]; rfl
      | _ => rfl
    | dic kvs =>
      have hd : dicD h (.ref j) = some kvs := by unfold dicD; dsimp only; rw [hj]
      have hb : isDicD h (.ref j) = true := by unfold isDicD; rw [hd]; rfl
      unfold opIxA
      rw [hb]
      show opDGet (.ref j) b h = _
      unfold opDGet
      rw [hd]
      cases b <;> rfl
    | lkd kvs =>
      have hd : dicD h (.ref j) = some kvs := by unfold dicD; dsimp only; rw [hj]
      have hb : isDicD h (.ref j) = true := by unfold isDicD; rw [hd]; rfl
      unfold opIxA
      rw [hb]
      show opDGet (.ref j) b h = _
      unfold opDGet
      rw [hd]
      cases b <;> rfl
theorem wp_ixR {j : Nat} {b : D} : Wp q e (opIxA (.ref j) b h) ↔ Wo (fun o => ixO o b fun d => q d h) h[j]? := by
  rw [ixR_eq]
  refine wp_wo fun o => ?_
  unfold ixO
  cases o with
  | lst xs => cases b <;> first | exact wp_ofO | exact Iff.rfl
  | dic kvs => cases b <;> exact wp_wo fun k => wp_wo fun d => Iff.rfl
  | lkd kvs => cases b <;> exact wp_wo fun k => wp_wo fun d => Iff.rfl
@[simp] theorem wp_ixR_ {j : Nat} {b : D} : Wp q e (opIxA (.ref j) b h) ↔ Wo (fun o => ixO o b fun d => q d h) h[j]? := wp_ixR
@[simp] theorem ixO_l {xs : List D} {i : Int} {p : D → Prop} : ixO (.lst xs) (.int i) p ↔ Wo p (atI xs i) := Iff.rfl
@[simp] theorem ixO_d {kvs : List (Ky × D)} {b : D} {p : D → Prop} : ixO (.dic kvs) b p ↔ Wo (fun k => Wo p (dGet kvs k)) (kyD b) := by cases b <;> rfl
@[simp] theorem ixO_k {kvs : List (Ky × D)} {b : D} {p : D → Prop} : ixO (.lkd kvs) b p ↔ Wo (fun k => Wo p (dGet kvs k)) (kyD b) := by cases b <;> rfl
@[simp] theorem wp_ixD {kvs : List (Ky × D)} {b : D} : Wp q e (opIxA (.dic kvs) b h) ↔ Wo (fun k => Wo (fun d => q d h) (dGet kvs k)) (kyD b) := wp_wo fun k => wp_wo fun d => Iff.rfl
@[simp] theorem wp_inT {a : D} {xs : List D} : Wp q e (opInA a (.tup xs) h) ↔ Wo (fun k => q (.bl k) h) (in? h a (.tup xs)) := wp_ofB (h := h)
@[simp] theorem wp_inL {a : D} {xs : List D} : Wp q e (opInA a (.lst xs) h) ↔ Wo (fun k => q (.bl k) h) (in? h a (.lst xs)) := wp_ofB (h := h)
@[simp] theorem wp_ninT {a : D} {xs : List D} : Wp q e (opNotInA a (.tup xs) h) ↔ Wo (fun k => q (.bl (!k)) h) (in? h a (.tup xs)) := wp_ofB (h := h)
@[simp] theorem wp_ninL {a : D} {xs : List D} : Wp q e (opNotInA a (.lst xs) h) ↔ Wo (fun k => q (.bl (!k)) h) (in? h a (.lst xs)) := wp_ofB (h := h)
@[simp] theorem wp_inF {a : D} {xs : List D} : Wp q e (opInA a (.frz xs) h) ↔ Wo (fun k => q (.bl k) h) (in? h a (.frz xs)) := wp_ofB (h := h)
@[simp] theorem wp_ninF {a : D} {xs : List D} : Wp q e (opNotInA a (.frz xs) h) ↔ Wo (fun k => q (.bl (!k)) h) (in? h a (.frz xs)) := wp_ofB (h := h)
@[simp] theorem wp_inD {a : D} {kvs : List (Ky × D)} : Wp q e (opInA a (.dic kvs) h) ↔ Wo (fun k => q (.bl (dGet kvs k).isSome) h) (kyD a) := wp_wo fun k => Iff.rfl
@[simp] theorem wp_ninD {a : D} {kvs : List (Ky × D)} : Wp q e (opNotInA a (.dic kvs) h) ↔ Wo (fun k => q (.bl (!(dGet kvs k).isSome)) h) (kyD a) := wp_wo fun k => Iff.rfl
@[simp] theorem wp_cIsi {d : D} {n : String} : Wp q e (cIsi [d, .ty n] h) ↔ Wo (fun t => Wo (fun b => q (.bl b) h) (isTi t n)) (tiD h d) := wp_wo fun t => wp_wo fun b => Iff.rfl
@[simp] theorem wp_cLen {d : D} : Wp q e (cLen [d] h) ↔ Wo (fun n => q (.int (n : Nat)) h) (lenD h d) := wp_ofO
@[simp] theorem wp_cTup {d : D} : Wp q e (cTup [d] h) ↔ Wo (fun xs => q (.tup xs) h) (items h d) := wp_ofO
@[simp] theorem wp_cIntI {i : Int} : Wp q e (cInt [.int i] h) ↔ q (.int i) h := Iff.rfl
@[simp] theorem wp_cIntB {b : Bool} : Wp q e (cInt [.bl b] h) ↔ q (.int (if b then 1 else 0)) h := Iff.rfl
@[simp] theorem wp_cAbs {i : Int} : Wp q e (cAbs [.int i] h) ↔ q (.int (if i < 0 then -i else i)) h := Iff.rfl
@[simp] theorem wp_cMax {i j : Int} : Wp q e (cMax [.int i, .int j] h) ↔ q (.int (if j > i then j else i)) h := Iff.rfl
@[simp] theorem wp_cMin {i j : Int} : Wp q e (cMin [.int i, .int j] h) ↔ q (.int (if j < i then j else i)) h := Iff.rfl
@[simp] theorem wp_cSum {d : D} : Wp q e (cSum [d] h) ↔ Wo (fun xs => Wo (fun ns => q (.int ns.sum) h) (intsD xs)) (itemsL h d) := wp_wo fun xs => wp_ofO
@[simp] theorem wp_cAll {d : D} : Wp q e (cAll [d] h) ↔ Wo (fun xs => Wo (fun bs => q (.bl (bs.all id)) h) (blsD xs)) (itemsL h d) := wp_wo fun xs => wp_ofO
@[simp] theorem wp_cAny {d : D} : Wp q e (cAny [d] h) ↔ Wo (fun xs => Wo (fun bs => q (.bl (bs.any id)) h) (blsD xs)) (itemsL h d) := wp_wo fun xs => wp_ofO
end
/-! ### small readings -/
@[simp] theorem p64_lit : p64 = 18446744073709551616 := by unfold p64; rfl
@[simp] theorem pDv_lit : pDv = 1809251394333065553493296640760748560207343510400633813116524750123642650624 := by unfold pDv; rfl
section
variable {h : HH} {xs : List D}
@[simp] theorem items_tup : items h (.tup xs) = some xs := rfl
@[simp] theorem items_lst : items h (.lst xs) = some xs := rfl
@[simp] theorem items_frz : items h (.frz xs) = some xs := rfl
@[simp] theorem items_ref {i} : items h (.ref i) = itemsL h (.ref i) := rfl
@[simp] theorem itemsL_lst : itemsL h (.lst xs) = some xs := rfl
@[simp] theorem itemsL_frz : itemsL h (.frz xs) = some xs := rfl
theorem itemsL_ref {i} (e : h[i]? = some (.lst xs)) : itemsL h (.ref i) = some xs := by unfold itemsL; dsimp only; rw [e]
@[simp] theorem chkD_tup {ys} : chkD (.tup xs) ys = [] := rfl
@[simp] theorem chkD_lst {ys} : chkD (.lst xs) ys = [] := rfl
@[simp] theorem chkD_frz {ys} : chkD (.frz xs) ys = [] := rfl
@[simp] theorem chkD_ref {i ys} : chkD (.ref i) ys = [(i, ys)] := rfl
@[simp] theorem chkOk_nil : chkOk h [] = true := rfl
@[simp] theorem lenD_tup : lenD h (.tup xs) = some xs.length := rfl
@[simp] theorem lenD_lst : lenD h (.lst xs) = some xs.length := rfl
@[simp] theorem lenD_frz : lenD h (.frz xs) = some xs.length := rfl
theorem lenD_ref {i} (e : h[i]? = some (.lst xs)) : lenD h (.ref i) = some xs.length := by unfold lenD; dsimp only; rw [e]
@[simp] theorem tiD_int {i} : tiD h (.int i) = some .int := rfl
@[simp] theorem tiD_bl {i} : tiD h (.bl i) = some .bl := rfl
@[simp] theorem tiD_str {i} : tiD h (.str i) = some .str := rfl
@[simp] theorem tiD_non : tiD h .non = some .non := rfl
@[simp] theorem tiD_tup : tiD h (.tup xs) = some .tup := rfl
@[simp] theorem tiD_lst : tiD h (.lst xs) = some .lst := rfl
@[simp] theorem tiD_frz : tiD h (.frz xs) = some .lst := rfl
@[simp] theorem tiD_dic {kvs} : tiD h (.dic kvs) = some .dic := rfl
@[simp] theorem truD_bl {b} : truD h (.bl b) = some b := rfl
@[simp] theorem truD_non : truD h .non = some false := rfl
@[simp] theorem truD_int {i} : truD h (.int i) = some (i != 0) := rfl
@[simp] theorem truD_tup : truD h (.tup xs) = some (!xs.isEmpty) := rfl
@[simp] theorem truD_lst : truD h (.lst xs) = some (!xs.isEmpty) := rfl
@[simp] theorem isTi_int {t : Ti} : isTi t "int" = some (t == .int || t == .bl) := rfl
@[simp] theorem isTi_bool {t : Ti} : isTi t "bool" = some (t == .bl) := rfl
@[simp] theorem isTi_str {t : Ti} : isTi t "str" = some (t == .str) := rfl
@[simp] theorem isTi_tup {t : Ti} : isTi t "tuple" = some (t == .tup) := rfl
@[simp] theorem isTi_list {t : Ti} : isTi t "list" = some (t == .lst) := rfl
@[simp] theorem isTi_dict {t : Ti} : isTi t "dict" = some (t == .dic) := rfl
@[simp] theorem ti_eq {t u : Ti} : (t == u) = decide (t = u) := by cases t <;> cases u <;> rfl
@[simp] theorem kyD_int {i} : kyD (.int i) = some (.inl i) := rfl
@[simp] theorem kyD_str {i} : kyD (.str i) = some (.inr i) := rfl
@[simp] theorem wipeE_nil {env : En} : wipeE env [] = env := rfl
@[simp] theorem wipeE_cons {env : En} {v : Nat} {vs : List Nat} : wipeE env (v :: vs) = (wipeE env vs).set v none := rfl
@[simp] theorem zipD_nil {ys : List D} : zipD [] ys = [] := rfl
@[simp] theorem zipD_cons {x y : D} {xs ys : List D} : zipD (x :: xs) (y :: ys) = .tux [x, y] :: zipD xs ys := rfl
@[simp] theorem gN_ {i : Nat} {d : D} {env : En} : gN i d env = some (env.set i (some d)) := rfl
@[simp] theorem gsCons_ {g : Tg} {gs : Tgs} {d : D} {ds : List D} {env : En} : gsCons g gs (d :: ds) env = (g d env).bind fun env' => gs ds env' := rfl
@[simp] theorem gsNil_ {env : En} : gsNil' [] env = some env := rfl
@[simp] theorem gTx_ {n : Nat} {gs : Tgs} {ds : List D} {env : En} (hn : ds.length = n) : gT n gs (.tux ds) env = gs ds env := by unfold gT; dsimp only; rw [if_pos hn]
@[simp] theorem gT_ {n : Nat} {gs : Tgs} {ds : List D} {env : En} (hn : ds.length = n) : gT n gs (.tup ds) env = gs ds env := by unfold gT; dsimp only; rw [if_pos hn]
@[simp] theorem atI_nat {α : Type} {xs : List α} {i : Nat} : atI xs (i : Int) = xs[i]? := by
  unfold atI ixN
  rw [if_pos (by omega)]
  by_cases hl : i < xs.length
  · rw [if_pos (by omega)]; simp
  · rw [if_neg (by omega)]; simp [List.getElem?_eq_none (Nat.le_of_not_lt hl)]
@[simp] theorem atI_0 {α : Type} {xs : List α} : atI xs 0 = xs[0]? := atI_nat (i := 0)
@[simp] theorem atI_1 {α : Type} {xs : List α} : atI xs 1 = xs[1]? := atI_nat (i := 1)
@[simp] theorem atI_2 {α : Type} {xs : List α} : atI xs 2 = xs[2]? := atI_nat (i := 2)
@[simp] theorem atI_3 {α : Type} {xs : List α} : atI xs 3 = xs[3]? := atI_nat (i := 3)
@[simp] theorem atI_4 {α : Type} {xs : List α} : atI xs 4 = xs[4]? := atI_nat (i := 4)
@[simp] theorem atI_lit {α : Type} {xs : List α} {n : Nat} : atI xs (no_index (OfNat.ofNat n : Int)) = xs[(OfNat.ofNat n : Nat)]? := atI_nat (i := n)
theorem atI_toNat {α : Type} {xs : List α} {i : Int} (h0 : 0 ≤ i) : atI xs i = xs[i.toNat]? := by
  have := atI_nat (xs := xs) (i := i.toNat)
  rwa [Int.toNat_of_nonneg h0] at this
theorem atI_some {α : Type} {xs : List α} {i : Int} (h0 : 0 ≤ i) (h1 : i < xs.length) : ∃ x, atI xs i = some x ∧ x ∈ xs := by
  rw [atI_toNat h0]
  have : i.toNat < xs.length := by omega
  exact ⟨xs[i.toNat], by rw [List.getElem?_eq_getElem this], List.getElem_mem this⟩
/-- pure data -/
def plD (d : D) : Prop := isD d = true ∧ deep d ≤ 60
theorem view_isD {d : D} (p : isD d = true) : view h d = d := by
  cases d with
  | ref i => unfold isD at p; cases p
  | _ => rfl
theorem same_pl {a b : D} (p : plD a) (r : plD b) : same? h a b = some (eqv a b) := by
  unfold same?
  rw [view_isD p.1, view_isD r.1, p.1, r.1]
  simp only [Bool.and_self, Bool.true_and, p.2, r.2, decide_true, if_true]
theorem eqv_refl_ {a : D} (p : isD a = true) : eqv a a = true := SeqAt.eqv_refl _ (toP_lay a p)
@[simp] theorem pl_int {i} : plD (.int i) := ⟨rfl, by simp [deep]⟩
@[simp] theorem pl_str {i} : plD (.str i) := ⟨rfl, by simp [deep]⟩
@[simp] theorem pl_bl {i} : plD (.bl i) := ⟨rfl, by simp [deep]⟩
@[simp] theorem pl_non : plD .non := ⟨rfl, by simp [deep]⟩
@[simp] theorem same_ii {i j} : same? h (.int i) (.int j) = some (i == j) := by rw [same_pl pl_int pl_int]; unfold eqv toP PyData.eqv; rfl
theorem ofString_inj {s t : String} (e : Str.ofString s = Str.ofString t) : s = t := by
  rw [Str.ofString_eq_toList, Str.ofString_eq_toList] at e
  have e2 : (s.toList.map Char.toNat) = (t.toList.map Char.toNat) := by
    have := congrArg (fun x : Str => x.cps.toList) e
    simpa using this
  have e3 : s.toList = t.toList := (List.map_inj_right fun a b hab => Char.toNat_inj.mp hab).mp e2
  exact String.toList_inj.mp e3
@[simp] theorem same_ss {s t : String} : same? h (.str s) (.str t) = some (decide (s = t)) := by
  rw [same_pl pl_str pl_str]
  unfold eqv toP PyData.eqv
  by_cases hst : s = t
  · subst hst; simp
  · have : ¬ Str.ofString s = Str.ofString t := fun z => hst (ofString_inj z)
    simp [hst, this]
@[simp] theorem eqv_ss {s t : String} : eqv (.str s) (.str t) = decide (s = t) := by
  unfold eqv toP PyData.eqv
  by_cases hst : s = t
  · subst hst; simp
  · have : ¬ Str.ofString s = Str.ofString t := fun z => hst (ofString_inj z)
    simp [hst, this]
@[simp] theorem eqv_ii {i j} : eqv (.int i) (.int j) = decide (i = j) := by unfold eqv toP PyData.eqv; rfl
@[simp] theorem eqv_bb {i j} : eqv (.bl i) (.bl j) = (i == j) := by unfold eqv toP PyData.eqv; rfl
@[simp] theorem eqv_bi {i j} : eqv (.bl i) (.int j) = ((if i then 1 else 0) == j) := by unfold eqv toP PyData.eqv; rfl
@[simp] theorem eqv_ib {i j} : eqv (.int i) (.bl j) = (i == (if j then 1 else 0)) := by unfold eqv toP PyData.eqv; rfl
@[simp] theorem eqv_is {i} {s : String} : eqv (.int i) (.str s) = false := by unfold eqv toP PyData.eqv; rfl
@[simp] theorem eqv_si {i} {s : String} : eqv (.str s) (.int i) = false := by unfold eqv toP PyData.eqv; rfl
@[simp] theorem eqv_bs {i} {s : String} : eqv (.bl i) (.str s) = false := by unfold eqv toP PyData.eqv; rfl
@[simp] theorem eqv_sb {i} {s : String} : eqv (.str s) (.bl i) = false := by unfold eqv toP PyData.eqv; rfl
@[simp] theorem eqv_nn : eqv .non .non = true := by unfold eqv toP PyData.eqv; rfl
@[simp] theorem eqv_ns {s : String} : eqv .non (.str s) = false := by unfold eqv toP PyData.eqv; rfl
@[simp] theorem eqv_sn {s : String} : eqv (.str s) .non = false := by unfold eqv toP PyData.eqv; rfl
@[simp] theorem eqv_ni {i} : eqv .non (.int i) = false := by unfold eqv toP PyData.eqv; rfl
@[simp] theorem eqv_in {i} : eqv (.int i) .non = false := by unfold eqv toP PyData.eqv; rfl
@[simp] theorem eqv_ts {s : String} : eqv (.tup xs) (.str s) = false := by unfold eqv toP PyData.eqv; rfl
@[simp] theorem eqv_st {s : String} : eqv (.str s) (.tup xs) = false := by unfold eqv toP PyData.eqv; rfl
@[simp] theorem eqv_ti {i} : eqv (.tup xs) (.int i) = false := by unfold eqv toP PyData.eqv; rfl
@[simp] theorem eqv_it {i} : eqv (.int i) (.tup xs) = false := by unfold eqv toP PyData.eqv; rfl
@[simp] theorem eqv_tn : eqv (.tup xs) .non = false := by unfold eqv toP PyData.eqv; rfl
@[simp] theorem eqv_nt : eqv .non (.tup xs) = false := by unfold eqv toP PyData.eqv; rfl
@[simp] theorem eqv_tb {b} : eqv (.tup xs) (.bl b) = false := by unfold eqv toP PyData.eqv; rfl
@[simp] theorem eqv_bt {b} : eqv (.bl b) (.tup xs) = false := by unfold eqv toP PyData.eqv; rfl
@[simp] theorem eqv_ls {s : String} : eqv (.lst xs) (.str s) = false := by unfold eqv toP PyData.eqv; rfl
@[simp] theorem eqv_sl {s : String} : eqv (.str s) (.lst xs) = false := by unfold eqv toP PyData.eqv; rfl
@[simp] theorem eqv_li {i} : eqv (.lst xs) (.int i) = false := by unfold eqv toP PyData.eqv; rfl
@[simp] theorem eqv_il {i} : eqv (.int i) (.lst xs) = false := by unfold eqv toP PyData.eqv; rfl
@[simp] theorem eqv_lt {ys} : eqv (.lst xs) (.tup ys) = false := by unfold eqv toP PyData.eqv; rfl
@[simp] theorem eqv_tl {ys} : eqv (.tup xs) (.lst ys) = false := by unfold eqv toP PyData.eqv; rfl
@[simp] theorem same_bb {i j} : same? h (.bl i) (.bl j) = some (i == j) := by rw [same_pl pl_bl pl_bl]; unfold eqv toP PyData.eqv; rfl
@[simp] theorem same_is {i} {s : String} : same? h (.int i) (.str s) = some false := by rw [same_pl pl_int pl_str]; unfold eqv toP PyData.eqv; rfl
@[simp] theorem same_si {i} {s : String} : same? h (.str s) (.int i) = some false := by rw [same_pl pl_str pl_int]; unfold eqv toP PyData.eqv; rfl
/-! ### objects that change -/
def lsO (p : List D → Prop) (o : O) : Prop := match o with
  | .lst xs => p xs
  | .dic _ => False
  | .lkd _ => False
@[simp] theorem lsO_l {p : List D → Prop} {xs : List D} : lsO p (.lst xs) ↔ p xs := Iff.rfl
@[simp] theorem itemsL_ref_ {i : Nat} : itemsL h (.ref i) = match h[i]? with | some (.lst xs) => some xs | _ => none := rfl
@[simp] theorem lview_ref_ {i : Nat} : lview h (.ref i) = match h[i]? with | some (.lst xs) => some xs | _ => none := rfl
@[simp] theorem lview_lst_ : lview h (.lst xs) = some xs := rfl
@[simp] theorem lenD_ref_ {i : Nat} : lenD h (.ref i) = match h[i]? with | some (.lst xs) => some xs.length | some (.dic kvs) => some kvs.length | _ => none := rfl
@[simp] theorem dicD_ref_ {i : Nat} : dicD h (.ref i) = match h[i]? with | some (.dic xs) => some xs | some (.lkd xs) => some xs | _ => none := rfl
@[simp] theorem dicD_dic_ {kvs : List (Ky × D)} : dicD h (.dic kvs) = some kvs := rfl
@[simp] theorem cL_ref {i : Nat} : cL h (.ref i) = (match h[i]? with | some (.lst xs) => some xs | _ => none : Option (List D)).isSome := rfl
@[simp] theorem cL_lst : cL h (.lst xs) = true := rfl
@[simp] theorem cL_frz : cL h (.frz xs) = true := rfl
@[simp] theorem ixN_nat {n k : Nat} : ixN n (k : Int) = if k < n then some k else none := by
  unfold ixN
  rw [if_pos (by omega)]
  by_cases hl : k < n
  · rw [if_pos (by omega), if_pos hl]; simp
  · rw [if_neg (by omega), if_neg hl]
@[simp] theorem ixN_lit {n k : Nat} : ixN n (no_index (OfNat.ofNat k : Int)) = if (OfNat.ofNat k : Nat) < n then some (OfNat.ofNat k : Nat) else none := ixN_nat (k := k)
@[simp] theorem ixN_0 {n : Nat} : ixN n 0 = if 0 < n then some 0 else none := ixN_nat (k := 0)
@[simp] theorem ixN_1 {n : Nat} : ixN n 1 = if 1 < n then some 1 else none := ixN_nat (k := 1)
@[simp] theorem ixN_2 {n : Nat} : ixN n 2 = if 2 < n then some 2 else none := ixN_nat (k := 2)
@[simp] theorem ixN_3 {n : Nat} : ixN n 3 = if 3 < n then some 3 else none := ixN_nat (k := 3)
def putO (j : Nat) (b d : D) (h : HH) : O → Option HH
  | .lst xs => match b with
    | .int i => (ixN xs.length i).map fun n => h.set j (.lst (xs.set n d))
    | _ => none
  | .dic kvs => (kyD b).bind fun k => if kvs.length < sz then some (h.set j (.dic (dPut kvs k d))) else none
  | .lkd _ => none
@[simp] theorem putAt_ref {j : Nat} {b d : D} : putAt (.ref j) b d h = h[j]?.bind (putO j b d h) := by
  unfold putAt
  dsimp only
  cases h[j]? with
  | none => rfl
  | some o => cases o <;> rfl
@[simp] theorem putO_l {j : Nat} {i : Int} {d : D} : putO j (.int i) d h (.lst xs) = (ixN xs.length i).map fun n => h.set j (.lst (xs.set n d)) := rfl
@[simp] theorem putO_d {j : Nat} {b d : D} {kvs : List (Ky × D)} : putO j b d h (.dic kvs) = (kyD b).bind fun k => if kvs.length < sz then some (h.set j (.dic (dPut kvs k d))) else none := rfl
section
variable {q : D → HH → Prop} {e : String → HH → Prop}
theorem refL_eq {j : Nat} : refL h (.ref j) = h[j]?.bind fun o => match o with | .lst xs => some (j, xs) | _ => none := by
  unfold refL
  dsimp only
  cases h[j]? with
  | none => rfl
  | some o => cases o <;> rfl
@[simp] theorem wp_app {j : Nat} {d : D} : Wp q e (mApp (.ref j) [d] h) ↔ Wo (lsO fun xs => xs.length < sz ∧ q .non (h.set j (.lst (xs ++ [d])))) h[j]? := by
  unfold mApp
  rw [refL_eq]
  cases h[j]? with
  | none => exact Iff.rfl
  | some o =>
    cases o with
    | lst xs => exact wp_if
    | dic kvs => exact Iff.rfl
    | lkd kvs => exact Iff.rfl
@[simp] theorem wp_ext {j : Nat} {d : D} : Wp q e (mExt (.ref j) [d] h) ↔ Wo (lsO fun xs => Wo (fun ys => xs.length + ys.length ≤ sz ∧ q .non (h.set j (.lst (xs ++ ys)))) (lview h d)) h[j]? := by
  unfold mExt
  rw [refL_eq]
  cases h[j]? with
  | none => exact Iff.rfl
  | some o =>
    cases o with
    | lst xs => exact wp_wo fun ys => wp_if
    | dic kvs => exact Iff.rfl
    | lkd kvs => exact Iff.rfl
@[simp] theorem wp_pop {j : Nat} : Wp q e (mPop (.ref j) [] h) ↔ Wo (lsO fun xs => Wo (fun z => q z (h.set j (.lst xs.dropLast))) xs[xs.length - 1]?) h[j]? := by
  unfold mPop
  rw [refL_eq]
  cases h[j]? with
  | none => exact Iff.rfl
  | some o =>
    cases o with
    | lst xs => exact wp_ofO
    | dic kvs => exact Iff.rfl
    | lkd kvs => exact Iff.rfl
@[simp] theorem wp_clear {j : Nat} : Wp q e (mClear (.ref j) [] h) ↔ Wo (lsO fun xs => q .non (h.set j (.lst []))) h[j]? := by
  unfold mClear
  rw [refL_eq]
  cases h[j]? with
  | none => exact Iff.rfl
  | some o => cases o <;> exact Iff.rfl
@[simp] theorem wp_rev {j : Nat} : Wp q e (mRev (.ref j) [] h) ↔ Wo (lsO fun xs => q .non (h.set j (.lst xs.reverse))) h[j]? := by
  unfold mRev
  rw [refL_eq]
  cases h[j]? with
  | none => exact Iff.rfl
  | some o => cases o <;> exact Iff.rfl
end
@[simp] theorem inB_eq {i : Int} : inB i = (decide (-4611686018427387904 ≤ i) && decide (i < 4611686018427387904)) := by unfold inB; rfl
@[simp] theorem intsL_0 {lo : Int} : intsL lo 0 = [] := rfl
theorem intsL_succ {lo : Int} {n : Nat} : intsL lo (n + 1) = .int lo :: intsL (lo + 1) n := by
  unfold intsL
  rw [List.range_succ_eq_map, List.map_cons, List.map_map]
  refine congr (congrArg List.cons ?_) ?_
  · simp
  · refine List.map_congr_left fun a _ => ?_
    simp only [Function.comp]
    congr 1
    push_cast
    omega
@[simp] theorem intsL_length {lo : Int} {n : Nat} : (intsL lo n).length = n := by unfold intsL; simp
theorem intsL_get {lo : Int} {n i : Nat} {d : D} (e : (intsL lo n)[i]? = some d) : d = .int (lo + i) ∧ i < n := by
  unfold intsL at e
  rw [List.getElem?_map] at e
  by_cases hi : i < n
  · rw [List.getElem?_range hi] at e
    cases e
    exact ⟨rfl, hi⟩
  · rw [List.getElem?_eq_none (by simp; omega)] at e; cases e
@[simp] theorem dictP_lst : dictP h [.lst xs] = pairsD xs := rfl
@[simp] theorem pairsD_nil : pairsD [] = some [] := rfl
@[simp] theorem pairsD_s {s : String} {v : D} : pairsD (.tup [.str s, v] :: xs) = (pairsD xs).map fun q => (.inr s, v) :: q := by
  rw [pairsD]
  cases pairsD xs <;> rfl
@[simp] theorem pairsD_i {i : Int} {v : D} : pairsD (.tup [.int i, v] :: xs) = (pairsD xs).map fun q => (.inl i, v) :: q := by
  rw [pairsD]
  cases pairsD xs <;> rfl
@[simp] theorem isD_tup : isD (.tup xs) = isDs xs := by unfold isD; rfl
@[simp] theorem isD_lst : isD (.lst xs) = isDs xs := by unfold isD; rfl
@[simp] theorem isD_frz : isD (.frz xs) = isDs xs := by unfold isD; rfl
@[simp] theorem isDs_nil : isDs [] = true := by unfold isDs; rfl
@[simp] theorem isDs_cons {d : D} : isDs (d :: xs) = (isD d && isDs xs) := by rw [isDs]
@[simp] theorem isD_int {i} : isD (.int i) = true := by unfold isD; rfl
@[simp] theorem isD_str {i} : isD (.str i) = true := by unfold isD; rfl
@[simp] theorem isD_bl {i} : isD (.bl i) = true := by unfold isD; rfl
@[simp] theorem isD_non : isD .non = true := by unfold isD; rfl
@[simp] theorem deep_tup : deep (.tup xs) = deeps xs + 1 := by unfold deep; rfl
@[simp] theorem deep_lst : deep (.lst xs) = deeps xs + 1 := by unfold deep; rfl
@[simp] theorem deep_frz : deep (.frz xs) = deeps xs + 1 := by unfold deep; rfl
@[simp] theorem deeps_nil : deeps [] = 0 := by unfold deeps; rfl
@[simp] theorem deeps_cons {d : D} : deeps (d :: xs) = max (deep d) (deeps xs) := by rw [deeps]
@[simp] theorem deep_int {i} : deep (.int i) = 0 := by unfold deep; rfl
@[simp] theorem deep_str {i} : deep (.str i) = 0 := by unfold deep; rfl
@[simp] theorem deep_bl {i} : deep (.bl i) = 0 := by unfold deep; rfl
@[simp] theorem deep_non : deep .non = 0 := by unfold deep; rfl
theorem same_refl {d : D} (p : plD d) : same? h d d = some true := by rw [same_pl p p, eqv_refl_ p.1]
theorem eqv_tup {xs ys : List D} : eqv (.tup xs) (.tup ys) = PyData.eqvAll (toPs xs) (toPs ys) := by unfold eqv toP PyData.eqv; rfl
theorem eqv_lst {xs ys : List D} : eqv (.lst xs) (.lst ys) = PyData.eqvAll (toPs xs) (toPs ys) := by unfold eqv toP PyData.eqv; rfl
theorem eqvAll_ints : ∀ is js : List Int, PyData.eqvAll (toPs (is.map D.int)) (toPs (js.map D.int)) = decide (is = js)
  | [], [] => rfl
  | [], j :: js => by simp [toPs, PyData.eqvAll]
  | i :: is, [] => by simp [toPs, PyData.eqvAll]
  | i :: is, j :: js => by
    have ih := eqvAll_ints is js
    simp only [List.map_cons, toPs, toP, PyData.eqvAll, PyData.eqv, ih, List.cons.injEq]
    by_cases h1 : i = j <;> by_cases h2 : is = js <;> simp [h1, h2]
theorem isDs_ints : ∀ is : List Int, isDs (is.map D.int) = true
  | [] => by simp
  | i :: is => by simp [isDs_ints is]
theorem deeps_ints : ∀ is : List Int, deeps (is.map D.int) = 0
  | [] => by simp
  | i :: is => by simp [deeps_ints is]
theorem pl_ints {is : List Int} : plD (.tup (is.map D.int)) := ⟨by simp [isDs_ints], by simp [deeps_ints]⟩
theorem pl_intsL {is : List Int} : plD (.lst (is.map D.int)) := ⟨by simp [isDs_ints], by simp [deeps_ints]⟩
theorem same_ints {is js : List Int} : same? h (.tup (is.map D.int)) (.tup (js.map D.int)) = some (decide (is = js)) := by
  rw [same_pl pl_ints pl_ints, eqv_tup, eqvAll_ints]
theorem cls_ints {n : Nat} : ∀ is : List Int, cls n (is.map D.int) = true
  | [] => by unfold cls; rfl
  | i :: is => by rw [List.map_cons, cls, cls_ints is]; unfold cl; rfl
@[simp] theorem blsD_nil : blsD [] = some [] := rfl
@[simp] theorem blsD_cons {b : Bool} : blsD (.bl b :: xs) = (blsD xs).map (b :: ·) := by rw [blsD]
@[simp] theorem intsD_nil : intsD [] = some [] := rfl
@[simp] theorem intsD_cons {b : Int} : intsD (.int b :: xs) = (intsD xs).map (b :: ·) := by rw [intsD]
theorem blsD_map : ∀ bs : List Bool, blsD (bs.map D.bl) = some bs
  | [] => rfl
  | b :: bs => by simp [blsD_map bs]
theorem intsD_map : ∀ bs : List Int, intsD (bs.map D.int) = some bs
  | [] => rfl
  | b :: bs => by simp [intsD_map bs]
theorem inOk_pl {a : D} (pa : plD a) (h1 : isDs xs = true) (h2 : deeps xs ≤ 60) : inOk h a xs = true := by
  unfold inOk
  rw [view_isD pa.1, pa.1, h1, Bool.true_and, Bool.true_and, Bool.and_eq_true]
  exact ⟨decide_eq_true pa.2, decide_eq_true h2⟩
@[simp] theorem in_tup {a : D} (pa : plD a) (h1 : isDs xs = true) (h2 : deeps xs ≤ 60) : in? h a (.tup xs) = some (xs.any fun y => eqv y a) := by
  have e := inOk_pl (h := h) pa h1 h2
  have : in? h a (.tup xs) = if inOk h a xs then some (xs.any fun y => eqv y (view h a)) else if isDc h a && xs.all isS then some false else none := by cases a <;> rfl
  rw [this, if_pos e, view_isD pa.1]
@[simp] theorem in_lst {a : D} (pa : plD a) (h1 : isDs xs = true) (h2 : deeps xs ≤ 60) : in? h a (.lst xs) = some (xs.any fun y => eqv y a) := by
  have e := inOk_pl (h := h) pa h1 h2
  have : in? h a (.lst xs) = if inOk h a xs then some (xs.any fun y => eqv y (view h a)) else if isDc h a && xs.all isS then some false else none := by cases a <;> rfl
  rw [this, if_pos e, view_isD pa.1]
theorem any_texts {a : D} (ha : ∀ t, eqv (.str t) a = false) : ∀ {xs : List D}, xs.all isS = true → (xs.any fun y => eqv y a) = false
  | [], _ => rfl
  | x :: xs, e => by
    rw [List.all_cons, Bool.and_eq_true] at e
    rw [List.any_cons, any_texts ha e.2, Bool.or_false]
    obtain ⟨e1, _⟩ := e
    cases x <;> first | exact ha _ | cases e1
theorem in_texts {a : D} (ha : ∀ t, eqv (.str t) (view h a) = false) (hc : isDc h a = true) (e : xs.all isS = true) : in? h a (.tup xs) = some false := by
  have : in? h a (.tup xs) = if inOk h a xs then some (xs.any fun y => eqv y (view h a)) else if isDc h a && xs.all isS then some false else none := by cases a <;> first | rfl | cases hc
  rw [this]
  split
  · rw [any_texts ha e]
  · rw [hc, e]; rfl
@[simp] theorem in_dic {kvs : List (Ky × D)} (e : xs.all isS = true) : in? h (.dic kvs) (.tup xs) = some false := in_texts (fun t => rfl) rfl e
theorem in_tupS {ys : List D} (e : xs.all isS = true) : in? h (.tup ys) (.tup xs) = some false := in_texts (fun t => rfl) rfl e
theorem in_lstS {ys : List D} (e : xs.all isS = true) : in? h (.lst ys) (.tup xs) = some false := in_texts (fun t => rfl) rfl e
end
end Pu

namespace Pu
open PySem PySem.Spec PyProof.Rows L2

/-! ### a pen: the script, where it stands, what is left of a great cell -/
def penO (ns : List Int) (a r : Int) : O := .lst [.frz (ns.map D.int), .int a, .int r]
def Pen (b : Int) (t h : HH) : Prop := ∃ ns a r, h = penO ns a r :: t ∧ 0 ≤ a ∧ a ≤ b ∧ 0 ≤ r
theorem Pen.le {b c : Int} {t h : HH} (p : Pen b t h) (l : b ≤ c) : Pen c t h := by
  obtain ⟨ns, a, r, e, h1, h2, h3⟩ := p
  exact ⟨ns, a, r, e, h1, by omega, h3⟩
theorem Pen.pure {b : Int} {t h : HH} (p : Pen b t h) (ht : t.all (clO 0) = true) : h.all (clO 0) = true := by
  obtain ⟨ns, a, r, e, h1, h2, h3⟩ := p
  subst e
  rw [List.all_cons, ht, Bool.and_true]
  simp only [penO, clO, cls, cl, cls_ints, Bool.and_self]
/-- what draws a number -/
def Draws (F : Fn) : Prop := ∀ {b m : Int} {t h : HH} {q : D → HH → Prop}, Pen b t h → b < 1000000000000 → 0 < m → m < 2 ^ 250 →
  (∀ k h', 0 ≤ k → k < m → Pen (b + 1) t h' → q (.int k) h') → Wp q noE (F [.ref 0, .int m] h)
theorem Draws.of {F : Fn} (w : ∀ {ns : List Int} {a r m : Int} {t : HH} {Q : D → HH → Prop}, 0 ≤ a → a < 2 ^ 40 → 0 ≤ r → 0 < m → m < 2 ^ 250 →
    (∀ k a' r', 0 ≤ k → k < m → a ≤ a' → a' ≤ a + 1 → 0 ≤ r' → Q (.int k) (.lst [.frz (ns.map D.int), .int a', .int r'] :: t)) →
    Wp Q noE (F [.ref 0, .int m] (.lst [.frz (ns.map D.int), .int a, .int r] :: t))) : Draws F := by
  intro b m t h q p hb hm hm2 k
  obtain ⟨ns, a, r, e, h1, h2, h3⟩ := p
  subst e
  exact w h1 (by omega) h3 hm hm2 fun x a' r' x0 x1 l1 l2 l3 => k x _ x0 x1 ⟨ns, a', r', rfl, by omega, by omega, l3⟩
theorem Wp.app {α : Type} {q q' : α → HH → Prop} {e : String → HH → Prop} {r : R α} (w : Wp q noE r) (i : ∀ a h, q a h → q' a h) : Wp q' e r := wp_imp w i
/-- an evaluation of which the end is known -/
theorem wp_of_eq {α : Type} {q : α → HH → Prop} {e : String → HH → Prop} {r : R α} {a : α} {h : HH} (h1 : r = .ok a h) : Wp q e r ↔ q a h := by rw [h1]; exact Iff.rfl
end Pu

namespace Pu
open PySem PySem.Spec PyProof.Rows L2

/-! ### enumerate of a tuple -/
theorem enumNewB {v : Value} {o : Obj} {Hq : Heap → Prop} (B : Begins v o Hq) :
    Meets (Builtin.«enumerate.__new__» ⟨[.type "enumerate", v], []⟩) (fun _ R s => Hq s.heap ∧
      R (.ok (.ret (.ref (s.heap.push o).objs.size))) { s with heap := (s.heap.push o).push { cls := .type "enumerate", data := .fields #[.none, .bool false, .ref s.heap.objs.size, rawInt 0, .none, .none] } }) :=
  .of_wp fun pg wd Ar Rr sh hh => by
    obtain ⟨hp, ge, dr, tk, osx⟩ := sh
    obtain ⟨q1, hh⟩ := hh
    have hsub := sub_enumerate
    have ii : ∀ {A' : Around} {E : Value → Shared → Prop} {Q : Value → Shared → Prop}, Q (.ref hp.objs.size) ⟨hp.push o, ge, dr, tk, osx⟩ → wpAny (model pg wd) A' (pyIter v) Q E ⟨hp, ge, dr, tk, osx⟩ :=
      fun z => B.iter pg wd _ _ ⟨hp, ge, dr, tk, osx⟩ _ q1 z
    wp_walk using ii
    refine wpAny_stack_any fun stk => (wpAny_pure ?_)
    split
    · rename_i cc _ _ _ _ _
      cases (cc == Value.type "enumerate") <;> (wp_walk using ii; exact ⟨_, rfl, hh⟩)
    · wp_walk using ii
      exact ⟨_, rfl, hh⟩
theorem call_enumB {pg : Program} {wd : World} {Ar : Around} {E : Value → Shared → Prop} {s : Shared} {v : Value} {o : Obj} {Hq : Heap → Prop} {Q : Value → Shared → Prop} (B : Begins v o Hq) (h1 : Hq s.heap)
    (h : ∀ h', IsEnum h' (s.heap.objs.size + 1) s.heap.objs.size 0 .none → h'.get? s.heap.objs.size = some o → h'.objs.size = s.heap.objs.size + 2 →
      (∀ b ob, s.heap.get? b = some ob → h'.get? b = some ob) → Q (.ref (s.heap.objs.size + 1)) { s with heap := h' }) :
    wpAny (model pg wd) Ar (call (.type "enumerate") [v]) Q E s := by
  refine callType_new F.called_enumerate (by decide) (F.typeCall_enumerate_1 _) (F.newCall_enumerate_1 _) (fun obj => (F.args_object_init_2 obj _)) F.entry_enumerate_new (enumNewB B) ⟨h1, ?_⟩
  have sz1 : (s.heap.push o).objs.size = s.heap.objs.size + 1 := Heap.size_push ..
  show _ ∧ _
  rw [sz1]
  have he : IsEnum ((s.heap.push o).push { cls := .type "enumerate", data := .fields #[.none, .bool false, .ref s.heap.objs.size, rawInt 0, .none, .none] }) (s.heap.objs.size + 1) s.heap.objs.size 0 .none := by
    have z := Heap.get?_push_size (s.heap.push o) (o := { cls := .type "enumerate", data := .fields #[.none, .bool false, .ref s.heap.objs.size, rawInt 0, .none, .none] }) rfl
    rwa [sz1] at z
  refine ⟨⟨_, he, rfl⟩, h _ he (Heap.get?_push_of_some _ (Heap.get?_push_size _ B.free)) (by rw [Heap.size_push, sz1]) fun b ob z => ?_⟩
  exact Heap.get?_push_of_some _ (Heap.get?_push_of_some _ z)
/-- the tuple at a, n long, each item in a new pair -/
def IteT (K : PySem.W.Frag) (a : Addr) (n : Nat) : It :=
  ⟨fun i H => ∃ (xs : List V) (x : V), SqT K H a xs ∧ xs.length = n ∧ xs[i]? = some x,
    fun i H v H' => ∃ T x, v = .ref T ∧ H T = none ∧ H' = upd H T (.tup [.int (i : Nat), x]) ∧ ∀ xs, SqT K H a xs → xs[i]? = some x,
    fun i H => ∃ xs : List V, SqT K H a xs ∧ xs.length = n ∧ n ≤ i⟩
theorem turn_enumT {P : Program} {w : World} {K : PySem.W.Frag} {elts : List Expr} {kk : Nat} {tpos : Pos} (a e it : Addr) (n : Nat) (hai : a ≠ it) (hae : a ≠ e) :
    Turn P w K (.Tuple elts kk tpos) (IteT K a n) [e, it] e (fun i h => (∃ old, IsEnum h e it ((i : Nat) : Int) old) ∧ h.IsTupleIter it a i ∧ e ≠ it ∧ i ≤ n) where
  mem := by simp
  obj := fun i h st b hb => by
    obtain ⟨⟨old, he⟩, ⟨o, ho, hc, hd⟩, _⟩ := st
    rcases (show b = e ∨ b = it by simpa using hb) with rfl | rfl
    · exact ⟨_, he, fun v q => nomatch q⟩
    · exact ⟨o, ho, fun v q => by rw [hd] at q; cases q⟩
  keep := fun i h h' st k => by
    obtain ⟨⟨old, he⟩, hi, hne, hl⟩ := st
    exact ⟨⟨old, k e (by simp) _ he⟩, hi.at fun o q => k it (by simp) o q, hne, hl⟩
  item := by
    intro X hP hw hK hc i pins s σ H E I hf st hg
    subst hP hw hK
    obtain ⟨⟨old, he⟩, hit, hne, hl⟩ := st
    obtain ⟨xs, x, hq, hn, hx⟩ := hg
    obtain ⟨its, rv, p, hz⟩ := I.tuple hq
    have hlen := rv.length
    have hin : i < its.toArray.size := by
      have := (List.getElem?_eq_some_iff.mp hx).1
      simp; omega
    have hel : e < s.heap.objs.size := Heap.lt_size he
    have hil : it < s.heap.objs.size := by obtain ⟨_, q, _⟩ := hit; exact Heap.lt_size q
    have hh : X.A.in1.handled = none := I.ok.hd hc
    have Dr := Draws.tuple (prog := X.prog) (w := X.w) hh it a hai its.toArray
    refine wpAny_pyNext_enum_itemC Dr he ⟨hit, p⟩ hin hne (by simp; exact ⟨hne, fun z => hae z.symm⟩) fun u h' tk hu ho hst hT hsz hk => ?_
    have ru : RelV x u := by
      obtain ⟨u', hu', ru⟩ := rv.get hx
      have : u' = u := by
        have h2 : its[i]? = some u := by simpa using hu
        rw [hu'] at h2; exact Option.some.inj h2
      rw [← this]; exact ru
    refine ⟨_, rfl, wpAny_letOwnedTupleGo_enum (s := { s with heap := h', toks := tk + 1 }) ho fun h'' he' sb => ?_⟩
    have hT2 : h''.get? s.heap.objs.size = some { cls := .type "tuple", data := .seq #[.int i tk, u] } := (sb.2 _ (Nat.ne_of_gt hel)).trans hT
    have new : ObjOk X.prog X.w (upd H s.heap.objs.size (.tup [.int (i : Nat), x])) h'' s.heap.objs.size (.tup [.int (i : Nat), x]) :=
      ⟨by show 2 ≤ sizeLine; decide, [.int i tk, u], .cons ⟨_, rfl⟩ (.cons ru .nil), ⟨_, hT2, rfl, _, rfl⟩⟩
    have I1 : Inv X pins σ (upd H s.heap.objs.size (.tup [.int (i : Nat), x])) { s with heap := h'', toks := tk + 1 } :=
      I.turnedNew (ch := [e, it]) (fun b ob hb q => (sb.2 b fun z => hb (by simp [z])).trans (hk b ob (fun z => hb (by simp [z])) (fun z => hb (by simp [z])) q)) hf (Nat.le_refl _) new
    refine ⟨.ref s.heap.objs.size, _, I1, rfl, ⟨_, x, rfl, I.hok.fresh (Nat.le_refl _), rfl, fun ys hy => by rw [I.tuple_inj hy hq]; exact hx⟩, ⟨⟨u, ?_⟩, hst.1.at fun o q => (sb.2 it hne.symm).trans q, hne, ?_⟩, fun b hb => ?_⟩
    · have e1 : ((i + 1 : Nat) : Int) = (i : Int) + 1 := by omega
      rw [e1]; exact he'
    · simp at hin; omega
    · have hb' : b < s.heap.objs.size := by
        rcases (show b = e ∨ b = it by simpa using hb) with rfl | rfl
        · exact hel
        · exact hil
      rw [upd_ne (Nat.ne_of_lt hb')]
      exact (hf b hb).1
  done := by
    intro X hP hw hK hc i pins s σ H E I hf st hg
    subst hP hw hK
    obtain ⟨⟨old, he⟩, hit, hne, hl⟩ := st
    obtain ⟨xs, hq, hn, hx⟩ := hg
    obtain ⟨its, rv, p, hz⟩ := I.tuple hq
    have hlen := rv.length
    obtain ⟨f0, f1, f2, f3, f4, f5⟩ := hf it (by simp)
    have hh : X.A.in1.handled = none := I.ok.hd hc
    have Dr := Draws.tuple (prog := X.prog) (w := X.w) hh it a hai its.toArray
    have hi : i = its.toArray.size := by simp; omega
    exact wpAny_pyNext_enum_endD Dr he (by rw [← hi]; exact ⟨hit, p⟩) fun h' eb => ⟨rfl, I.turned (t' := s.toks) (fun b o hb q => eb b o hb q) f0 f1 f3 f4 f5⟩
  self := fun A i s Q E st h => let ⟨⟨_, he⟩, _⟩ := st; wpAny_pyIter_enum he h
def iEnumB (K : PySem.W.Frag) (ta : TA) : TI := fun σ H R => ta σ H fun vs H1 => ∃ a xs, vs = [.ref a] ∧ ((SqL K H1 a xs ∧ R (Ite K a) H1) ∨ (SqT K H1 a xs ∧ R (IteT K a xs.length) H1))
theorem pi_enumB {X : Cx} {e : Expr} {ta : TA} {p pos tpos : Pos} {elts : List Expr} {kk : Nat} (hg : Gl X "enumerate") (hm : X.mg "enumerate" = none) (ha : PA X [e] ta) (hs : starEach [e] X.env = [(false, eval e X.env)] := by rfl) :
    PI X (.Tuple elts kk tpos) (.Call (.Name "enumerate" p) [e] [] pos) (iEnumB X.K ta) := by
  refine ⟨fun pins s σ H R I h => ?_⟩
  refine Call_ (ld_blt I hg hm boot_enumerate (callWith_type1 (thn (ha.run pos pins s σ H _ I h) fun us s1 ⟨vs, H1, I1, r1, q1⟩ => ?_) hs rfl))
  obtain ⟨a, xs, ex, q⟩ := q1
  subst ex
  cases r1 with
  | cons r rr =>
    cases rr
    cases r
    have fresh : ∀ b ∈ [s1.heap.objs.size + 1, s1.heap.objs.size], FpOk X pins H1 b := fun b hb => by
      have hle : s1.heap.objs.size ≤ b := by
        rcases (show b = s1.heap.objs.size + 1 ∨ b = s1.heap.objs.size by simpa using hb) with z | z <;> omega
      exact I1.fpOk hle (I1.hok.fresh hle)
    rcases q with ⟨hq, q⟩ | ⟨hq, q⟩
    · obtain ⟨its, rv, p', hz⟩ := I1.list hq
      refine call_enumerate_list p'.isList fun h' he hit hsz hk => wpAny_pyIter_enum he ?_
      have I2 : Inv X pins σ H1 { s1 with heap := h' } := I1.kept (t' := s1.toks) hk
      exact ⟨_, [s1.heap.objs.size + 1, s1.heap.objs.size], _, _, H1, rfl, I2, turn_enum a (s1.heap.objs.size + 1) s1.heap.objs.size, ⟨⟨.none, he⟩, hit, Nat.succ_ne_self _⟩, fresh, q⟩
    · obtain ⟨its, rv, p', hz⟩ := I1.tuple hq
      have hal : a < s1.heap.objs.size := by obtain ⟨_, q, _⟩ := id p'; exact Heap.lt_size q
      refine call_enumB (begins_tuple a its.toArray) p' fun h' he ho hsz hk => wpAny_pyIter_enum he ?_
      have I2 : Inv X pins σ H1 { s1 with heap := h' } := I1.kept (t' := s1.toks) hk
      exact ⟨_, [s1.heap.objs.size + 1, s1.heap.objs.size], _, _, H1, rfl, I2, turn_enumT a (s1.heap.objs.size + 1) s1.heap.objs.size xs.length (Nat.ne_of_lt hal) (Nat.ne_of_lt (Nat.lt_succ_of_lt hal)), ⟨⟨.none, he⟩, ⟨_, ho, rfl, rfl⟩, Nat.succ_ne_self _, Nat.zero_le _⟩, fresh, q⟩
def iEnum8 (f : Exs) : Ei := fun env h => (f env h).bind fun ds h1 => match ds with
  | [.tup xs] => .ok ⟨numb 0 xs, []⟩ h1
  | [a] => ofO (itemsL h1 a) fun xs => .ok ⟨numb 0 xs, chkD a xs⟩ h1
  | _ => .stuck
theorem wk_enumT {K : PySem.W.Frag} {a : Addr} {n : Nat} : Walk (IteT K a n) n (fun H => ∃ vs, vs.length = n ∧ SqT K H a vs) (fun i H x H' => ∃ T y, x = .ref T ∧ H T = none ∧ H' = upd H T (.tup [.int (i : Nat), y]) ∧ ∀ vs, SqT K H a vs → vs[i]? = some y) :=
  ⟨fun i _ hi ⟨vs, e, q⟩ => ⟨vs, vs[i]'(by omega), q, e, List.getElem?_eq_getElem _⟩, fun _ ⟨vs, e, q⟩ => ⟨vs, q, e, Nat.le_refl _⟩, fun _ _ _ _ _ _ y => y⟩
section
variable {X : Cx} {W : WX} {k : Nat}
theorem si_enum {e : Expr} {f : Exs} {p pos tpos : Pos} {elts : List Expr} {kk : Nat} (hg : Gl X "enumerate") (hm : X.mg "enumerate" = none) (ha : SA X W [e] f) (hs : starEach [e] X.env = [(false, eval e X.env)] := by rfl) :
    SI X W (.Tuple elts kk tpos) (.Call (.Name "enumerate" p) [e] [] pos) (iEnum8 f) := PI.mono (pi_enumB hg hm ha.pa hs) fun σ H R hh => by
  obtain ⟨T, env, h, r1, r2, a⟩ := hh
  refine ⟨T, env, h, r1, r2, a.bind r1.mut fun ds h1 T1 H1 vs e l1 q1 rvs a1 => ?_⟩
  split at a1
  · rename_i xs
    obtain ⟨v, rfl, rv⟩ := rels_one rvs
    obtain ⟨p1, rfl, s1⟩ := tup_stay q1 rv
    obtain ⟨vs1, t1, w1⟩ := s1 T1 H1 Le.refl
    have hl : vs1.length = xs.length := rels_length w1
    refine ⟨p1, vs1, rfl, .inr ⟨t1, After.done a1 q1 ?_⟩⟩
    refine ⟨_, _, by rw [numb_len, hl]; exact wk_enumT, fun T3 H3 h3 l3 r3 hc => ?_, fun i H3 x H' hi y T3 h3 l3 r3 hc => ?_⟩
    · obtain ⟨ws1, t1, r1⟩ := s1 T3 H3 l3
      exact ⟨ws1, rels_length r1, t1⟩
    · obtain ⟨ws1, t1, w1⟩ := s1 T3 H3 l3
      obtain ⟨T', x', rfl, hp, rfl, y1⟩ := y
      obtain ⟨d1, g1, k1⟩ := rels_back w1 (y1 _ t1)
      obtain ⟨z1, z2, z3⟩ := Le.tup r3 hp (rels_cons (d := .int ((i : Nat) : Int)) (rel_int_iff.mpr rfl) (rels_cons k1 rels_nil)) rfl
      refine ⟨_, ?_, z1, z2, z3⟩
      have := numb_get (k := 0) g1
      rw [Nat.zero_add] at this
      exact this
  · obtain ⟨xs, e1, a1⟩ := After.ofO a1
    obtain ⟨v, rfl, rv⟩ := rels_one rvs
    obtain ⟨p1, rfl, s1⟩ := itemsL_stay q1 rv e1
    obtain ⟨vs1, t1, _⟩ := s1 T1 H1 h1 Le.refl q1 (chkOk_self e1)
    refine ⟨p1, vs1, rfl, .inl ⟨t1, After.done a1 q1 ?_⟩⟩
    refine ⟨_, _, by rw [numb_len]; exact wk_enum, fun T3 H3 h3 l3 r3 hc => ?_, fun i H3 x H' hi y T3 h3 l3 r3 hc => ?_⟩
    · obtain ⟨ws1, t1, r1⟩ := s1 T3 H3 h3 l3 r3 hc
      exact ⟨ws1, rels_length r1, t1⟩
    · obtain ⟨ws1, t1, w1⟩ := s1 T3 H3 h3 l3 r3 hc
      obtain ⟨T', x', rfl, hp, rfl, y1⟩ := y
      obtain ⟨d1, g1, k1⟩ := rels_back w1 (y1 _ t1)
      obtain ⟨z1, z2, z3⟩ := Le.tup r3 hp (rels_cons (d := .int ((i : Nat) : Int)) (rel_int_iff.mpr rfl) (rels_cons k1 rels_nil)) rfl
      refine ⟨_, ?_, z1, z2, z3⟩
      have := numb_get (k := 0) g1
      rw [Nat.zero_add] at this
      exact this
  · exact False.elim a1
end
end Pu

namespace Pu
open PySem PySem.Spec PyProof.Rows L2

/-! ### sorted(set(xs)), xs a list of whole numbers -/
section
variable {Pg : Program} {wd : World} {Ar : Around} {Ee : Value → Shared → Prop} {st : Shared}
theorem setLi {la : Addr} {itms : Array Value} (nums : List Int) {Qp : Value → Shared → Prop} (nox : Ar.handled = none) (isl : st.heap.IsList la itms) (intl : IntsAre itms.toList nums) (small : nums.length + 1 < scanBound)
    (fin : ∀ (hp' : Heap) (tok c : Nat), SetR wd hp' st.heap.objs.size (fun j => decide (j ∈ nums)) c → c ≤ nums.length → (∀ b o, st.heap.get? b = some o → hp'.get? b = some o) → Qp (.ref st.heap.objs.size) { st with heap := hp', toks := tok }) :
    wpAny (model Pg wd) Ar (call (.type "set") [.ref la]) Qp Ee st := by
  have lens : itms.size = nums.length := by
    have q := IntsAre.length intl
    rw [Array.length_toList] at q
    exact q
  obtain ⟨c, tl, mro1⟩ := F.called_set.mro
  have made1 := F.called_set.made
  have sub1 := F.called_set.sub
  refine wpAny_call (codeAny_of_tree (show wpAny _ _ (callAny (.type "set") _) _ _ _ from ?_))
  refine wpAny_pure ⟨Code.quiet_builtin _ (by decide +kernel), (codeAny_builtin F.entry_type_call ?_)⟩
  rw [Around.under_plain (weight_type_call_type "set" [.ref la] []) rfl]
  have h1 := F.called_set.notType
  have h2 := F.called_set.canCreate
  have hct := F.typeCall_set_1 (.ref la)
  repeat (any_goals first | assumption | wp_step)

  refine codeAny_mono (code_set_led1 (.ref la) (E := Ee) (Q₁ := fun ob0 s₁ => ob0 = .ref st.heap.objs.size ∧ s₁ = { st with heap := st.heap.push { cls := .type "set", dict := none, data := .set #[] 0 (.fresh 0 0 (!wd.params.followText "set-order")) } }) ⟨rfl, rfl⟩) fun rs s₁ rr0 => ?_
  cases rs with
  | error er => exact rr0
  | ok fl0 =>
    cases fl0 with
    | ret ob0 =>
      obtain ⟨rfl, rfl⟩ := rr0
      have gotS : (st.heap.push { cls := .type "set", dict := none, data := .set #[] 0 (.fresh 0 0 (!wd.params.followText "set-order")) }).get? st.heap.objs.size = some { cls := .type "set", dict := none, data := .set #[] 0 (.fresh 0 0 (!wd.params.followText "set-order")) } := Heap.get?_push_size _ rfl
      have tyS : Shared.TypeIs { st with heap := st.heap.push { cls := .type "set", dict := none, data := .set #[] 0 (.fresh 0 0 (!wd.params.followText "set-order")) } } (.ref st.heap.objs.size) "set" := ⟨_, gotS, rfl⟩
      have hli := F.called_set.init.lookup
      have hbi := F.called_set.init.bind (.ref st.heap.objs.size)
      repeat (any_goals first | assumption | wp_step)

      refine codeAny_mono (codeAny_call_builtin (R := wants (fun rs s₂ => rs = .none ∧ ∃ hp' tok c, s₂ = { st with heap := hp', toks := tok } ∧ SetR wd hp' st.heap.objs.size (fun j => decide (j ∈ nums)) c ∧ c ≤ nums.length ∧
          (∀ b o, st.heap.get? b = some o → hp'.get? b = some o)) Ee) F.called_set.init.plain F.entry_set_init (check_set_init_1 tyS ?_)) fun r₂ s₂ hr₂ => ?_
      · obtain ⟨olist, golist, clist, nlist, dlist⟩ := isl
        obtain ⟨ocls, odict, odata, oslots⟩ := olist
        simp only at clist dlist
        subst clist; subst dlist
        have hol' : (st.heap.push { cls := .type "set", dict := none, data := .set #[] 0 (.fresh 0 0 (!wd.params.followText "set-order")) }).get? la = some { cls := .type "list", dict := odict, data := .seq itms nlist, slots := oslots } := Heap.get?_push_of_some _ golist
        have subS := F.sub_list_set
        have subF := F.sub_list_frozenset
        have neD : (Value.type "list" == Value.type "dict") = false := by decide
        have isl1 : (st.heap.push { cls := .type "set", dict := none, data := .set #[] 0 (.fresh 0 0 (!wd.params.followText "set-order")) }).IsList la itms := ⟨_, hol', rfl, nlist, rfl⟩
        unfold Builtin.«set.__init__» noKeywords Builtin.Frozenset.updateFrom
        generalize gPI : pyIter = pIt
        wp_walk
        subst gPI

        refine wpAny_pyIter_list isl1 ?_
        refine wpAny_bind (wpAny_runValue ?_)
        have ltS : la < st.heap.objs.size := Heap.lt_size golist
        have nox3 : Ar.in1.in1.in1.handled = none := by simp [nox]
        have size1 : (st.heap.push { cls := .type "set", dict := none, data := .set #[] 0 (.fresh 0 0 (!wd.params.followText "set-order")) }).objs.size = st.heap.objs.size + 1 := Heap.size_push ..
        have neqI : la ≠ (st.heap.push { cls := .type "set", dict := none, data := .set #[] 0 (.fresh 0 0 (!wd.params.followText "set-order")) }).objs.size := by
          rw [Heap.size_push]; exact Nat.ne_of_lt (Nat.lt_succ_of_lt ltS)
        have notin : st.heap.objs.size ∉ [(st.heap.push { cls := .type "set", dict := none, data := .set #[] 0 (.fresh 0 0 (!wd.params.followText "set-order")) }).objs.size, la] := by
          rw [Heap.size_push]; simp only [List.mem_cons, List.mem_singleton, List.not_mem_nil, or_false, not_or]
          exact ⟨Nat.ne_of_lt (Nat.lt_succ_self _), Nat.ne_of_gt ltS⟩
        have vals0 : ∀ (i : Nat) (v : Value), itms[i]? = some v → ∃ k t, nums[i]? = some k ∧ v = .int k t := fun i v hv => by
          have hi : i < nums.length := by rw [← lens]; exact (Array.getElem?_eq_some_iff.mp hv).1
          obtain ⟨t, er⟩ := PyProof.Rows.IntsAre.int_at intl i v (by rw [Array.getElem?_toList]; exact hv)
          refine ⟨nums[i], t, List.getElem?_eq_getElem hi, ?_⟩
          rw [er, List.getD_eq_getElem?_getD, List.getElem?_eq_getElem hi] <;> rfl
        refine set_update_ints ((Walks.list nox3 _ la neqI itms).toS) st.heap.objs.size
          notin nums lens small vals0 (itms.size - 0) 0 _ (by omega) (Nat.zero_le _)
          ⟨⟨_, Heap.get?_push_size _ rfl, rfl, rfl⟩, (isl1.push _)⟩ ?hS0 ?hR
        case hS0 =>
          have getS : ((st.heap.push { cls := .type "set", dict := none, data := .set #[] 0 (.fresh 0 0 (!wd.params.followText "set-order")) }).push { cls := .type "list_iterator", data := .fields #[.ref la, .int 0 0] }).get? st.heap.objs.size
              = some { cls := .type "set", dict := none, data := .set #[] 0 (.fresh 0 0 (!wd.params.followText "set-order")) } := Heap.get?_push_of_some _ gotS
          exact ⟨0, Nat.le_refl 0, setR_new_at getS⟩
        case hR =>
          intro st' cnt' mvd cle' setR'
          obtain ⟨hp', g2, d', tk', os'⟩ := st'
          have eqg : g2 = st.gens := mvd.gens
          have eqd : d' = st.drawn := mvd.drawn
          have eqo : os' = st.os := mvd.os
          subst eqg; subst eqd; subst eqo
          show wpAny _ _ _ _ _ _
          refine wpAny_pure ?_
          show wpAny _ _ (ret Value.none) _ _ _
          rw [lens] at cle'
          refine wpAny_pure ⟨rfl, hp', tk', cnt', rfl, setR', cle', fun b o er => ?_⟩
          have lt0 : b < st.heap.objs.size := Heap.lt_size er
          have ne1 : b ≠ st.heap.objs.size := Nat.ne_of_lt lt0
          have ne2 : b ≠ (st.heap.push { cls := .type "set", dict := none, data := .set #[] 0 (.fresh 0 0 (!wd.params.followText "set-order")) }).objs.size := by
            rw [Heap.size_push]; exact Nat.ne_of_lt (Nat.lt_succ_of_lt lt0)
          exact mvd.heap b o (by simp only [List.mem_cons, List.mem_singleton, List.not_mem_nil, or_false, not_or]; exact ⟨ne1, ne2⟩) (Heap.get?_push_of_some _ (Heap.get?_push_of_some _ er))

      · cases r₂ with
        | error er => exact hr₂
        | ok fl₂ =>
          cases fl₂ with
          | ret rs =>
            obtain ⟨rfl, hp', tok, cnt', rfl, setR', cle', hk'⟩ := hr₂
            repeat (any_goals first | assumption | wp_step)
            exact fin _ _ _ setR' cle' hk'
          | _ => exact hr₂.elim
    | _ => exact rr0.elim


end
end Pu

namespace Pu
open PySem PySem.Spec PyProof.Rows L2

/-! ### sorted lists of whole numbers -/
def insU (k : Int) : List Int → List Int
  | [] => [k]
  | a :: l => if k < a then k :: a :: l else if k = a then a :: l else a :: insU k l
def sortU (ns : List Int) : List Int := ns.foldr insU []
theorem insU_mem {k j : Int} : ∀ {l : List Int}, j ∈ insU k l ↔ j = k ∨ j ∈ l
  | [] => by simp [insU]
  | a :: l => by
    unfold insU
    split
    · simp
    · split
      · rename_i h; subst h; simp
      · simp only [List.mem_cons, insU_mem (l := l)]
        constructor
        · rintro (h | h | h)
          · exact .inr (.inl h)
          · exact .inl h
          · exact .inr (.inr h)
        · rintro (h | h | h)
          · exact .inr (.inl h)
          · exact .inl h
          · exact .inr (.inr h)
theorem insU_sorted {k : Int} : ∀ {l : List Int}, l.Pairwise (· < ·) → (insU k l).Pairwise (· < ·)
  | [], _ => by simp [insU]
  | a :: l, h => by
    have h' := List.pairwise_cons.mp h
    unfold insU
    split
    · rename_i hk
      refine List.pairwise_cons.mpr ⟨fun b hb => ?_, h⟩
      rcases List.mem_cons.mp hb with e | e
      · rw [e]; exact hk
      · exact Int.lt_trans hk (h'.1 b e)
    · split
      · exact h
      · rename_i h1 h2
        refine List.pairwise_cons.mpr ⟨fun b hb => ?_, insU_sorted h'.2⟩
        rcases insU_mem.mp hb with e | e
        · rw [e]; omega
        · exact h'.1 b e
theorem sortU_mem {j : Int} : ∀ {ns : List Int}, j ∈ sortU ns ↔ j ∈ ns
  | [] => by simp [sortU]
  | a :: l => by
    have ih := sortU_mem (j := j) (ns := l)
    unfold sortU at ih ⊢
    rw [List.foldr_cons, insU_mem, ih, List.mem_cons]
theorem sortU_sorted : ∀ ns : List Int, (sortU ns).Pairwise (· < ·)
  | [] => by simp [sortU]
  | a :: l => by
    have ih := sortU_sorted l
    unfold sortU at ih ⊢
    rw [List.foldr_cons]
    exact insU_sorted ih
theorem sorted_ext : ∀ {l m : List Int}, l.Pairwise (· < ·) → m.Pairwise (· < ·) → (∀ k, k ∈ l ↔ k ∈ m) → l = m
  | [], [], _, _, _ => rfl
  | [], b :: m, _, _, h => by have := (h b).mpr (by simp); simp at this
  | a :: l, [], _, _, h => by have := (h a).mp (by simp); simp at this
  | a :: l, b :: m, h1, h2, h => by
    have h1' := List.pairwise_cons.mp h1
    have h2' := List.pairwise_cons.mp h2
    have e : a = b := by
      rcases List.mem_cons.mp ((h a).mp (by simp)) with e | e
      · exact e
      · rcases List.mem_cons.mp ((h b).mpr (by simp)) with e2 | e2
        · exact e2.symm
        · have := h2'.1 a e
          have := h1'.1 b e2
          omega
    subst e
    refine congrArg (a :: ·) (sorted_ext h1'.2 h2'.2 fun k => ⟨fun hk => ?_, fun hk => ?_⟩)
    · rcases List.mem_cons.mp ((h k).mp (by simp [hk])) with e | e
      · have := h1'.1 k hk; omega
      · exact e
    · rcases List.mem_cons.mp ((h k).mpr (by simp [hk])) with e | e
      · have := h2'.1 k hk; omega
      · exact e
def fSortSet (f : Ex) : Exs := fun env h => (f env h).bind fun d h1 => ofO (itemsL h1 d) fun xs => ofO (intsD xs) fun ns => if ns.length < 63 then .ok ((sortU ns).map D.int) h1 else .stuck
theorem rels_ints' {K : PySem.W.Frag} {T : Tk} {H : Hp} (ns : List Int) : rels K T H (ns.map D.int) (ns.map V.int) := rels_ofInts ns
section
variable {X : Cx} {W : WX} {k : Nat}
theorem sf_sortset (C : Cok X W k) {e : Expr} {f : Ex} {p p2 q pos : Pos} (hg : Gl X "sorted") (hm : X.mg "sorted" = none) (hg2 : Gl X "set") (hm2 : X.mg "set" = none) (he : SE X W e f)
    (na : starEach [e] X.env = (false, eval e X.env) :: starEach [] X.env := by rfl) : SF X W (.Call (.Name "sorted" p) [.Call (.Name "set" p2) [e] [] q] [] pos) (fSortSet f) := by
  refine ⟨fun pins s σ H Q I hh => ?_⟩
  obtain ⟨T, env, h, r1, r2, a⟩ := hh
  refine Call_ (ld_blt I hg hm boot_sorted ?_)
  refine callWith_builtin1 (args_cons ?_ rfl) rfl rfl
  refine Call_ (ld_blt I hg2 hm2 boot_set ?_)
  refine callWith_type1 (args_cons (thn (he.run pins s σ H (fun v H1 => ∃ T1 h1 d, Le T H T1 H1 ∧ RelH X.K T1 H1 h1 ∧ rel X.K T1 H1 d v ∧ After X.K X.mg W T H σ (qF X.K H) Q (ofO (itemsL h1 d) fun xs => ofO (intsD xs) fun ns => if ns.length < 63 then .ok ((sortU ns).map D.int) h1 else .stuck)) I
    ⟨T, env, h, r1, r2, After.bind0 a fun d h1 T1 H1 v _ l1 q1 rv a1 => ⟨T1, h1, d, l1, q1, rv, a1⟩⟩) fun v s1 ⟨x, H1, I1, rx, T1, h1, d, l1, q1, rv, a1⟩ => args_nil ?_) na) na rfl
  obtain ⟨xs, e1, a1⟩ := a1.ofO
  obtain ⟨ns, e2, a1⟩ := a1.ofO
  by_cases hl : ns.length < 63
  · rw [if_pos hl] at a1
    obtain ⟨b, ws, rfl, sq, rr⟩ := rel_itemsL q1 rv e1
    rw [rels_ints rr e2] at sq
    cases rx
    obtain ⟨its, r, pl, hz⟩ := I1.list sq
    refine setLi ns (I1.ok.hd C.calm) pl.isList (by simpa using RZ.intsAre_vals r) (by unfold scanBound; omega) fun h' tk c hS hc hk => ?_
    refine args_nil ?_
    have I2 : Inv X pins σ H1 { s1 with heap := h', toks := tk } := I1.kept hk
    refine sorted_set hS (I2.ok.hd C.calm) (by omega) fun s' p' out c' ns' k' g o hp hgt hi hs hm' hl' => ?_
    have es : ns' = sortU ns := sorted_ext hs (sortU_sorted ns) fun j => by rw [hm' j, sortU_mem, decide_eq_true_eq]
    subst es
    have hlen : ((sortU ns).map V.int).length ≤ sizeLine := by rw [List.length_map, hl', sizeLine_eq]; omega
    have hn : H1 p' = none := I2.hok.fresh hp
    have new : ObjOk X.prog X.w (upd H1 p' (.lst ((sortU ns).map V.int))) s'.heap p' (.lst ((sortU ns).map V.int)) := ⟨hlen, out.toList, c', vals_of_ints hi, hgt⟩
    have J : Inv X pins σ (upd H1 p' (.lst ((sortU ns).map V.int))) s' := I2.call' (ch := []) o (Un.laid k' hp hn) (I2.hok.laid k' hp new) (by rw [g]; exact I2.bare) fun _ z => nomatch z
    refine ⟨.ref p', _, J, rfl, ?_⟩
    exact a1 (T1.blk p') (upd H1 p' (.lst ((sortU ns).map V.int))) _ (l1.trans r1.mut (Le.blk hn)) (q1.blk hn) ⟨p', _, rfl, upd_same, fun z => q1.mut.free hn (q1.sub p' z), .inr rfl, l1.was q1.mut hn, rels_ofInts _⟩
  · rw [if_neg hl] at a1; exact a1.elim
end
@[simp ↓] theorem wp_fSortSet {f : Ex} {env : En} {h : HH} {qs : List D → HH → Prop} {e : String → HH → Prop} : Wp qs e (fSortSet f env h) ↔ Wp (fun d h1 => Wo (fun xs => Wo (fun ns => ns.length < 63 ∧ qs ((sortU ns).map D.int) h1) (intsD xs)) (itemsL h1 d)) e (f env h) := by
  unfold fSortSet
  rw [wp_bind]
  exact wp_congr fun d h1 => wp_wo fun xs => wp_wo fun ns => wp_if
def enD (h : HH) (ds : List D) : Option IT := match ds with
  | [.tup xs] => some ⟨numb 0 xs, []⟩
  | [a] => (itemsL h a).map fun xs => ⟨numb 0 xs, chkD a xs⟩
  | _ => none
@[simp] theorem enD_t {h : HH} {xs : List D} : enD h [.tup xs] = some ⟨numb 0 xs, []⟩ := rfl
@[simp] theorem enD_l {h : HH} {xs : List D} : enD h [.lst xs] = some ⟨numb 0 xs, []⟩ := rfl
@[simp ↓] theorem wp_iEnum8 {as : Exs} {env : En} {h : HH} {qi : IT → HH → Prop} {e : String → HH → Prop} : Wp qi e (iEnum8 as env h) ↔ Wp (fun ds h1 => Wo (fun x => qi x h1) (enD h1 ds)) e (as env h) := by
  unfold iEnum8
  rw [wp_bind]
  refine wp_congr fun ds h1 => ?_
  split
  · rfl
  · rename_i a hn
    rw [enD.eq_2 h1 a hn]
    cases itemsL h1 a <;> rfl
  · rename_i h2 h3
    rw [enD.eq_3 h1 ds h2 h3]
    rfl
end Pu

namespace Pu
open PySem PySem.Spec PyProof.Rows L2
section
variable {X : Cx} {W : WX} {k : Nat}
/-! ### xs[::-1] of a list -/
def fRevL (f : Ex) : Exs := fun env h => (f env h).bind fun d h1 => ofO (itemsL h1 d) fun xs => .ok xs.reverse h1
theorem sf_rev {e : Expr} {f : Ex} {j : Nat} {p1 p2 p3 pos : Pos} (he : SE X W e f) : SF X W (.Subscript e (.Slice none none (some (.UnaryOp .USub (.Constant (.int 1) j p1) p2)) p3) pos) (fRevL f) :=
  PE.mono (pe_revL he) fun σ H Q hh => by
    obtain ⟨T, env, h, r1, r2, a⟩ := hh
    refine ⟨T, env, h, r1, r2, a.bind0 fun d h1 T1 H1 v _ l1 q1 rv a1 => ?_⟩
    obtain ⟨xs, e1, a1⟩ := a1.ofO
    obtain ⟨b, ws, rfl, sq, rr⟩ := rel_itemsL q1 rv e1
    refine ⟨b, ws, rfl, sq, fun p hp => ?_⟩
    exact a1 (T1.blk p) (upd H1 p (.lst ws.reverse)) _ (l1.trans r1.mut (Le.blk hp)) (q1.blk hp) ⟨p, _, rfl, upd_same, fun z => q1.mut.free hp (q1.sub p z), .inr rfl, l1.was q1.mut hp, rels_mono (Le.blk hp) q1.mut _ _ (rels_reverse rr)⟩
/-! ### sorted(xs), a list of whole numbers -/
def insM (k : Int) : List Int → List Int
  | [] => [k]
  | a :: l => if k ≤ a then k :: a :: l else a :: insM k l
def sortM (ns : List Int) : List Int := ns.foldr insM []
theorem insM_perm {k : Int} : ∀ l : List Int, (insM k l).Perm (k :: l)
  | [] => .refl _
  | a :: l => by
    unfold insM
    split
    · exact .refl _
    · exact ((insM_perm l).cons a).trans (.swap k a l)
theorem sortM_perm : ∀ ns : List Int, (sortM ns).Perm ns
  | [] => .refl _
  | a :: l => by
    have ih := sortM_perm l
    unfold sortM at ih ⊢
    rw [List.foldr_cons]
    exact (insM_perm _).trans (ih.cons a)
theorem insM_sorted {k : Int} : ∀ {l : List Int}, l.Pairwise (· ≤ ·) → (insM k l).Pairwise (· ≤ ·)
  | [], _ => by simp [insM]
  | a :: l, h => by
    have h' := List.pairwise_cons.mp h
    unfold insM
    split
    · rename_i hk
      refine List.pairwise_cons.mpr ⟨fun b hb => ?_, h⟩
      rcases List.mem_cons.mp hb with e | e
      · rw [e]; exact hk
      · exact Int.le_trans hk (h'.1 b e)
    · rename_i hk
      refine List.pairwise_cons.mpr ⟨fun b hb => ?_, insM_sorted h'.2⟩
      rcases List.mem_cons.mp ((insM_perm l).mem_iff.mp hb) with e | e
      · rw [e]; omega
      · exact h'.1 b e
theorem sortM_sorted : ∀ ns : List Int, (sortM ns).Pairwise (· ≤ ·)
  | [] => by simp [sortM]
  | a :: l => by
    have ih := sortM_sorted l
    unfold sortM at ih ⊢
    rw [List.foldr_cons]
    exact insM_sorted ih
theorem sortedM_ext : ∀ {l m : List Int}, l.Pairwise (· ≤ ·) → m.Pairwise (· ≤ ·) → l.Perm m → l = m
  | [], m, _, _, h => h.nil_eq
  | a :: l, [], _, _, h => by have := h.length_eq; simp at this
  | a :: l, b :: m, h1, h2, h => by
    have h1' := List.pairwise_cons.mp h1
    have h2' := List.pairwise_cons.mp h2
    have e : a = b := by
      have m1 : a ∈ b :: m := h.mem_iff.mp (by simp)
      have m2 : b ∈ a :: l := h.mem_iff.mpr (by simp)
      rcases List.mem_cons.mp m1 with e | e
      · exact e
      · rcases List.mem_cons.mp m2 with e2 | e2
        · exact e2.symm
        · have := h2'.1 a e
          have := h1'.1 b e2
          omega
    subst e
    exact congrArg (a :: ·) (sortedM_ext h1'.2 h2'.2 h.cons_inv)
def fSortI (f : Exs) : Exs := fun env h => (f env h).bind fun ds h1 => ofO (match ds with | [d] => (itemsL h1 d).bind intsD | _ => none) fun ns => .ok ((sortM ns).map D.int) h1
theorem sf_sortI {e : Expr} {f : Exs} {p pos : Pos} (C : Cok X W k) (hg : Gl X "sorted") (hm : X.mg "sorted" = none) (ha : SA X W [e] f)
    (he : starEach [e] X.env = (false, eval e X.env) :: starEach [] X.env := by rfl) (hpl : (backTo pos (starEach [] X.env)).any (·.1) = false := by rfl) : SF X W (.Call (.Name "sorted" p) [e] [] pos) (fSortI f) :=
  PE.mono (pe_callB cr_sortedI hg hm boot_sorted ha.pa (by decide) (by decide) he hpl) fun σ H Q hh => by
    obtain ⟨T, env, h, r1, r2, a⟩ := hh
    refine ⟨T, env, h, r1, r2, a.bind0 fun ds h1 T1 H1 vs e l1 q1 rvs a1 => ?_⟩
    obtain ⟨ns, e1, a2⟩ := After.ofO a1
    split at e1
    · rename_i d
      obtain ⟨v, rfl, rv⟩ := rels_one rvs
      cases e2 : itemsL h1 d with
      | none => rw [e2] at e1; cases e1
      | some xs =>
        rw [e2] at e1
        obtain ⟨b, ws, rfl, sq, rr⟩ := rel_itemsL q1 rv e2
        rw [rels_ints rr e1] at sq
        refine ⟨b, ns, rfl, sq, fun ns' p hp1 hp2 hp => ?_⟩
        have es : ns' = sortM ns := sortedM_ext hp2 (sortM_sorted ns) (hp1.trans (sortM_perm ns).symm)
        subst es
        exact a2 (T1.blk p) (upd H1 p (.lst ((sortM ns).map V.int))) _ (l1.trans r1.mut (Le.blk hp)) (q1.blk hp) ⟨p, _, rfl, upd_same, fun z => q1.mut.free hp (q1.sub p z), .inr rfl, l1.was q1.mut hp, rels_ofInts _⟩
    · cases e1
/-! ### list(range(..)) -/
def fListRg (f : Exs) : Exs := fun env h => (f env h).bind fun ds h1 => ofO (match ds with
  | [.int j] => if 0 ≤ j ∧ j ≤ 16777216 then some (intsL 0 j.toNat) else none
  | [.int i, .int j] => if (0 ≤ i ∧ i ≤ 16777216) ∧ (0 ≤ j ∧ j ≤ 16777216) then some (intsL i (j - i).toNat) else none
  | _ => none) fun xs => .ok xs h1
theorem rels_rg {K : PySem.W.Frag} {T : Tk} {H : Hp} (a b : Int) : rels K T H (intsL a (b - a).toNat) (rgV a b) := by
  have : ∀ l : List Nat, rels K T H (l.map fun i => D.int (a + (i : Nat))) (l.map fun i => V.int (a + (i : Nat))) := fun l => by
    induction l with
    | nil => exact rels_nil
    | cons x l ih => exact rels_cons (rel_int_iff.mpr rfl) ih
  exact this _
theorem sf_listRg1 {a : Expr} {f : Ex} {p p2 pos pos2 : Pos} (C : Cok X W k) (hg : Gl X "list") (hm : X.mg "list" = none) (hg2 : Gl X "range") (hm2 : X.mg "range" = none) (ha : SE X W a f)
    (na : starEach [a] X.env = (false, eval a X.env) :: starEach [] X.env := by rfl)
    (na2 : starEach [.Call (.Name "range" p2) [a] [] pos2] X.env = (false, eval (.Call (.Name "range" p2) [a] [] pos2) X.env) :: starEach [] X.env := by rfl) :
    SF X W (.Call (.Name "list" p) [.Call (.Name "range" p2) [a] [] pos2] [] pos) (fListRg (aCons f aNil)) :=
  PE.mono (pe_listRg C.calm hg hm (prg_1 hg2 hm2 ha na) na2) fun σ H Q hh => by
    obtain ⟨T, env, h, r1, r2, a⟩ := hh
    unfold fListRg aCons aNil at a
    have a : After X.K X.mg W T H σ (qF X.K H) Q ((f env h).bind fun d h1 => ofO (match [d] with
  | [.int j] => if 0 ≤ j ∧ j ≤ 16777216 then some (intsL 0 j.toNat) else none
  | [.int i, .int j] => if (0 ≤ i ∧ i ≤ 16777216) ∧ (0 ≤ j ∧ j ≤ 16777216) then some (intsL i (j - i).toNat) else none
  | _ => none) fun xs => .ok xs h1) := by
      revert a
      cases f env h with
      | ok d h1 => exact fun z => z
      | exc c h1 => exact fun z => z
      | stuck => exact fun z => z
    refine ⟨T, env, h, r1, r2, a.bind0 fun d h1 T1 H1 v _ l1 q1 rv a1 => ?_⟩
    obtain ⟨xs, e1, a2⟩ := After.ofO a1
    cases d with
    | int j =>
      have e1 : (if 0 ≤ j ∧ j ≤ 16777216 then some (intsL 0 j.toNat) else none) = some xs := e1
      by_cases hj : 0 ≤ j ∧ j ≤ 16777216
      · rw [if_pos hj] at e1
        cases e1
        refine ⟨j, rel_int_iff.mp rv, RgOk.of_le (by omega) (by omega) (by omega) (by omega), fun p hp => ?_⟩
        refine a2 (T1.blk p) (upd H1 p (.lst (rgV 0 j))) _ (l1.trans r1.mut (Le.blk hp)) (q1.blk hp) ⟨p, _, rfl, upd_same, fun z => q1.mut.free hp (q1.sub p z), .inr rfl, l1.was q1.mut hp, ?_⟩
        have := rels_rg (K := X.K) (T := T1.blk p) (H := upd H1 p (.lst (rgV 0 j))) 0 j
        rwa [Int.sub_zero] at this
      · rw [if_neg hj] at e1; cases e1
    | _ => cases e1
def lrD (ds : List D) : Option (List D) := match ds with
  | [.int j] => if 0 ≤ j ∧ j ≤ 16777216 then some (intsL 0 j.toNat) else none
  | [.int i, .int j] => if (0 ≤ i ∧ i ≤ 16777216) ∧ (0 ≤ j ∧ j ≤ 16777216) then some (intsL i (j - i).toNat) else none
  | _ => none
@[simp ↓] theorem wp_fListRg {f : Exs} {env : En} {h : HH} {qs : List D → HH → Prop} {e : String → HH → Prop} : Wp qs e (fListRg f env h) ↔ Wp (fun ds h1 => Wo (fun xs => qs xs h1) (lrD ds)) e (f env h) := by
  unfold fListRg
  rw [wp_bind]
  exact wp_congr fun d h1 => wp_ofO
theorem lrD_1 {j : Int} (h : 0 ≤ j ∧ j ≤ 16777216) : lrD [.int j] = some (intsL 0 j.toNat) := if_pos h
@[simp ↓] theorem wp_fSortI {f : Exs} {env : En} {h : HH} {qs : List D → HH → Prop} {e : String → HH → Prop} : Wp qs e (fSortI f env h) ↔ Wp (fun ds h1 => Wo (fun ns => qs ((sortM ns).map D.int) h1) (match ds with | [d] => (itemsL h1 d).bind intsD | _ => none)) e (f env h) := by
  unfold fSortI
  rw [wp_bind]
  exact wp_congr fun d h1 => wp_ofO
end
@[simp ↓] theorem wp_fRevL {f : Ex} {env : En} {h : HH} {qs : List D → HH → Prop} {e : String → HH → Prop} : Wp qs e (fRevL f env h) ↔ Wp (fun d h1 => Wo (fun xs => qs xs.reverse h1) (itemsL h1 d)) e (f env h) := by
  unfold fRevL
  rw [wp_bind]
  exact wp_congr fun d h1 => wp_ofO
end Pu

namespace Pu
open PySem PySem.Spec PyProof.Rows L2

/-! ### repr of tuples, lists, dicts of whole numbers and known words -/
def fineWords : List String := ["rises", "falls", "stays", "numbers", "words", "pairs", "put", "copy", "sum", "more", "less", "turn", "left", "right", "part", "if", "A", "B", "C", "D", "k", "l", "m", "n", "plus", "minus", "stands", "falls", "b", "on", "back", "all", "sums", "steps",
  "Put", "puts", "", "sun", "put ", "0", "a", "If", "put 0 0", "K", "o", "kl", "1", "Plus", "times", "2", "(1, 2)"]
theorem str_app (s t : String) : Str.ofString (s ++ t) = Str.ofString s ++ Str.ofString t := by
  rw [Str.ofString_eq_toList, Str.ofString_eq_toList, Str.ofString_eq_toList]
  show _ = (⟨_ ++ _⟩ : Str)
  congr 1
  simp
theorem fine_repr : ∀ s ∈ fineWords, reprText (Str.ofString s) = Str.ofString ("'" ++ s ++ "'") := by decide +kernel
def joinS : List String → String
  | [] => ""
  | [x] => x
  | x :: y :: r => x ++ ", " ++ joinS (y :: r)
def kS : Ky → String
  | .inl i => toString i
  | .inr s => "'" ++ s ++ "'"
def kP : Ky → PyData
  | .inl i => .int i
  | .inr s => .str (Str.ofString s)
def fineK : Ky → Bool
  | .inl i => decide (i.natAbs < 2 ^ 1900)
  | .inr s => decide (s ∈ fineWords)
mutual
def rS : D → String
  | .int i => toString i
  | .str s => "'" ++ s ++ "'"
  | .bl b => if b then "True" else "False"
  | .non => "None"
  | .tup xs => "(" ++ joinS (rSs xs) ++ (if xs.length == 1 then ",)" else ")")
  | .lst xs => "[" ++ joinS (rSs xs) ++ "]"
  | .frz xs => "[" ++ joinS (rSs xs) ++ "]"
  | .dic kvs => "{" ++ joinS (rSk kvs) ++ "}"
  | _ => ""
def rSs : List D → List String
  | [] => []
  | d :: r => rS d :: rSs r
def rSk : List (Ky × D) → List String
  | [] => []
  | (k, d) :: r => (kS k ++ ": " ++ rS d) :: rSk r
end
mutual
def fineD : D → Bool
  | .int i => decide (i.natAbs < 2 ^ 1900)
  | .str s => decide (s ∈ fineWords)
  | .bl _ => true
  | .non => true
  | .tup xs => fineDs xs
  | .lst xs => fineDs xs
  | .dic kvs => fineDk kvs
  | _ => false
def fineDs : List D → Bool
  | [] => true
  | d :: r => fineD d && fineDs r
def fineDk : List (Ky × D) → Bool
  | [] => true
  | (k, d) :: r => fineK k && (fineD d && fineDk r)
end
mutual
/-- as data, dicts too -/
def toR : D → PyData
  | .non => .none
  | .bl b => .bool b
  | .int i => .int i
  | .str s => .str (Str.ofString s)
  | .tup xs => .tuple (toRs xs)
  | .lst xs => .list (toRs xs)
  | .frz xs => .list (toRs xs)
  | .dic kvs => .dict (toRk kvs)
  | .ref _ => .none
  | .ty _ => .none
  | .xc _ => .none
  | .lam _ _ _ _ _ => .none
  | .tux _ => .none
def toRs : List D → List PyData
  | [] => []
  | d :: ds => toR d :: toRs ds
def toRk : List (Ky × D) → List (PyData × PyData)
  | [] => []
  | (k, d) :: ds => (kP k, toR d) :: toRk ds
end
mutual
/-- no list in it -/
def noL : D → Bool
  | .tup xs => noLs xs
  | .lst _ => false
  | .dic kvs => noLk kvs
  | _ => true
def noLs : List D → Bool
  | [] => true
  | d :: r => noL d && noLs r
def noLk : List (Ky × D) → Bool
  | [] => true
  | (_, d) :: r => noL d && noLk r
end
mutual
/-- no dict in it -/
def noK : D → Bool
  | .tup xs => noKs xs
  | .lst xs => noKs xs
  | .frz xs => noKs xs
  | .dic _ => false
  | _ => true
def noKs : List D → Bool
  | [] => true
  | d :: r => noK d && noKs r
end
theorem joinS_of : ∀ xs : List String, Str.ofString (joinS xs) = Str.join ", " (xs.map Str.ofString)
  | [] => by unfold joinS; rfl
  | [x] => by unfold joinS; rfl
  | x :: y :: r => by
    unfold joinS
    rw [str_app, str_app, joinS_of (y :: r)]
    rfl
theorem log_lt {n : Nat} (h : n < 2 ^ 1900) : n.log2 < 1920 := by
  by_cases h0 : n = 0
  · subst h0; decide
  · exact Nat.lt_of_lt_of_le ((Nat.log2_lt h0).mpr h) (by decide)
theorem rSs_len : ∀ xs : List D, (rSs xs).length = xs.length
  | [] => by unfold rSs; rfl
  | d :: r => by unfold rSs; rw [List.length_cons, List.length_cons, rSs_len r]
theorem shown_kS (k : Ky) (h : fineK k = true) : (kP k).shown = Str.ofString (kS k) := by
  cases k with
  | inl i => unfold kP kS; simp only [PyData.shown]
  | inr s =>
    unfold fineK at h
    rw [decide_eq_true_eq] at h
    unfold kP kS
    simp only [PyData.shown]
    exact fine_repr s h
mutual
theorem shown_rS : ∀ d : D, fineD d = true → (toR d).shown = Str.ofString (rS d)
  | .int i, _ => by unfold toR rS; simp only [PyData.shown]
  | .str s, h => by
    unfold fineD at h
    rw [decide_eq_true_eq] at h
    unfold toR rS
    simp only [PyData.shown]
    exact fine_repr s h
  | .bl b, _ => by unfold toR rS; simp only [PyData.shown]; cases b <;> rfl
  | .non, _ => by unfold toR rS; simp only [PyData.shown]
  | .tup xs, h => by
    unfold fineD at h
    unfold toR rS
    simp only [PyData.shown]
    rw [shown_rSs xs h, str_app, str_app, joinS_of]
    unfold tupleText
    rw [List.length_map, rSs_len]
  | .lst xs, h => by
    unfold fineD at h
    unfold toR rS
    simp only [PyData.shown]
    rw [shown_rSs xs h, str_app, str_app, joinS_of, listText_eq_join]
  | .dic xs, h => by
    unfold fineD at h
    unfold toR rS
    simp only [PyData.shown]
    rw [shown_rSk xs h, str_app, str_app, joinS_of]
    rfl
  | .frz _, h => by unfold fineD at h; cases h
  | .ref _, h => by unfold fineD at h; cases h
  | .ty _, h => by unfold fineD at h; cases h
  | .xc _, h => by unfold fineD at h; cases h
  | .lam _ _ _ _ _, h => by unfold fineD at h; cases h
  | .tux _, h => by unfold fineD at h; cases h
theorem shown_rSs : ∀ ds : List D, fineDs ds = true → PyData.shownAll (toRs ds) = (rSs ds).map Str.ofString
  | [], _ => by unfold toRs rSs; simp only [PyData.shownAll]; rfl
  | d :: r, h => by
    unfold fineDs at h
    rw [Bool.and_eq_true] at h
    unfold toRs rSs
    simp only [PyData.shownAll, List.map_cons]
    rw [shown_rS d h.1, shown_rSs r h.2]
theorem shown_rSk : ∀ ds : List (Ky × D), fineDk ds = true → PyData.shownKv (toRk ds) = (rSk ds).map Str.ofString
  | [], _ => by unfold toRk rSk; simp only [PyData.shownKv]; rfl
  | (k, d) :: r, h => by
    unfold fineDk at h
    rw [Bool.and_eq_true, Bool.and_eq_true] at h
    unfold toRk rSk
    simp only [PyData.shownKv, List.map_cons]
    rw [shown_rS d h.2.1, shown_rSk r h.2.2, shown_kS k h.1, str_app, str_app]
end
theorem showable_k (k : Ky) (h : fineK k = true) : (kP k).showable = true := by
  cases k with
  | inl i =>
    unfold fineK at h
    unfold kP
    simp only [PyData.showable, decide_eq_true_eq] at h ⊢
    exact log_lt h
  | inr s => unfold kP; simp only [PyData.showable]
mutual
theorem showable_fine : ∀ d : D, fineD d = true → (toR d).showable = true
  | .int i, h => by
    unfold fineD at h
    unfold toR
    simp only [PyData.showable, decide_eq_true_eq] at h ⊢
    exact log_lt h
  | .str s, _ => by unfold toR; simp only [PyData.showable]
  | .bl b, _ => by unfold toR; simp only [PyData.showable]
  | .non, _ => by unfold toR; simp only [PyData.showable]
  | .tup xs, h => by
    unfold fineD at h
    unfold toR
    simp only [PyData.showable]
    exact showable_fines xs h
  | .lst xs, h => by
    unfold fineD at h
    unfold toR
    simp only [PyData.showable]
    exact showable_fines xs h
  | .dic xs, h => by
    unfold fineD at h
    unfold toR
    simp only [PyData.showable]
    exact showable_finek xs h
  | .frz _, h => by unfold fineD at h; cases h
  | .ref _, h => by unfold fineD at h; cases h
  | .ty _, h => by unfold fineD at h; cases h
  | .xc _, h => by unfold fineD at h; cases h
  | .lam _ _ _ _ _, h => by unfold fineD at h; cases h
  | .tux _, h => by unfold fineD at h; cases h
theorem showable_fines : ∀ ds : List D, fineDs ds = true → PyData.showableAll (toRs ds) = true
  | [], _ => by unfold toRs; simp only [PyData.showableAll]
  | d :: r, h => by
    unfold fineDs at h
    rw [Bool.and_eq_true] at h
    unfold toRs
    simp only [PyData.showableAll, Bool.and_eq_true]
    exact ⟨showable_fine d h.1, showable_fines r h.2⟩
theorem showable_finek : ∀ ds : List (Ky × D), fineDk ds = true → PyData.showableKv (toRk ds) = true
  | [], _ => by unfold toRk; simp only [PyData.showableKv]
  | (k, d) :: r, h => by
    unfold fineDk at h
    rw [Bool.and_eq_true, Bool.and_eq_true] at h
    unfold toRk
    simp only [PyData.showableKv, Bool.and_eq_true]
    exact ⟨⟨showable_k k h.1, showable_fine d h.2.1⟩, showable_finek r h.2.2⟩
end
mutual
theorem toR_deep : ∀ d : D, (toR d).depth ≤ deep d
  | .non | .bl b | .int i | .str s | .ref _ | .ty _ | .xc _ | .tux _ | .lam _ _ _ _ _ => by unfold toR; simp [PyData.depth]
  | .tup xs => by unfold toR; have := toRs_deep xs; simp only [PyData.depth, deep]; omega
  | .lst xs => by unfold toR; have := toRs_deep xs; simp only [PyData.depth, deep]; omega
  | .frz xs => by unfold toR; have := toRs_deep xs; simp only [PyData.depth, deep]; omega
  | .dic xs => by unfold toR; have := toRk_deep xs; simp only [PyData.depth, deep]; omega
theorem toRs_deep : ∀ ds : List D, PyData.depthAll (toRs ds) ≤ deeps ds
  | [] => by unfold toRs; simp [PyData.depthAll]
  | d :: ds => by unfold toRs; have := toRs_deep ds; have := toR_deep d; simp only [PyData.depthAll, deeps]; omega
theorem toRk_deep : ∀ ds : List (Ky × D), PyData.depthKv (toRk ds) ≤ deepk ds
  | [] => by unfold toRk; simp [PyData.depthKv]
  | (k, d) :: ds => by
    unfold toRk; have := toRk_deep ds; have := toR_deep d
    have : (kP k).depth = 0 := by cases k <;> (unfold kP; simp [PyData.depth])
    simp only [PyData.depthKv, deepk]; omega
end
mutual
theorem hasK : ∀ d : D, noK d = true → (toR d).hasDict = false
  | .non, _ | .bl b, _ | .int i, _ | .str s, _ | .ref _, _ | .ty _, _ | .xc _, _ | .tux _, _ | .lam _ _ _ _ _, _ => by unfold toR; simp only [PyData.hasDict]
  | .tup xs, h => by unfold noK at h; unfold toR; simp only [PyData.hasDict]; exact hasKs xs h
  | .lst xs, h => by unfold noK at h; unfold toR; simp only [PyData.hasDict]; exact hasKs xs h
  | .frz xs, h => by unfold noK at h; unfold toR; simp only [PyData.hasDict]; exact hasKs xs h
  | .dic _, h => by unfold noK at h; cases h
theorem hasKs : ∀ ds : List D, noKs ds = true → PyData.hasDictAll (toRs ds) = false
  | [], _ => by unfold toRs; simp only [PyData.hasDictAll]
  | d :: r, h => by
    unfold noKs at h
    rw [Bool.and_eq_true] at h
    unfold toRs
    simp only [PyData.hasDictAll, Bool.or_eq_false_iff]
    exact ⟨hasK d h.1, hasKs r h.2⟩
end
section
variable {X : Cx} {pins : List (Addr × Obj)} {σ : L2.St} {H : Hp} {s : Shared} {T : Tk}
theorem pairs_reads {h : Heap} {prog : Program} {w : World} : ∀ {es : List DictEntry} {kvs : List (Key × Value)}, Pairs (mixKind prog w) es kvs → ∃ as, as = [] ∧ ReadsAll h (es.map (·.key)) (kvs.map fun p => match p.1 with | .inl i => PyData.int i | .inr x => .str x) as
  | _, _, .nil => ⟨[], rfl, .nil⟩
  | _, _, .cons (e := e) (kv := kv) h1 _ t => by
    obtain ⟨as, rfl, r⟩ := pairs_reads (h := h) t
    rcases keyIs_shape (show keyIs kv.1 e.key = true from h1) with ⟨i, t, h2, h3⟩ | ⟨x, t, h2, h3⟩
    · refine ⟨[], rfl, ?_⟩
      rw [List.map_cons, List.map_cons, h2, h3]
      exact .cons (as := []) (.int i t) r
    · refine ⟨[], rfl, ?_⟩
      rw [List.map_cons, List.map_cons, h2, h3]
      exact .cons (as := []) (.str x t) r
theorem pairs_vals {prog : Program} {w : World} : ∀ {es : List DictEntry} {kvs : List (Key × Value)}, Pairs (mixKind prog w) es kvs → es.map (·.val) = kvs.map (·.2)
  | _, _, .nil => rfl
  | _, _, .cons _ h2 t => by rw [List.map_cons, List.map_cons, h2, pairs_vals t]
mutual
theorem rel_reads (I : Inv X pins σ H s) : ∀ (d : D) (v : V) (u : Value), fineD d = true → rel X.K T H d v → RelV v u → ∃ as, Reads s.heap u (toR d) as ∧ (noL d = true → sysModules ∉ as)
  | .non, v, u, _, r, ru => by unfold rel at r; subst r; cases ru; unfold toR; exact ⟨[], .none, fun _ h => nomatch h⟩
  | .bl b, v, u, _, r, ru => by unfold rel at r; subst r; cases ru; unfold toR; exact ⟨[], .bool b, fun _ h => nomatch h⟩
  | .int i, v, u, _, r, ru => by unfold rel at r; subst r; obtain ⟨t, rfl⟩ := ru; unfold toR; exact ⟨[], .int i t, fun _ h => nomatch h⟩
  | .str i, v, u, _, r, ru => by unfold rel at r; subst r; obtain ⟨t, rfl⟩ := ru; unfold toR; exact ⟨[], .str _ t, fun _ h => nomatch h⟩
  | .tup ds, v, u, f, r, ru => by
    unfold fineD at f
    unfold rel at r
    obtain ⟨a, vs, rfl, sq, rr⟩ := r
    obtain rfl : u = Value.ref a := ru
    obtain ⟨its, rv, ⟨o, h1, h2, n, h3⟩, _⟩ := I.tuple sq.sq
    obtain ⟨as, ra, hs⟩ := rels_reads I ds vs its f rr rv
    unfold toR noL
    exact ⟨as, .tuple h1 h2 h3 (by simpa using ra), hs⟩
  | .lst ds, v, u, f, r, ru => by
    unfold fineD at f
    unfold rel at r
    obtain ⟨a, vs, rfl, sq, nb, rr⟩ := r
    obtain rfl : u = Value.ref a := ru
    obtain ⟨its, rv, pl, _⟩ := I.list (SqL.of sq)
    obtain ⟨o, h1, h2, n, h3⟩ := pl.isList
    obtain ⟨as, ra, hs⟩ := rels_reads I ds vs its f rr rv
    unfold toR noL
    exact ⟨a :: as, .list h1 h2 h3 (by simpa using ra), fun h => nomatch h⟩
  | .dic ds, v, u, f, r, ru => by
    unfold fineD at f
    unfold rel at r
    obtain ⟨a, vs, rfl, sq, nb, rr⟩ := r
    obtain rfl : u = Value.ref a := ru
    obtain ⟨_, ya, va, ra, o, es, ep, ho, hx, hd, _, hp, _⟩ := (show ObjOk X.prog X.w H s.heap a (.dK vs) from I.hok a _ sq)
    obtain ⟨_, rfl, rk⟩ := pairs_reads (h := s.heap) hp
    obtain ⟨as, rv, hs, ek⟩ := relk_reads I ds vs va f rr ra
    unfold toR noL
    have e2 := pairs_vals hp
    rw [← e2] at rv
    rw [ek] at rk
    refine ⟨_, .dict (as := []) ho hx.1 hd rk rv, fun h z => ?_⟩
    rcases List.mem_cons.mp z with z | z
    · rw [← z] at ya; simp at ya
    · exact hs h (by simpa using z)
  | .frz _, _, _, h, _, _ => by unfold fineD at h; cases h
  | .ref _, _, _, h, _, _ => by unfold fineD at h; cases h
  | .ty _, _, _, h, _, _ => by unfold fineD at h; cases h
  | .xc _, _, _, h, _, _ => by unfold fineD at h; cases h
  | .lam _ _ _ _ _, _, _, h, _, _ => by unfold fineD at h; cases h
  | .tux _, _, _, h, _, _ => by unfold fineD at h; cases h
theorem rels_reads (I : Inv X pins σ H s) : ∀ (ds : List D) (vs : List V) (us : List Value), fineDs ds = true → rels X.K T H ds vs → Vals vs us → ∃ as, ReadsAll s.heap us (toRs ds) as ∧ (noLs ds = true → sysModules ∉ as)
  | [], vs, us, _, r, ru => by
    unfold rels at r; subst r; cases ru
    unfold toRs
    exact ⟨[], .nil, fun _ h => nomatch h⟩
  | d :: ds, vs, us, f, r, ru => by
    unfold fineDs at f
    rw [Bool.and_eq_true] at f
    unfold rels at r
    obtain ⟨v, t, rfl, r1, r2⟩ := r
    cases ru with
    | cons a1 t1 =>
      obtain ⟨as, ra, hs⟩ := rel_reads I d _ _ f.1 r1 a1
      obtain ⟨bs, rb, hb⟩ := rels_reads I ds _ _ f.2 r2 t1
      unfold toRs noLs
      refine ⟨as ++ bs, .cons ra rb, fun h z => ?_⟩
      rw [Bool.and_eq_true] at h
      rcases List.mem_append.mp z with z | z
      · exact hs h.1 z
      · exact hb h.2 z
theorem relk_reads (I : Inv X pins σ H s) : ∀ (ds : List (Ky × D)) (vs : List (Key × V)) (us : List (Key × Value)), fineDk ds = true → relk X.K T H ds vs → KV vs us → ∃ as, ReadsAll s.heap (us.map (·.2)) ((toRk ds).map (·.2)) as ∧ (noLk ds = true → sysModules ∉ as) ∧ (us.map fun p => match p.1 with | .inl i => PyData.int i | .inr x => .str x) = (toRk ds).map (·.1)
  | [], vs, us, _, r, ru => by
    unfold relk at r; subst r; cases ru
    unfold toRk
    exact ⟨[], .nil, (fun _ h => nomatch h), rfl⟩
  | (k, d) :: ds, vs, us, f, r, ru => by
    unfold fineDk at f
    rw [Bool.and_eq_true, Bool.and_eq_true] at f
    unfold relk at r
    obtain ⟨v, t, rfl, r1, r2⟩ := r
    cases ru with
    | cons a1 t1 =>
      obtain ⟨as, ra, hs⟩ := rel_reads I d _ _ f.2.1 r1 a1.2
      obtain ⟨bs, rb, hb, ek⟩ := relk_reads I ds _ _ f.2.2 r2 t1
      unfold toRk noLk
      refine ⟨as ++ bs, .cons ra rb, fun h z => ?_, ?_⟩
      · rw [Bool.and_eq_true] at h
        rcases List.mem_append.mp z with z | z
        · exact hs h.1 z
        · exact hb h.2 z
      · rw [List.map_cons, List.map_cons, ek, ← a1.1]
        cases k <;> rfl
end
end
def cRepr (ds : List D) (h : HH) : R D := match ds with
  | [d] => if fineD d = true ∧ (noL d = true ∨ noK d = true) ∧ deep d ≤ 51 ∧ (rS d).length ≤ 16000000 then .ok (.str (rS d)) h else .stuck
  | _ => .stuck
section
variable {X : Cx}
theorem c_repr (gd : X.A.guards = some []) (hu : X.A.units + 65 < cLine) : CallR X (.builtin "repr") (rdC X cRepr) := by
  intro pins s σ H xs us Q I r q
  obtain ⟨T, h, ds, rh, rs, q⟩ := q
  obtain ⟨d, h', e, q⟩ := rdO_ok q
  unfold cRepr at e
  split at e
  · rename_i z
    split at e
    · rename_i hc
      cases e
      obtain ⟨hf, hn, hd, hl⟩ := hc
      obtain ⟨v, rfl, rv⟩ := rels_one rs
      obtain ⟨u, rfl, ru⟩ := vals1 r
      obtain ⟨as, rr, hm⟩ := rel_reads I z v u hf rv ru
      have hz : (toR z).shown.length ≤ sizeLine := by
        rw [shown_rS _ hf, PySem.ofString_length, sizeLine_eq]; omega
      have hd2 : (toR z).depth ≤ 51 := Nat.le_trans (toR_deep _) hd
      have qq := q T H _ Le.refl rh (rel_str_iff.mpr rfl)
      have hsm : (toR z).hasDict = true → sysModules ∉ as := fun hk => by
        rcases hn with hn | hn
        · exact hm hn
        · rw [hasK z hn] at hk; cases hk
      have isref : ∀ a, u = .ref a → wpAny (model X.prog X.w) X.A (call (.builtin "repr") [u]) (EP X pins σ Q) X.xe s := fun a e => by
        subst e
        refine repr_of_reads' rr (showable_fine _ hf) hsm gd (by omega) (fun _ _ z => z) (fun h1 u1 tk hk => ?_) hz
        refine ⟨.str (Str.ofString (rS z)), H, I.kept hk, ?_, qq⟩
        exact ⟨_, by rw [shown_rS _ hf]⟩
      cases z with
      | non =>
        unfold rel at rv; subst rv; cases ru
        exact PySem.P.repr_of_none ⟨.str _, H, I.tok _, ⟨_, rfl⟩, qq⟩
      | bl b =>
        unfold rel at rv; subst rv; cases ru
        cases b <;> exact PySem.P.repr_of_bool ⟨.str _, H, I.tok _, ⟨_, rfl⟩, qq⟩
      | int i =>
        unfold rel at rv; subst rv; obtain ⟨t, rfl⟩ := ru
        unfold fineD at hf
        rw [decide_eq_true_eq] at hf
        exact PySem.P.repr_of_int (log_lt hf) ⟨.str _, H, I.tok _, ⟨_, rfl⟩, qq⟩
      | str x =>
        have e := shown_rS _ hf
        unfold toR at e hz
        simp only [PyData.shown] at e hz
        unfold rel at rv; subst rv; obtain ⟨t, rfl⟩ := ru
        refine PySem.P.repr_of_str ⟨.str _, H, I.tok _, ⟨_, rfl⟩, ?_⟩ hz
        rw [e]
        exact qq
      | tup xs =>
        unfold rel at rv
        obtain ⟨a, vs, rfl, _⟩ := rv
        exact isref a ru
      | lst xs =>
        unfold rel at rv
        obtain ⟨a, vs, rfl, _⟩ := rv
        exact isref a ru
      | dic xs =>
        unfold rel at rv
        obtain ⟨a, vs, rfl, _⟩ := rv
        exact isref a ru
      | frz xs => unfold fineD at hf; cases hf
      | ref xs => unfold fineD at hf; cases hf
      | ty xs => unfold fineD at hf; cases hf
      | xc xs => unfold fineD at hf; cases hf
      | lam f c q ds vs => unfold fineD at hf; cases hf
      | tux xs => unfold fineD at hf; cases hf
    · cases e
  · cases e
end
@[simp] theorem wp_cRepr {xs : List D} {h : HH} {q : D → HH → Prop} {e : String → HH → Prop} : Wp q e (cRepr [.tup xs] h) ↔ (fineD (.tup xs) = true ∧ (noL (.tup xs) = true ∨ noK (.tup xs) = true) ∧ deep (.tup xs) ≤ 51 ∧ (rS (.tup xs)).length ≤ 16000000) ∧ q (.str (rS (.tup xs))) h := wp_if
end Pu

namespace Pu
open PySem PySem.Spec PyProof.Rows L2

/-! ### how long a repr is -/
mutual
def wtD : D → Nat
  | .int _ => 62
  | .str s => s.length + 2
  | .tup xs => 4 + wtDs xs
  | _ => 5
def wtDs : List D → Nat
  | [] => 0
  | d :: r => wtD d + 2 + wtDs r
end
mutual
def smD : D → Bool
  | .int i => decide (i.natAbs < 2 ^ 61)
  | .str s => decide (s ∈ fineWords)
  | .bl _ => true
  | .non => true
  | .tup xs => smDs xs
  | _ => false
def smDs : List D → Bool
  | [] => true
  | d :: r => smD d && smDs r
end
theorem int_len {i : Int} (h : i.natAbs < 2 ^ 61) : (toString i).length ≤ 62 := by
  refine int_text_length_le (k := 61) (by decide) ?_
  by_cases h0 : i.natAbs = 0
  · rw [h0]; decide
  · exact (Nat.log2_lt h0).mpr h
theorem joinS_len : ∀ xs : List String, (joinS xs).length ≤ (xs.map fun s => s.length + 2).sum
  | [] => by unfold joinS; simp
  | [x] => by unfold joinS; simp
  | x :: y :: r => by
    have ih := joinS_len (y :: r)
    unfold joinS
    rw [String.length_append, String.length_append, List.map_cons, List.sum_cons]
    have : (", " : String).length = 2 := rfl
    omega
mutual
theorem rS_len : ∀ d : D, smD d = true → (rS d).length ≤ wtD d
  | .int i, h => by
    unfold smD at h; unfold rS wtD
    exact int_len (by simpa using h)
  | .str s, _ => by
    unfold rS wtD
    rw [String.length_append, String.length_append]
    have : ("'" : String).length = 1 := rfl
    omega
  | .bl b, _ => by unfold rS wtD; cases b <;> decide
  | .non, _ => by unfold rS wtD; decide
  | .tup xs, h => by
    unfold smD at h; unfold rS wtD
    have := rSs_sum xs h
    have := joinS_len (rSs xs)
    rw [String.length_append, String.length_append]
    have h1 : ("(" : String).length = 1 := rfl
    have h2 : (if xs.length == 1 then ",)" else ")" : String).length ≤ 2 := by split <;> decide
    omega
  | .lst _, h => by unfold smD at h; cases h
  | .frz _, h => by unfold smD at h; cases h
  | .dic _, h => by unfold smD at h; cases h
  | .ref _, h => by unfold smD at h; cases h
  | .ty _, h => by unfold smD at h; cases h
  | .xc _, h => by unfold smD at h; cases h
  | .lam _ _ _ _ _, h => by unfold smD at h; cases h
  | .tux _, h => by unfold smD at h; cases h
theorem rSs_sum : ∀ ds : List D, smDs ds = true → ((rSs ds).map fun s => s.length + 2).sum ≤ wtDs ds
  | [], _ => by unfold rSs wtDs; simp
  | d :: r, h => by
    unfold smDs at h
    rw [Bool.and_eq_true] at h
    have := rS_len d h.1
    have := rSs_sum r h.2
    unfold rSs wtDs
    rw [List.map_cons, List.sum_cons]
    omega
end
mutual
theorem fine_sm : ∀ d : D, smD d = true → fineD d = true
  | .int i, h => by
    unfold smD at h; unfold fineD
    simp only [decide_eq_true_eq] at h ⊢
    exact Nat.lt_of_lt_of_le h (Nat.pow_le_pow_right (by decide) (by decide))
  | .str s, h => by unfold smD at h; unfold fineD; exact h
  | .bl b, _ => by unfold fineD; rfl
  | .non, _ => by unfold fineD; rfl
  | .tup xs, h => by unfold smD at h; unfold fineD; exact fines_sm xs h
  | .lst _, h => by unfold smD at h; cases h
  | .frz _, h => by unfold smD at h; cases h
  | .dic _, h => by unfold smD at h; cases h
  | .ref _, h => by unfold smD at h; cases h
  | .ty _, h => by unfold smD at h; cases h
  | .xc _, h => by unfold smD at h; cases h
  | .lam _ _ _ _ _, h => by unfold smD at h; cases h
  | .tux _, h => by unfold smD at h; cases h
theorem fines_sm : ∀ ds : List D, smDs ds = true → fineDs ds = true
  | [], _ => by unfold fineDs; rfl
  | d :: r, h => by
    unfold smDs at h
    rw [Bool.and_eq_true] at h
    unfold fineDs
    rw [fine_sm d h.1, fines_sm r h.2]; rfl
end
mutual
theorem noL_sm : ∀ d : D, smD d = true → noL d = true
  | .int i, h => by unfold noL; rfl
  | .str s, h => by unfold noL; rfl
  | .bl b, _ => by unfold noL; rfl
  | .non, _ => by unfold noL; rfl
  | .tup xs, h => by unfold smD at h; unfold noL; exact noLs_sm xs h
  | .lst _, h => by unfold smD at h; cases h
  | .frz _, h => by unfold smD at h; cases h
  | .dic _, h => by unfold smD at h; cases h
  | .ref _, h => by unfold smD at h; cases h
  | .ty _, h => by unfold smD at h; cases h
  | .xc _, h => by unfold smD at h; cases h
  | .lam _ _ _ _ _, h => by unfold smD at h; cases h
  | .tux _, h => by unfold smD at h; cases h
theorem noLs_sm : ∀ ds : List D, smDs ds = true → noLs ds = true
  | [], _ => by unfold noLs; rfl
  | d :: r, h => by
    unfold smDs at h
    rw [Bool.and_eq_true] at h
    unfold noLs
    rw [noL_sm d h.1, noLs_sm r h.2]; rfl
end
theorem repr_eq {xs : List D} {h : HH} (h1 : smDs xs = true) (h2 : deeps xs ≤ 50) (h3 : wtDs xs ≤ 1000000) : cRepr [.tup xs] h = .ok (.str (rS (.tup xs))) h := by
  have : smD (.tup xs) = true := by unfold smD; exact h1
  have := rS_len _ this
  unfold cRepr
  dsimp only
  unfold wtD at this
  rw [if_pos ⟨by unfold fineD; exact fines_sm xs h1, .inl (by unfold noL; exact noLs_sm xs h1), by unfold deep; omega, by omega⟩]
theorem smDs_of {xs : List D} (h : ∀ d ∈ xs, smD d = true) : smDs xs = true := by
  induction xs with
  | nil => unfold smDs; rfl
  | cons d r ih =>
    unfold smDs
    rw [h d (by simp), ih fun x hx => h x (by simp [hx])]; rfl
theorem wtDs_le {xs : List D} {n : Nat} (h : ∀ d ∈ xs, wtD d ≤ n) : wtDs xs ≤ xs.length * (n + 2) := by
  induction xs with
  | nil => unfold wtDs; simp
  | cons d r ih =>
    unfold wtDs
    have := h d (by simp)
    have := ih fun x hx => h x (by simp [hx])
    rw [List.length_cons, Nat.add_mul]
    omega
theorem deeps_le {xs : List D} {n : Nat} (h : ∀ d ∈ xs, deep d ≤ n) : deeps xs ≤ n := by
  induction xs with
  | nil => simp
  | cons d r ih =>
    have := h d (by simp)
    have := ih fun x hx => h x (by simp [hx])
    simp; omega
theorem isDs_of {xs : List D} (h : ∀ d ∈ xs, isD d = true) : isDs xs = true := by
  induction xs with
  | nil => simp
  | cons d r ih => simp [h d (by simp), ih fun x hx => h x (by simp [hx])]
theorem repr_ints {ns : List Int} {h : HH} (h1 : ∀ n ∈ ns, n.natAbs < 2 ^ 61) (h2 : ns.length ≤ 1000) : cRepr [.tup (ns.map D.int)] h = .ok (.str (rS (.tup (ns.map D.int)))) h := by
  refine repr_eq (smDs_of fun d hd => ?_) (by rw [deeps_ints]; decide) ?_
  · obtain ⟨n, hn, rfl⟩ := List.mem_map.mp hd
    unfold smD
    exact decide_eq_true (h1 n hn)
  · have := wtDs_le (xs := ns.map D.int) (n := 62) fun d hd => by
      obtain ⟨n, hn, rfl⟩ := List.mem_map.mp hd
      unfold wtD; exact Nat.le_refl _
    rw [List.length_map] at this
    omega

/-! ### slices -/
theorem cut_to {α : Type} {xs : List α} {k : Nat} : cut xs none (some (k : Int)) = xs.take k := by
  unfold cut
  rw [HT.sIx_none, HT.sIx_nat, List.drop_zero, Nat.sub_zero]
  by_cases h : k ≤ xs.length
  · rw [Nat.min_eq_left h]
  · rw [Nat.min_eq_right (by omega), List.take_of_length_le (Nat.le_refl _), List.take_of_length_le (by omega)]
theorem cut_from {α : Type} {xs : List α} {k : Nat} : cut xs (some (k : Int)) none = xs.drop k := by
  unfold cut
  rw [HT.sIx_none, HT.sIx_nat]
  by_cases h : k ≤ xs.length
  · rw [Nat.min_eq_left h, List.take_of_length_le (by rw [List.length_drop]; exact Nat.le_refl _)]
  · rw [Nat.min_eq_right (by omega), Nat.sub_self, List.take_zero, List.drop_of_length_le (by omega)]
theorem cut_mid {α : Type} {xs : List α} {i j : Nat} : cut xs (some (i : Int)) (some (j : Int)) = (xs.drop i).take (j - i) := by
  unfold cut
  rw [HT.sIx_nat, HT.sIx_nat]
  by_cases h : i ≤ xs.length
  · rw [Nat.min_eq_left h]
    by_cases h2 : j ≤ xs.length
    · rw [Nat.min_eq_left h2]
    · rw [Nat.min_eq_right (by omega), List.take_of_length_le (by rw [List.length_drop]; omega), List.take_of_length_le (by rw [List.length_drop]; omega)]
  · have e1 : min i xs.length = xs.length := Nat.min_eq_right (by omega)
    rw [e1, List.drop_of_length_le (Nat.le_refl _), List.drop_of_length_le (by omega)]
    simp
@[simp] theorem cut_to_nat {α : Type} {xs : List α} {k : Nat} : cut xs none (some (k : Int)) = xs.take k := cut_to
@[simp] theorem cut_from_nat {α : Type} {xs : List α} {k : Nat} : cut xs (some (k : Int)) none = xs.drop k := cut_from
@[simp] theorem cut_from_succ {α : Type} {xs : List α} {k : Nat} : cut xs (some ((k : Int) + 1)) none = xs.drop (k + 1) := cut_from (k := k + 1)
@[simp] theorem cut_to_lit {α : Type} {xs : List α} {k : Nat} : cut xs none (some (no_index (OfNat.ofNat k : Int))) = xs.take (OfNat.ofNat k) := cut_to (k := k)
@[simp] theorem cut_from_lit {α : Type} {xs : List α} {k : Nat} : cut xs (some (no_index (OfNat.ofNat k : Int))) none = xs.drop (OfNat.ofNat k) := cut_from (k := k)
@[simp] theorem cut_from_one {α : Type} {xs : List α} : cut xs (some 1) none = xs.drop 1 := cut_from (k := 1)
@[simp] theorem cut_to_one {α : Type} {xs : List α} : cut xs none (some 1) = xs.take 1 := cut_to (k := 1)
@[simp] theorem cut_to_zero {α : Type} {xs : List α} : cut xs none (some 0) = [] := cut_to (k := 0)
@[simp] theorem cut_from_zero {α : Type} {xs : List α} : cut xs (some 0) none = xs := by have := cut_from (xs := xs) (k := 0); simpa using this
section
variable {q : D → HH → Prop} {e : String → HH → Prop} {h : HH} {xs : List D} {lo hi : Option Int}
@[simp] theorem wp_slT : Wp q e (opSl (.tup xs) lo hi h) ↔ q (.tup (cut xs lo hi)) h := Iff.rfl
@[simp] theorem wp_slL : Wp q e (opSl (.lst xs) lo hi h) ↔ q (.lst (cut xs lo hi)) h := Iff.rfl
@[simp] theorem wp_slF : Wp q e (opSl (.frz xs) lo hi h) ↔ q (.lst (cut xs lo hi)) h := Iff.rfl
end
/-- what stands at a place -/
def at0 (st : List Int) (a : Nat) : Int := st.getD a 0
theorem at0_mem {st : List Int} {a : Nat} (h : a < st.length) : at0 st a ∈ st := by
  unfold at0
  rw [List.getD_eq_getElem?_getD, List.getElem?_eq_getElem h]
  exact List.getElem_mem h
theorem get_ints {st : List Int} {a : Nat} (h : a < st.length) : (st.map D.int)[a]? = some (.int (at0 st a)) := by
  unfold at0
  rw [List.getElem?_map, List.getElem?_eq_getElem h, List.getD_eq_getElem?_getD, List.getElem?_eq_getElem h]; rfl
theorem set_ints {st : List Int} {a : Nat} {x : Int} (h : a < st.length) : List.take a (st.map D.int) ++ (D.int x :: List.drop (a + 1) (st.map D.int)) = (st.set a x).map D.int := by
  rw [List.map_set, List.set_eq_take_append_cons_drop, if_pos (by simpa using h)]

/-! ### a pen that is a dict -/
def penDO (ns : List Int) (a r : Int) : O := .dic [(.inr "cells", .lst (ns.map D.int)), (.inr "at", .int a), (.inr "left", .int r)]
def PenD (b : Int) (t h : HH) : Prop := ∃ ns a r, h = penDO ns a r :: t ∧ 0 ≤ a ∧ a ≤ b ∧ 0 ≤ r
theorem PenD.le {b c : Int} {t h : HH} (p : PenD b t h) (l : b ≤ c) : PenD c t h := by
  obtain ⟨ns, a, r, e, h1, h2, h3⟩ := p
  exact ⟨ns, a, r, e, h1, by omega, h3⟩
theorem PenD.pure {b : Int} {t h : HH} (p : PenD b t h) (ht : t.all (clO 0) = true) : h.all (clO 0) = true := by
  obtain ⟨ns, a, r, e, h1, h2, h3⟩ := p
  subst e
  rw [List.all_cons, ht, Bool.and_true]
  simp only [penDO, clO, clk, cl, cls_ints, Bool.and_self]
def DrawsD (F : Fn) : Prop := ∀ {b m : Int} {t h : HH} {q : D → HH → Prop}, PenD b t h → b < 1000000 → 0 < m → m < 2 ^ 250 →
  (∀ (k : Nat) h', (k : Int) < m → PenD (b + 1) t h' → q (.int (k : Int)) h') → Wp q noE (F [.ref 0, .int m] h)
theorem DrawsD.of {F : Fn} (w : ∀ {ns : List Int} {a r m : Int} {t : HH} {Q : D → HH → Prop}, 0 ≤ a → a < 1000000 → 0 ≤ r → 0 < m → m < 2 ^ 250 →
    (∀ k a' r', 0 ≤ k → k < m → a ≤ a' → a' ≤ a + 1 → 0 ≤ r' → Q (.int k) (.dic [(.inr "cells", .lst (ns.map D.int)), (.inr "at", .int a'), (.inr "left", .int r')] :: t)) →
    Wp Q noE (F [.ref 0, .int m] (.dic [(.inr "cells", .lst (ns.map D.int)), (.inr "at", .int a), (.inr "left", .int r)] :: t))) : DrawsD F := by
  intro b m t h q p hb hm hm2 k
  obtain ⟨ns, a, r, e, h1, h2, h3⟩ := p
  subst e
  refine w h1 (by omega) h3 hm hm2 fun x a' r' x0 x1 l1 l2 l3 => ?_
  obtain ⟨x', rfl⟩ := Int.eq_ofNat_of_zero_le x0
  exact k x' _ x1 ⟨ns, a', r', rfl, by omega, by omega, l3⟩
/-- a comprehension whose parts draw -/
theorem wp_lcN {c : List (Nat × List D)} {g : Tg} {f : Ex} {env : En} {q : List D → HH → Prop} {e : String → HH → Prop} (I : List D → HH → Prop) (n : Nat) (hn : n ≤ sz) (hc : ∀ acc h, I acc h → chkOk h c = true) (hd : ∀ acc' h, acc'.length = n → I acc' h → q acc' h) :
    ∀ (ds acc : List D) {h : HH}, I acc h → acc.length + ds.length = n →
    (∀ d acc h, d ∈ ds → acc.length < n → I acc h → Wo (fun env1 => Wp (fun y h' => I (acc ++ [y]) h') noE (f env1 h)) (g d env)) → Wp q e (lcGo c g tYesD f env ds acc h)
  | [], acc, h, i0, hl, _ => wp_lc0.mpr ⟨hc _ _ i0, hd acc h (by simpa using hl) i0⟩
  | d :: ds, acc, h, i0, hl, st => by
    rw [List.length_cons] at hl
    refine wp_lc1.mpr ⟨hc _ _ i0, ?_⟩
    have w := st d acc h (by simp) (by omega) i0
    revert w
    cases g d env with
    | none => exact fun w => w
    | some env1 =>
      intro w
      have w : Wp (fun y h' => I (acc ++ [y]) h') noE (f env1 h) := w
      show Wp (fun y h2 => acc.length < sz ∧ Wp q e (lcGo c g tYesD f env ds (acc ++ [y]) h2)) noE (f env1 h)
      refine wp_imp w fun y h' i1 => ⟨by omega, ?_⟩
      exact wp_lcN I n hn hc hd ds (acc ++ [y]) i1 (by rw [List.length_append, List.length_singleton]; omega) fun d acc h hm => st d acc h (by simp [hm])
theorem wp_lcI {c : List (Nat × List D)} {g : Tg} {f : Ex} {env : En} {q : List D → HH → Prop} {e : String → HH → Prop} {ds : List D} {h : HH} (I : List D → HH → Prop) (n : Nat) (i0 : I [] h) (hl : ds.length = n) (hn : n ≤ sz) (hc : ∀ acc h, I acc h → chkOk h c = true)
    (st : ∀ d acc h, d ∈ ds → acc.length < n → I acc h → Wo (fun env1 => Wp (fun y h' => I (acc ++ [y]) h') noE (f env1 h)) (g d env))
    (hd : ∀ acc' h, acc'.length = n → I acc' h → q acc' h) : Wp q e (lcGo c g tYesD f env ds [] h) :=
  wp_lcN I n hn hc hd ds [] i0 (by simpa using hl) st
theorem map_snoc {α β : Type} {f : α → β} {l : List α} {x : α} : l.map f ++ [f x] = (l ++ [x]).map f := by simp
theorem numb_getI : ∀ {xs : List D} {k i : Nat} {d : D}, (numb k xs)[i]? = some d → ∃ x, xs[i]? = some x ∧ d = .tux [.int ((k + i : Nat) : Int), x]
  | [], k, i, d, e => by unfold numb at e; simp at e
  | y :: ys, k, 0, d, e => by unfold numb at e; simp at e; exact ⟨y, rfl, e.symm⟩
  | y :: ys, k, i + 1, d, e => by
    unfold numb at e
    obtain ⟨x, h1, h2⟩ := numb_getI (xs := ys) (k := k + 1) (i := i) (by simpa using e)
    exact ⟨x, by simpa using h1, by rw [h2, show k + 1 + i = k + (i + 1) by omega]⟩
@[simp] theorem numb_length : ∀ {xs : List D} {k : Nat}, (numb k xs).length = xs.length
  | [], k => by unfold numb; rfl
  | y :: ys, k => by unfold numb; rw [List.length_cons, List.length_cons, numb_length]
/-- two ways that join -/
theorem wi_join {K : Ks} {N : En → HH → Prop} (P : En → HH → Prop) {a b : S} {c : Bool} (h1 : c = true → Wb (K.wnx P) a) (h2 : c = false → Wb (K.wnx P) b) (h3 : ∀ env h, P env h → N env h) : Wi (Wb (K.wnx N) a) (Wb (K.wnx N) b) c :=
  wi_of (fun hc => wb_mono (h1 hc) h3 (fun _ _ w => w) (fun _ _ w => w) (fun _ _ w => w) (fun _ _ w => w)) (fun hc => wb_mono (h2 hc) h3 (fun _ _ w => w) (fun _ _ w => w) (fun _ _ w => w) (fun _ _ w => w))
end Pu

namespace Pu
open PySem PySem.Spec PyProof.Rows L2
section
variable {env : En} {h : HH}
/-- a while loop: I holds ahead of each look, by a number that gets less -/
theorem wb_whI {c : Et} {body : Sx} {K : Ks} (I : Nat → En → HH → Prop)
    (st : ∀ m env h, I m env h → Wp (fun b h1 => Wi (Wb ⟨fun e' h' => ∃ m', m' < m ∧ I m' e' h', K.rt, K.nx, fun e' h' => ∃ m', m' < m ∧ I m' e' h', K.ex⟩ (body env h1)) (K.nx env h1) b) K.ex (c env h)) :
    ∀ {n m : Nat} {env : En} {h : HH}, m < n → I m env h → Wb K (sWh n c body env h)
  | 0, m, _, _, hm, _ => absurd hm (by omega)
  | n + 1, m, env, h, hm, i0 => by
    show Wb K (whGo c body (n + 1) env h)
    unfold whGo
    rw [wb_bindS]
    refine wp_mono (st m env h i0) (fun b h1 w => ?_) fun _ _ w => w
    cases b with
    | false => exact w
    | true =>
      rw [if_pos rfl]
      have go : ∀ e' h', (∃ m', m' < m ∧ I m' e' h') → Wb K (whGo c body n e' h') := fun e' h' ⟨m', z, i⟩ => wb_whI I st (n := n) (by omega) i
      revert w
      rw [wi_true]
      cases body env h1 with
      | next env' h' => exact fun w => go _ _ w
      | cont env' h' => exact fun w => go _ _ w
      | brk env' h' => exact fun w => w
      | ret d h' => exact fun w => w
      | exc c env' h' => exact fun w => w
      | stuck => exact fun w => w
/-- a list against the list of none -/
theorem same_nilL {a : D} {xs : List D} (hv : view h a = .lst xs) (hs : seqA h a = some (false, xs)) : same? h a (.lst []) = some xs.isEmpty := by
  unfold same?
  split
  · rename_i hc
    rw [hv]
    have : view h (.lst []) = .lst [] := rfl
    rw [this]
    cases xs with
    | nil => rfl
    | cons x r => unfold eqv toP toPs; rfl
  · unfold sameX
    rw [hs]
    have : seqA h (.lst []) = some (false, []) := rfl
    rw [this]
    dsimp only
    cases xs with
    | nil =>
      rename_i hc
      exfalso
      apply hc
      have : view h (.lst []) = .lst [] := rfl
      rw [hv, this]; decide
    | cons x r => rfl
theorem same_nil {j : Nat} {xs : List D} (e : h[j]? = some (.lst xs)) : same? h (.ref j) (.lst []) = some xs.isEmpty :=
  same_nilL (by unfold view; dsimp only; rw [e]) (by unfold seqA; dsimp only; rw [e])
theorem wo_at {k : Int} {xs : List D} {q : D → Prop} (h0 : 0 ≤ k) (h1 : k < xs.length) (hq : ∀ d ∈ xs, q d) : Wo q (atI xs k) := by
  obtain ⟨x, e, hx⟩ := atI_some h0 h1
  rw [e]; exact hq x hx
theorem wp_at {k : Int} {xs : List D} {q : D → HH → Prop} {e : String → HH → Prop} (h0 : 0 ≤ k) (h1 : k < xs.length) (hq : ∀ d ∈ xs, q d h) : Wp q e (opIxA (.lst xs) (.int k) h) := by
  rw [wp_ixL]
  exact wo_at h0 h1 hq
@[simp] theorem cLst_t {xs : List D} : cLst [.tup xs] h = some xs := rfl
@[simp] theorem cLst_l {xs : List D} : cLst [.lst xs] h = some xs := rfl
@[simp] theorem merD_nil : merD [] = [] := rfl
end
end Pu

namespace Pu
open PySem PySem.Spec PyProof.Rows L2

/-! ### how long the repr of any thing is -/
def wK : Ky → Nat
  | .inl _ => 102
  | .inr s => s.length + 2
def smK : Ky → Bool
  | .inl i => decide (i.natAbs < 2 ^ 100)
  | .inr s => decide (s ∈ fineWords)
mutual
def wR : D → Nat
  | .int _ => 102
  | .str s => s.length + 2
  | .tup xs => 4 + wRs xs
  | .lst xs => 4 + wRs xs
  | .dic xs => 4 + wRk xs
  | _ => 5
def wRs : List D → Nat
  | [] => 0
  | d :: r => wR d + 2 + wRs r
def wRk : List (Ky × D) → Nat
  | [] => 0
  | (k, d) :: r => wK k + 2 + wR d + 2 + wRk r
end
mutual
def smR : D → Bool
  | .int i => decide (i.natAbs < 2 ^ 100)
  | .str s => decide (s ∈ fineWords)
  | .bl _ => true
  | .non => true
  | .tup xs => smRs xs
  | .lst xs => smRs xs
  | .dic xs => smRk xs
  | _ => false
def smRs : List D → Bool
  | [] => true
  | d :: r => smR d && smRs r
def smRk : List (Ky × D) → Bool
  | [] => true
  | (k, d) :: r => smK k && (smR d && smRk r)
end
theorem int_len' {i : Int} (h : i.natAbs < 2 ^ 100) : (toString i).length ≤ 102 := by
  have h2 : i.natAbs.log2 < 100 := by
    by_cases h0 : i.natAbs = 0
    · rw [h0]; decide
    · exact (Nat.log2_lt h0).mpr h
  have := int_text_length_le (k := 100) (by decide) h2
  omega
theorem kS_len {k : Ky} (h : smK k = true) : (kS k).length ≤ wK k := by
  cases k with
  | inl i =>
    unfold smK at h; unfold kS wK
    exact int_len' (by simpa using h)
  | inr s =>
    unfold kS wK
    rw [String.length_append, String.length_append]
    have : ("'" : String).length = 1 := rfl
    show _ ≤ s.length + 2
    omega
mutual
theorem rR_len : ∀ d : D, smR d = true → (rS d).length ≤ wR d
  | .int i, h => by
    unfold smR at h; unfold rS wR
    exact int_len' (by simpa using h)
  | .str s, _ => by
    unfold rS wR
    rw [String.length_append, String.length_append]
    have : ("'" : String).length = 1 := rfl
    omega
  | .bl b, _ => by unfold rS wR; cases b <;> decide
  | .non, _ => by unfold rS wR; decide
  | .tup xs, h => by
    unfold smR at h; unfold rS wR
    have := rRs_sum xs h
    have := joinS_len (rSs xs)
    rw [String.length_append, String.length_append]
    have h1 : ("(" : String).length = 1 := rfl
    have h2 : (if xs.length == 1 then ",)" else ")" : String).length ≤ 2 := by split <;> decide
    omega
  | .lst xs, h => by
    unfold smR at h; unfold rS wR
    have := rRs_sum xs h
    have := joinS_len (rSs xs)
    rw [String.length_append, String.length_append]
    have h1 : ("[" : String).length = 1 := rfl
    have h2 : ("]" : String).length = 1 := rfl
    omega
  | .dic xs, h => by
    unfold smR at h; unfold rS wR
    have := rRk_sum xs h
    have := joinS_len (rSk xs)
    rw [String.length_append, String.length_append]
    have h1 : ("{" : String).length = 1 := rfl
    have h2 : ("}" : String).length = 1 := rfl
    omega
  | .frz _, h => by unfold smR at h; cases h
  | .ref _, h => by unfold smR at h; cases h
  | .ty _, h => by unfold smR at h; cases h
  | .xc _, h => by unfold smR at h; cases h
  | .lam _ _ _ _ _, h => by unfold smR at h; cases h
  | .tux _, h => by unfold smR at h; cases h
theorem rRs_sum : ∀ ds : List D, smRs ds = true → ((rSs ds).map fun s => s.length + 2).sum ≤ wRs ds
  | [], _ => by unfold rSs wRs; simp
  | d :: r, h => by
    unfold smRs at h
    rw [Bool.and_eq_true] at h
    have := rR_len d h.1
    have := rRs_sum r h.2
    unfold rSs wRs
    rw [List.map_cons, List.sum_cons]
    omega
theorem rRk_sum : ∀ ds : List (Ky × D), smRk ds = true → ((rSk ds).map fun s => s.length + 2).sum ≤ wRk ds
  | [], _ => by unfold rSk wRk; simp
  | (k, d) :: r, h => by
    unfold smRk at h
    rw [Bool.and_eq_true, Bool.and_eq_true] at h
    have := rR_len d h.2.1
    have := rRk_sum r h.2.2
    have := kS_len h.1
    unfold rSk wRk
    rw [List.map_cons, List.sum_cons, String.length_append, String.length_append]
    have : (": " : String).length = 2 := rfl
    omega
end
theorem fineK_sm {k : Ky} (h : smK k = true) : fineK k = true := by
  cases k with
  | inl i =>
    unfold smK at h; unfold fineK
    simp only [decide_eq_true_eq] at h ⊢
    exact Nat.lt_of_lt_of_le h (Nat.pow_le_pow_right (by decide) (by decide))
  | inr s => unfold smK at h; unfold fineK; exact h
mutual
theorem fine_smR : ∀ d : D, smR d = true → fineD d = true
  | .int i, h => by
    unfold smR at h; unfold fineD
    simp only [decide_eq_true_eq] at h ⊢
    exact Nat.lt_of_lt_of_le h (Nat.pow_le_pow_right (by decide) (by decide))
  | .str s, h => by unfold smR at h; unfold fineD; exact h
  | .bl b, _ => by unfold fineD; rfl
  | .non, _ => by unfold fineD; rfl
  | .tup xs, h => by unfold smR at h; unfold fineD; exact fines_smR xs h
  | .lst xs, h => by unfold smR at h; unfold fineD; exact fines_smR xs h
  | .dic xs, h => by unfold smR at h; unfold fineD; exact finek_smR xs h
  | .frz _, h => by unfold smR at h; cases h
  | .ref _, h => by unfold smR at h; cases h
  | .ty _, h => by unfold smR at h; cases h
  | .xc _, h => by unfold smR at h; cases h
  | .lam _ _ _ _ _, h => by unfold smR at h; cases h
  | .tux _, h => by unfold smR at h; cases h
theorem fines_smR : ∀ ds : List D, smRs ds = true → fineDs ds = true
  | [], _ => by unfold fineDs; rfl
  | d :: r, h => by
    unfold smRs at h
    rw [Bool.and_eq_true] at h
    unfold fineDs
    rw [fine_smR d h.1, fines_smR r h.2]; rfl
theorem finek_smR : ∀ ds : List (Ky × D), smRk ds = true → fineDk ds = true
  | [], _ => by unfold fineDk; rfl
  | (k, d) :: r, h => by
    unfold smRk at h
    rw [Bool.and_eq_true, Bool.and_eq_true] at h
    unfold fineDk
    rw [fine_smR d h.2.1, finek_smR r h.2.2, fineK_sm h.1]; rfl
end
theorem repr_gen {d : D} {h : HH} (h1 : smR d = true) (h2 : noL d = true ∨ noK d = true) (h3 : deep d ≤ 51) (h4 : wR d ≤ 1000000) : cRepr [d] h = .ok (.str (rS d)) h := by
  have := rR_len d h1
  unfold cRepr
  dsimp only
  rw [if_pos ⟨fine_smR d h1, h2, h3, by omega⟩]
section
variable {xs : List D} {kvs : List (Ky × D)} {d : D} {k : Ky} {i : Int} {s : String} {b : Bool}
@[simp] theorem smR_int : smR (.int i) = decide (i.natAbs < 2 ^ 100) := by unfold smR; rfl
@[simp] theorem smR_str : smR (.str s) = decide (s ∈ fineWords) := by unfold smR; rfl
@[simp] theorem smR_bl : smR (.bl b) = true := by unfold smR; rfl
@[simp] theorem smR_non : smR .non = true := by unfold smR; rfl
@[simp] theorem smR_tup : smR (.tup xs) = smRs xs := by rw [smR]
@[simp] theorem smR_lst : smR (.lst xs) = smRs xs := by rw [smR]
@[simp] theorem smR_dic : smR (.dic kvs) = smRk kvs := by rw [smR]
@[simp] theorem smRs_nil : smRs [] = true := by unfold smRs; rfl
@[simp] theorem smRs_cons : smRs (d :: xs) = (smR d && smRs xs) := by rw [smRs]
@[simp] theorem smRk_nil : smRk [] = true := by unfold smRk; rfl
@[simp] theorem smRk_cons : smRk ((k, d) :: kvs) = (smK k && (smR d && smRk kvs)) := by rw [smRk]
@[simp] theorem noL_int : noL (.int i) = true := by unfold noL; rfl
@[simp] theorem noL_str : noL (.str s) = true := by unfold noL; rfl
@[simp] theorem noL_bl : noL (.bl b) = true := by unfold noL; rfl
@[simp] theorem noL_non : noL .non = true := by unfold noL; rfl
@[simp] theorem noL_tup : noL (.tup xs) = noLs xs := by rw [noL]
@[simp] theorem noL_lst : noL (.lst xs) = false := by rw [noL]
@[simp] theorem noL_dic : noL (.dic kvs) = noLk kvs := by rw [noL]
@[simp] theorem noLs_nil : noLs [] = true := by unfold noLs; rfl
@[simp] theorem noLs_cons : noLs (d :: xs) = (noL d && noLs xs) := by rw [noLs]
@[simp] theorem noLk_nil : noLk [] = true := by unfold noLk; rfl
@[simp] theorem noLk_cons : noLk ((k, d) :: kvs) = (noL d && noLk kvs) := by rw [noLk]
@[simp] theorem noK_int : noK (.int i) = true := by unfold noK; rfl
@[simp] theorem noK_str : noK (.str s) = true := by unfold noK; rfl
@[simp] theorem noK_bl : noK (.bl b) = true := by unfold noK; rfl
@[simp] theorem noK_non : noK .non = true := by unfold noK; rfl
@[simp] theorem noK_tup : noK (.tup xs) = noKs xs := by rw [noK]
@[simp] theorem noK_lst : noK (.lst xs) = noKs xs := by rw [noK]
@[simp] theorem noK_dic : noK (.dic kvs) = false := by rw [noK]
@[simp] theorem noKs_nil : noKs [] = true := by unfold noKs; rfl
@[simp] theorem noKs_cons : noKs (d :: xs) = (noK d && noKs xs) := by rw [noKs]
@[simp] theorem wR_int : wR (.int i) = 102 := by unfold wR; rfl
@[simp] theorem wR_str : wR (.str s) = s.length + 2 := by unfold wR; rfl
@[simp] theorem wR_bl : wR (.bl b) = 5 := by unfold wR; rfl
@[simp] theorem wR_non : wR .non = 5 := by unfold wR; rfl
@[simp] theorem wR_tup : wR (.tup xs) = 4 + wRs xs := by rw [wR]
@[simp] theorem wR_lst : wR (.lst xs) = 4 + wRs xs := by rw [wR]
@[simp] theorem wR_dic : wR (.dic kvs) = 4 + wRk kvs := by rw [wR]
@[simp] theorem wRs_nil : wRs [] = 0 := by unfold wRs; rfl
@[simp] theorem wRs_cons : wRs (d :: xs) = wR d + 2 + wRs xs := by rw [wRs]
@[simp] theorem wK_inl : wK (.inl i) = 102 := rfl
@[simp] theorem wK_inr : wK (.inr s) = s.length + 2 := rfl
@[simp] theorem smK_inl : smK (.inl i) = decide (i.natAbs < 2 ^ 100) := rfl
@[simp] theorem smK_inr : smK (.inr s) = decide (s ∈ fineWords) := rfl
@[simp] theorem deep_dic : deep (.dic kvs) = deepk kvs + 1 := by rw [deep]
@[simp] theorem deepk_nil : deepk [] = 0 := by unfold deepk; rfl
@[simp] theorem deepk_cons : deepk ((k, d) :: kvs) = max (deep d) (deepk kvs) := by rw [deepk]
@[simp] theorem wRk_nil : wRk [] = 0 := by unfold wRk; rfl
@[simp] theorem wRk_cons : wRk ((k, d) :: kvs) = wK k + 2 + wR d + 2 + wRk kvs := by rw [wRk]
end
end Pu

namespace Pu
open PySem PySem.Spec PyProof.Rows L2

/-! ### a dict of the module, texts its keys -/
def kfind : List (String × D) → String → Option D
  | [], _ => none
  | (k, d) :: r, z => if k = z then some d else kfind r z
structure KCn (K : PySem.W.Frag) (w : World) (mg : Str → Option Value) (x : Str) (kvs : List (String × D)) : Prop where
  ex : ∃ (d : Addr) (es : Array DictEntry) (n : Nat), mg x = some (.ref d) ∧ KDict K w d es n ∧ ∀ z : String, match kfind kvs z with
    | some e => ∃ u v, PySem.W.nsIn K d (Str.ofString z) = some (some u) ∧ RelV v u ∧ ∀ T H, rel K T H e v
    | none => PySem.W.nsIn K d (Str.ofString z) = some none
def kGet (kvs : List (String × D)) (d : D) (h : HH) : R D := match d with
  | .str s => ofO (kfind kvs s) fun e => .ok e h
  | _ => .stuck
def kIn (neg : Bool) (kvs : List (String × D)) (d : D) (h : HH) : R D := match d with
  | .str s => .ok (.bl (if neg then !(kfind kvs s).isSome else (kfind kvs s).isSome)) h
  | _ => .stuck
section
variable {X : Cx} {W : WX} {x : Str} {kvs : List (String × D)}
theorem ix_kd {d : Addr} {es : Array DictEntry} {n : Nat} (D : KDict X.K X.w d es n) :
    IxR X (fun x y H Q => ∃ (z : Str) (u0 : Value) (v0 : V), x = .ref d ∧ y = .str z ∧ PySem.W.nsIn X.K d z = some (some u0) ∧ RelV v0 u0 ∧ Q v0 H) := by
  intro value slice pins s σ H x y v u Q I rx ry h hs
  obtain ⟨z, u0, v0, rfl, rfl, e, r, q⟩ := h
  cases rx
  obtain ⟨t, rfl⟩ := ry
  refine tail_any (kd_type D I) PySem.F.slot_dict_getitem.lookup ?_ hs
  exact wpAny_getItem_of (PySem.strKind_is X.prog X.w z t) (PySem.W.mapOf_K (prog := X.prog) I.kIn D.at_ D.lit) (PySem.W.find_K D.at_ e) ⟨v0, H, I.tok _, r, q⟩
theorem se_kget {b : Expr} {g : Ex} {p pos : Pos} (c : KCn X.K X.w X.mg x kvs) (hg : Gl X x) (hb : SE X W b g) (hs : PlainIx b := by exact fun _ _ => rfl) (hdb : (x == ("__debug__" : Str)) = false := by decide) :
    SE X W (.Subscript (.Name x p) b pos) (eUn (kGet kvs) g) := by
  obtain ⟨d, es, n, hm, kd, hv⟩ := c.ex
  refine PE.mono (pe_ix (ix_kd kd) (pe_glob hg hm (v := .ref d) rfl hdb) hb hs) fun σ H Q hh => ?_
  obtain ⟨T, env, h, r1, r2, a⟩ := hh
  show rd X W g σ H _
  refine ⟨T, env, h, r1, r2, a.bind r1.mut fun e h1 T1 H1 v _ l1 q1 rv a1 => ?_⟩
  unfold kGet at a1
  cases e with
  | str z =>
    have hz := hv z
    dsimp only at a1
    cases e2 : kfind kvs z with
    | none =>
      rw [e2] at a1
      exact a1.elim
    | some e3 =>
      rw [e2] at hz a1
      obtain ⟨u, v', h2, h3, h4⟩ := hz
      exact ⟨_, u, v', rfl, rel_str_iff.mp rv, h2, h3, a1 T1 H1 v' Le.refl q1 (h4 T1 H1)⟩
  | _ => exact a1.elim
theorem rd_kin {neg : Bool} {f : Ex} {d : Addr} (hv : ∀ z : String, match kfind kvs z with
    | some e => ∃ u v, PySem.W.nsIn X.K d (Str.ofString z) = some (some u) ∧ RelV v u ∧ ∀ T H, rel X.K T H e v
    | none => PySem.W.nsIn X.K d (Str.ofString z) = some none) {σ : L2.St} {H : Hp} {Q : VK} (hh : rd X W (eUn (kIn neg kvs) f) σ H Q) :
    rd X W f σ H fun x H1 => ∃ (z : Str) (r : Option Value), x = .str z ∧ V.ref d = .ref d ∧ PySem.W.nsIn X.K d z = some r ∧ Q (.bl (if neg then !r.isSome else r.isSome)) H1 := by
  obtain ⟨T, env, h, r1, r2, a⟩ := hh
  refine ⟨T, env, h, r1, r2, a.bind r1.mut fun e h1 T1 H1 v _ l1 q1 rv a1 => ?_⟩
  unfold kIn at a1
  cases e with
  | str z =>
    have hz := hv z
    dsimp only at a1
    have q := a1 T1 H1 _ Le.refl q1 (rel_bl_iff.mpr rfl)
    cases e2 : kfind kvs z with
    | none =>
      rw [e2] at hz q
      exact ⟨_, none, rel_str_iff.mp rv, rfl, hz, q⟩
    | some e3 =>
      rw [e2] at hz q
      obtain ⟨u, v', h2, h3, h4⟩ := hz
      exact ⟨_, some u, rel_str_iff.mp rv, rfl, h2, q⟩
  | _ => exact a1.elim
theorem se_kin {a : Expr} {f : Ex} {p pos : Pos} (c : KCn X.K X.w X.mg x kvs) (hg : Gl X x) (ha : SE X W a f) (hm2 : behindInMarks .In (.Name x p) = false := by first | exact nomark _ | rfl) (hdb : (x == ("__debug__" : Str)) = false := by decide) :
    SE X W (.Compare a [.In] [.Name x p] pos) (eUn (kIn false kvs) f) := by
  obtain ⟨d, es, n, hm, kd, hv⟩ := c.ex
  exact PE.mono (pe_cmpR (op_in_kd kd) ha (pe_glob hg hm (v := .ref d) rfl hdb) hm2) fun σ H Q hh => rd_kin hv hh
theorem se_knin {a : Expr} {f : Ex} {p pos : Pos} (c : KCn X.K X.w X.mg x kvs) (hg : Gl X x) (ha : SE X W a f) (hm2 : behindInMarks .NotIn (.Name x p) = false := by first | exact nomark _ | rfl) (hdb : (x == ("__debug__" : Str)) = false := by decide) :
    SE X W (.Compare a [.NotIn] [.Name x p] pos) (eUn (kIn true kvs) f) := by
  obtain ⟨d, es, n, hm, kd, hv⟩ := c.ex
  exact PE.mono (pe_cmpR (op_notIn_kd kd) ha (pe_glob hg hm (v := .ref d) rfl hdb) hm2) fun σ H Q hh => rd_kin hv hh
theorem st_kin {a : Expr} {f : Ex} {p pos : Pos} (c : KCn X.K X.w X.mg x kvs) (hg : Gl X x) (ha : SE X W a f) (hm2 : behindInMarks .In (.Name x p) = false := by first | exact nomark _ | rfl) (hdb : (x == ("__debug__" : Str)) = false := by decide) :
    ST X W (.Compare a [.In] [.Name x p] pos) (tB (eUn (kIn false kvs) f)) := by
  obtain ⟨d, es, n, hm, kd, hv⟩ := c.ex
  exact PT.mono (pt_cmpR (op_in_kd kd) ha (pe_glob hg hm (v := .ref d) rfl hdb) hm2) fun σ H Q hh => rd_kin hv (rd_tB hh)
theorem st_knin {a : Expr} {f : Ex} {p pos : Pos} (c : KCn X.K X.w X.mg x kvs) (hg : Gl X x) (ha : SE X W a f) (hm2 : behindInMarks .NotIn (.Name x p) = false := by first | exact nomark _ | rfl) (hdb : (x == ("__debug__" : Str)) = false := by decide) :
    ST X W (.Compare a [.NotIn] [.Name x p] pos) (tB (eUn (kIn true kvs) f)) := by
  obtain ⟨d, es, n, hm, kd, hv⟩ := c.ex
  exact PT.mono (pt_cmpR (op_notIn_kd kd) ha (pe_glob hg hm (v := .ref d) rfl hdb) hm2) fun σ H Q hh => rd_kin hv (rd_tB hh)
end
/-! what the top has written there -/
def keyOfE (e : DictEntry) : Option (Str × Int) := match e.key with
  | .str x _ => some (x, e.hash)
  | _ => none
def keysP (P : Params) (ks : List Str) : List (Option (Str × Int)) := ks.map fun k => some (k, PyData.keyHash P k)
theorem keysLit_E {P : Params} : ∀ {l : List DictEntry} {ks : List Str}, l.map keyOfE = keysP P ks → PySem.W.KeysLit P l
  | [], _, _ => trivial
  | e :: r, [], h => by cases h
  | e :: r, k :: ks, h => by
    have h1 : keyOfE e :: r.map keyOfE = some (k, PyData.keyHash P k) :: keysP P ks := h
    injection h1 with h2 h3
    refine ⟨?_, keysLit_E h3⟩
    unfold keyOfE at h2
    split at h2
    · rename_i x t q
      have h4 := Option.some.inj h2
      obtain ⟨h5, h6⟩ := Prod.mk.inj h4
      exact ⟨x, t, q, by rw [h6, h5]⟩
    · cases h2
theorem nsIn_miss {K : PySem.W.Frag} {d : Addr} {oc : Value} {od : Option Addr} {es : Array DictEntry} {n : Nat} {sl : Array (Option Value)} {ks : List Str} {P : Params} (l : K.lookup d = some ⟨oc, od, .dict es n, sl⟩) (e : es.toList.map keyOfE = keysP P ks) {z : Str} (hz : z ∉ ks) : PySem.W.nsIn K d z = some none := by
  unfold PySem.W.nsIn
  rw [l]
  dsimp only
  have key : ∀ (xs : List DictEntry) (ks : List Str), xs.map keyOfE = keysP P ks → z ∉ ks → xs.find? (·.key.isStr z) = none ∧ xs.any (·.refKey) = false := by
    intro xs
    induction xs with
    | nil => intro ks _ _; exact ⟨rfl, rfl⟩
    | cons x xs ih =>
      intro ks e hz
      cases ks with
      | nil => cases e
      | cons k ks =>
        have e : keyOfE x :: xs.map keyOfE = some (k, PyData.keyHash P k) :: keysP P ks := e
        injection e with e1 e2
        obtain ⟨i1, i2⟩ := ih ks e2 fun h => hz (List.mem_cons_of_mem _ h)
        unfold keyOfE at e1
        split at e1
        · rename_i y t q
          obtain ⟨h5, h6⟩ := Prod.mk.inj (Option.some.inj e1)
          have hy : y ≠ z := fun e => hz (by rw [← e, h5]; exact List.mem_cons_self)
          refine ⟨?_, ?_⟩
          · rw [List.find?_cons, q]
            have : (Value.str y t).isStr z = false := by
              unfold Value.isStr
              simp [hy]
            rw [this]
            exact i1
          · rw [List.any_cons, i2]
            unfold DictEntry.refKey
            rw [q]
            rfl
        · cases e1
  obtain ⟨k1, k2⟩ := key _ ks e hz
  rw [k1, k2]
  rfl
def KVals (K : PySem.W.Frag) (q : Addr) : List (String × D) → Prop
  | [] => True
  | (k, d) :: r => (∃ u, PySem.W.nsIn K q (Str.ofString k) = some (some u) ∧ KD K d u) ∧ KVals K q r
theorem kvals_cons {K : PySem.W.Frag} {q : Addr} {k : String} {d : D} {r : List (String × D)} {u : Value} (e : PySem.W.nsIn K q (Str.ofString k) = some (some u)) (h : KD K d u) (t : KVals K q r) : KVals K q ((k, d) :: r) := ⟨⟨u, e, h⟩, t⟩
theorem kfind_some {K : PySem.W.Frag} {q : Addr} {z : String} {e : D} : ∀ {kvs : List (String × D)}, KVals K q kvs → kfind kvs z = some e → ∃ u, PySem.W.nsIn K q (Str.ofString z) = some (some u) ∧ KD K e u
  | [], _, h => by cases h
  | (k, d) :: r, ⟨h1, h2⟩, h => by
    unfold kfind at h
    split at h
    · rename_i hk
      cases h
      rw [← hk]
      exact h1
    · exact kfind_some h2 h
theorem kfind_none {z : String} : ∀ {kvs : List (String × D)}, kfind kvs z = none → Str.ofString z ∉ kvs.map fun p => Str.ofString p.1
  | [], _ => by simp
  | (k, d) :: r, h => by
    unfold kfind at h
    split at h
    · cases h
    · rename_i hk
      rw [List.map_cons, List.mem_cons]
      rintro (e | e)
      · exact hk (ofString_inj e).symm
      · exact kfind_none h e
theorem kcn_mk {w : World} {K : PySem.W.Frag} {h : Heap} {mg : Str → Option Value} {x : Str} {q : Addr} {es : Array DictEntry} {n : Nat} {kvs : List (String × D)} (X : K.In h) (G : h.Ns mainGlobals mg) (y : PySem.W.nsIn K mainGlobals x = some (some (.ref q)))
    (l : K.lookup q = some ⟨.type "dict", none, .dict es n, #[]⟩) (e : es.toList.map keyOfE = keysP w.params (kvs.map fun p => Str.ofString p.1)) (o : (q == sysModules) = false) (v : KVals K q kvs) : KCn K w mg x kvs := by
  refine ⟨q, es, n, PySem.W.mg_of X G y, ⟨l, keysLit_E e, o⟩, fun z => ?_⟩
  cases hz : kfind kvs z with
  | none => exact nsIn_miss l e (kfind_none hz)
  | some d =>
    obtain ⟨u, h1, v', h2, h3⟩ := kfind_some v hz
    exact ⟨u, v', h1, h2, h3.1⟩
@[simp] theorem wp_kGet {kvs : List (String × D)} {s : String} {h : HH} {q : D → HH → Prop} {e : String → HH → Prop} : Wp q e (kGet kvs (.str s) h) ↔ Wo (fun d => q d h) (kfind kvs s) := by
  unfold kGet; dsimp only; rw [wp_ofO]; exact Iff.rfl
@[simp] theorem wp_kIn {kvs : List (String × D)} {s : String} {h : HH} {neg : Bool} {q : D → HH → Prop} {e : String → HH → Prop} : Wp q e (kIn neg kvs (.str s) h) ↔ q (.bl (if neg then !(kfind kvs s).isSome else (kfind kvs s).isSome)) h := Iff.rfl
@[simp] theorem kfind_nil {z : String} : kfind [] z = none := rfl
@[simp] theorem kfind_cons {k z : String} {d : D} {r : List (String × D)} : kfind ((k, d) :: r) z = if k = z then some d else kfind r z := rfl
end Pu

namespace Pu
open PySem PySem.Spec PyProof.Rows L2

/-! ### zip of a text and a tuple -/
def ItzS (K : PySem.W.Frag) (x : Str) (b : Addr) (n : Nat) : It :=
  ⟨fun i H => ∃ (ys : List V) (c : Nat) (y : V), SqT K H b ys ∧ ys.length = n ∧ x.cps[i]? = some c ∧ ys[i]? = some y,
    fun i H v H' => ∃ T c y, v = .ref T ∧ H T = none ∧ H' = upd H T (.tup [.str ⟨#[c]⟩, y]) ∧ x.cps[i]? = some c ∧ ∀ ys, SqT K H b ys → ys[i]? = some y,
    fun i H => ∃ ys : List V, SqT K H b ys ∧ ys.length = n ∧ (x.cps.size ≤ i ∨ n ≤ i)⟩
theorem turn_zipS {P : Program} {w : World} {K : PySem.W.Frag} {elts : List Expr} {kk : Nat} {tpos : Pos} {x : Str} {t : Tok} {b z TI TO i1 i2 : Addr} {n : Nat} (D : ZipSep2 z TI TO i1 i2 [i1] [i2, b]) (hb2 : b ≠ i2) :
    Turn P w K (.Tuple elts kk tpos) (ItzS K x b n) [z, TI, TO, i1, i2] z (fun i h => IsZip h z TI TO .none ∧ IsTupOf2 h TI (.ref i1) (.ref i2) ∧ (∃ x y, IsTupOf2 h TO x y) ∧ h.IsStrIter i1 (strIterType x) x t i ∧ h.IsTupleIter i2 b i ∧ i ≤ x.cps.size ∧ i ≤ n) where
  mem := by simp
  obj := fun i h st c hc => by
    obtain ⟨hz, hTI, ⟨x, y, hTO⟩, ⟨o1, e1, _, d1⟩, ⟨o2, e2, _, d2⟩, _⟩ := st
    have e' : c = z ∨ c = TI ∨ c = TO ∨ c = i1 ∨ c = i2 := by simpa using hc
    rcases e' with q | q | q | q | q
    · rw [q]; exact ⟨_, hz, fun v q => nomatch q⟩
    · rw [q]; exact ⟨_, hTI, fun v q => nomatch q⟩
    · rw [q]; exact ⟨_, hTO, fun v q => nomatch q⟩
    · rw [q]; exact ⟨o1, e1, fun v q => by rw [d1] at q; cases q⟩
    · rw [q]; exact ⟨o2, e2, fun v q => by rw [d2] at q; cases q⟩
  keep := fun i h h' st k => by
    obtain ⟨hz, hTI, ⟨x, y, hTO⟩, ⟨o1, e1, r1⟩, h2, hl⟩ := st
    exact ⟨k z (by simp) _ hz, k TI (by simp) _ hTI, ⟨x, y, k TO (by simp) _ hTO⟩, ⟨o1, k i1 (by simp) _ e1, r1⟩, h2.at fun o q => k i2 (by simp) o q, hl⟩
  item := by
    intro X hP hw hK hc i pins s σ H E I hf st hg
    subst hP hw hK
    obtain ⟨hz, hTI, ⟨x0, y0, hTO⟩, h1, h2, hl1, hl2⟩ := st
    obtain ⟨ys, c, y, hqy, hn, hx, hy⟩ := hg
    obtain ⟨its2, rv2, p2, _⟩ := I.tuple hqy
    obtain ⟨u2, hu2, ru2⟩ := rv2.get hy
    have hzl : z < s.heap.objs.size := Heap.lt_size hz
    have hh : X.A.in1.handled = none := I.ok.hd hc
    have D1 := Draws.text (prog := X.prog) (w := X.w) hh i1 x t
    have D2 := Draws.tuple (prog := X.prog) (w := X.w) hh i2 b hb2 its2.toArray
    have hi1 : i < x.cps.size := (Array.getElem?_eq_some_iff.mp hx).1
    have hi2 : i < its2.toArray.size := by
      have := (List.getElem?_eq_some_iff.mp hu2).1
      simpa using this
    refine wpAny_pyNext_zipD2_item D D1 D2 hz hTI hTO h1 ⟨h2, p2⟩ hi1 hi2 fun x1 x2 h' tk P1 P2 z' TO' st1 st2 hT hsz hk => ?_
    obtain ⟨c', u1, hc', rfl⟩ := P1
    have e1 : c' = c := by rw [hx] at hc'; exact (Option.some.inj hc').symm
    subst e1
    have e2 : x2 = u2 := by
      have h3 : its2[i]? = some x2 := by simpa using P2
      rw [hu2] at h3; exact (Option.some.inj h3).symm
    subst e2
    refine ⟨_, rfl, wpAny_letOwnedTupleGo_zip (s := { s with heap := h', toks := tk }) z' fun h'' z'' sb => ?_⟩
    have hT2 : h''.get? s.heap.objs.size = some { cls := .type "tuple", data := .seq #[.str ⟨#[c']⟩ u1, x2] } := (sb.2 _ (Nat.ne_of_gt hzl)).trans hT
    have new : ObjOk X.prog X.w (upd H s.heap.objs.size (.tup [.str ⟨#[c']⟩, y])) h'' s.heap.objs.size (.tup [.str ⟨#[c']⟩, y]) :=
      ⟨by show 2 ≤ sizeLine; decide, [.str ⟨#[c']⟩ u1, x2], .cons ⟨_, rfl⟩ (.cons ru2 .nil), ⟨_, hT2, rfl, _, rfl⟩⟩
    have I1 : Inv X pins σ (upd H s.heap.objs.size (.tup [.str ⟨#[c']⟩, y])) { s with heap := h'', toks := tk } :=
      I.turnedNew (t' := tk) (ch := [z, TI, TO, i1, i2]) (fun c o hb q => (sb.2 c (fun q' => hb (by simp [q']))).trans (hk c o (fun q' => hb (by simp [q'])) (fun q' => hb (by simp [q'])) (fun q' => hb (by simp [q'])) (fun q' => hb (by simp [q'])) q)) hf (Nat.le_refl _) new
    have i1z : i1 ≠ z := fun e => D.zf1 (by rw [← e]; simp)
    have i2z : i2 ≠ z := fun e => D.zf2 (by rw [← e]; simp)
    refine ⟨.ref s.heap.objs.size, _, I1, rfl, ⟨_, c', y, rfl, I.hok.fresh (Nat.le_refl _), rfl, hx, fun l hl => by rw [I.tuple_inj hl hqy]; exact hy⟩, ⟨z'', ?_, ⟨.str ⟨#[c']⟩ u1, x2, ?_⟩, ?_, ?_, hi1, ?_⟩, fun c hcm => ?_⟩
    · exact (sb.2 _ D.TIz).trans (hk _ _ D.TIz D.TITO D.TIi1 D.TIi2 hTI)
    · exact (sb.2 _ D.TOz).trans TO'
    · obtain ⟨o1, e1, r1⟩ := st1
      exact ⟨o1, (sb.2 _ i1z).trans e1, r1⟩
    · exact st2.1.at fun o q => (sb.2 _ i2z).trans q
    · have := rv2.length
      simp at hi2
      omega
    · have hlt : c < s.heap.objs.size := by
        have e' : c = z ∨ c = TI ∨ c = TO ∨ c = i1 ∨ c = i2 := by simpa using hcm
        rcases e' with q | q | q | q | q
        · rw [q]; exact hzl
        · rw [q]; exact Heap.lt_size hTI
        · rw [q]; exact Heap.lt_size hTO
        · rw [q]; obtain ⟨_, e1, _⟩ := h1; exact Heap.lt_size e1
        · rw [q]; obtain ⟨_, e2, _⟩ := h2; exact Heap.lt_size e2
      rw [upd_ne (Nat.ne_of_lt hlt)]
      exact (hf c hcm).1
  done := by
    intro X hP hw hK hc i pins s σ H E I hf st hg
    subst hP hw hK
    obtain ⟨hz, hTI, ⟨x0, y0, hTO⟩, h1, h2, hl1, hl2⟩ := st
    obtain ⟨ys, hqy, hn, hend⟩ := hg
    obtain ⟨its2, rv2, p2, _⟩ := I.tuple hqy
    have l2 := rv2.length
    have hh : X.A.in1.handled = none := I.ok.hd hc
    have D1 := Draws.text (prog := X.prog) (w := X.w) hh i1 x t
    have D2 := Draws.tuple (prog := X.prog) (w := X.w) hh i2 b hb2 its2.toArray
    exact wpAny_pyNext_zipD2_end D D1 D2 hz hTI hTO h1 ⟨h2, p2⟩ hl1 (by simp; omega) (by simp; omega) fun h' tk hk => ⟨rfl, I.turnedL (t' := tk) (ch := [z, TI, TO, i1, i2]) (fun c o hb q =>
      hk c o (fun q' => hb (by simp [q'])) (fun q' => hb (by simp [q'])) (fun q' => hb (by simp [q'])) (fun q' => hb (by simp [q'])) q) hf⟩
  self := fun A i s Q E st h => wpAny_pyIter_zip st.1 h
def iZipS (K : PySem.W.Frag) (ta : TA) : TI := fun σ H R => ta σ H fun vs H1 => ∃ x b ys, vs = [.str x, .ref b] ∧ SqT K H1 b ys ∧ R (ItzS K x b ys.length) H1
theorem pi_zipS {X : Cx} {e e2 : Expr} {ta : TA} {p pos tpos : Pos} {elts : List Expr} {kk : Nat} (hg : Gl X "zip") (hm : X.mg "zip" = none) (ha : PA X [e, e2] ta)
    (hs : starEach [e, e2] X.env = (false, eval e X.env) :: starEach [e2] X.env := by rfl) (hpl : (backTo pos (starEach [e2] X.env)).any (·.1) = false := by rfl) :
    PI X (.Tuple elts kk tpos) (.Call (.Name "zip" p) [e, e2] [] pos) (iZipS X.K ta) := by
  refine ⟨fun pins s σ H R I h => ?_⟩
  refine Call_ (ld_blt I hg hm PyProof.Rows.boot_zip (PyProof.Rows.callWith_type1 (thn (ha.run pos pins s σ H _ I h) fun us s1 ⟨vs, H1, I1, r1, q1⟩ => ?_) hs hpl))
  obtain ⟨x, b, ys, ex, hqy, q⟩ := q1
  subst ex
  cases r1 with
  | cons r rr =>
    cases rr with
    | cons r' rr =>
      cases rr
      obtain ⟨t, rfl⟩ := r
      cases r'
      have fresh5 : ∀ c, c ∈ [s1.heap.objs.size + 4, s1.heap.objs.size + 2, s1.heap.objs.size + 3, s1.heap.objs.size, s1.heap.objs.size + 1] → FpOk X pins H1 c := fun c hcm => by
        have e' : c = s1.heap.objs.size + 4 ∨ c = s1.heap.objs.size + 2 ∨ c = s1.heap.objs.size + 3 ∨ c = s1.heap.objs.size ∨ c = s1.heap.objs.size + 1 := by simpa using hcm
        have hle : s1.heap.objs.size ≤ c := by
          rcases e' with z | z | z | z | z
          · rw [z]; exact Nat.le_add_right _ _
          · rw [z]; exact Nat.le_add_right _ _
          · rw [z]; exact Nat.le_add_right _ _
          · rw [z]; exact Nat.le_refl _
          · rw [z]; exact Nat.le_add_right _ _
        exact I1.fpOk hle (I1.hok.fresh hle)
      obtain ⟨its2, rv2, p2, _⟩ := I1.tuple hqy
      have hbl : b < s1.heap.objs.size := by obtain ⟨_, q, _⟩ := id p2; exact Heap.lt_size q
      refine zip_begins2 (begins_text x t) (begins_tuple b its2.toArray) trivial p2 fun h' hz hTI hTO h1 h2 hsz hk => wpAny_pyIter_zip hz ?_
      have I2 : Inv X pins σ H1 { s1 with heap := h' } := I1.kept (t' := s1.toks) hk
      exact ⟨s1.heap.objs.size + 4, [s1.heap.objs.size + 4, s1.heap.objs.size + 2, s1.heap.objs.size + 3, s1.heap.objs.size, s1.heap.objs.size + 1], _, _, H1, rfl, I2,
        turn_zipS (t := t) (zip_sep2 (fp1 := []) (fp2 := [b]) (fun _ h => by cases h) (fun c h => by rw [List.mem_singleton.mp h]; exact hbl)) (Nat.ne_of_lt (Nat.lt_succ_of_lt hbl)),
        ⟨hz, hTI, ⟨_, _, hTO⟩, ⟨_, h1, rfl, rfl⟩, ⟨_, h2, rfl, rfl⟩, Nat.zero_le _, Nat.zero_le _⟩, fresh5, q⟩
theorem PI.or2 {X : Cx} {tg e : Expr} {t t1 t2 : TI} (h1 : PI X tg e t1) (h2 : PI X tg e t2) (i : ∀ σ H R, t σ H R → t1 σ H R ∨ t2 σ H R) : PI X tg e t :=
  ⟨fun pins s σ H R I hq => (i σ H R hq).elim (h1.run pins s σ H R I) (h2.run pins s σ H R I)⟩
def chsD (s : String) : List D := s.toList.map chD
def iZipX (f : Exs) : Ei := fun env h => (f env h).bind fun ds h1 => match ds with
  | [.str s, .tup ys] => .ok ⟨zipD (chsD s) ys, []⟩ h1
  | [.tup xs, .tup ys] => .ok ⟨zipD xs ys, []⟩ h1
  | [a, b] => ofO (itemsL h1 a) fun xs => ofO (itemsL h1 b) fun ys => .ok ⟨zipD xs ys, chkD a xs ++ chkD b ys⟩ h1
  | _ => .stuck
section
variable {X : Cx} {W : WX}
theorem wk_zipS {K : PySem.W.Frag} {x : Str} {b : Addr} {n : Nat} : Walk (ItzS K x b n) (min x.cps.size n) (fun H => ∃ vs, vs.length = n ∧ SqT K H b vs)
    (fun i H v H' => ∃ T c y, v = .ref T ∧ H T = none ∧ H' = upd H T (.tup [.str ⟨#[c]⟩, y]) ∧ x.cps[i]? = some c ∧ ∀ ys, SqT K H b ys → ys[i]? = some y) :=
  ⟨fun i _ hi ⟨vs, e, q⟩ => ⟨vs, x.cps[i]'(by omega), vs[i]'(by omega), q, e, Array.getElem?_eq_getElem _, List.getElem?_eq_getElem _⟩,
    fun _ ⟨vs, e, q⟩ => ⟨vs, q, e, by omega⟩, fun _ _ _ _ _ _ y => y⟩
theorem chs_get {s : String} {i c : Nat} (h : (Str.ofString s).cps[i]? = some c) : ∃ d, (chsD s)[i]? = some d ∧ ∀ {K T H}, rel K T H d (.str ⟨#[c]⟩) := by
  have h2 : (Str.ofString s).cps.toList[i]? = some c := by simpa using h
  rw [cps_of, List.getElem?_map] at h2
  cases h3 : s.toList[i]? with
  | none => rw [h3] at h2; cases h2
  | some ch =>
    rw [h3] at h2
    cases h2
    refine ⟨chD ch, by unfold chsD; rw [List.getElem?_map, h3]; rfl, fun {K T H} => ?_⟩
    unfold chD
    rw [rel_str_iff, Str.ofString_eq_toList]
    simp
theorem si_zipX {e1 e2 : Expr} {f : Exs} {p pos tpos : Pos} {elts : List Expr} {kk : Nat} (hg : Gl X "zip") (hm : X.mg "zip" = none) (ha : SA X W [e1, e2] f)
    (hs : starEach [e1, e2] X.env = (false, eval e1 X.env) :: starEach [e2] X.env := by rfl) (hpl : (backTo pos (starEach [e2] X.env)).any (·.1) = false := by rfl) :
    SI X W (.Tuple elts kk tpos) (.Call (.Name "zip" p) [e1, e2] [] pos) (iZipX f) := PI.or2 (pi_zipS hg hm ha.pa hs hpl) (si_zip hg hm ha hs hpl) fun σ H QR hh => by
  obtain ⟨T, env, h, r1, r2, a⟩ := hh
  have key : (∃ s ys h1, f env h = .ok [.str s, .tup ys] h1) ∨ iZipX f env h = iZip8 f env h := by
    unfold iZipX iZip8
    cases e : f env h with
    | ok ds h1 =>
      by_cases hc : ∃ s ys, ds = [.str s, .tup ys]
      · obtain ⟨s, ys, rfl⟩ := hc
        exact .inl ⟨s, ys, h1, rfl⟩
      · right
        rcases ds with _ | ⟨a, _ | ⟨b, _ | ⟨c, r⟩⟩⟩
        · rfl
        · cases a <;> rfl
        · cases a <;> first | rfl | (cases b <;> first | rfl | exact absurd ⟨_, _, rfl⟩ hc)
        · cases a <;> first | rfl | (cases b <;> rfl)
    | exc c h1 => exact .inr rfl
    | stuck => exact .inr rfl
  rcases key with ⟨s, ys, h1, e⟩ | e
  · left
    refine ⟨T, env, h, r1, r2, ?_⟩
    have a : After X.K X.mg W T H σ (Itr8 X.K) QR ((f env h).bind fun ds h1 => match ds with
      | [.str s, .tup ys] => R.ok ⟨zipD (chsD s) ys, []⟩ h1
      | [.tup xs, .tup ys] => .ok ⟨zipD xs ys, []⟩ h1
      | [a, b] => ofO (itemsL h1 a) fun xs => ofO (itemsL h1 b) fun ys => .ok ⟨zipD xs ys, chkD a xs ++ chkD b ys⟩ h1
      | _ => .stuck) := a
    refine a.bind r1.mut fun ds h1 T1 H1 vs e' l1 q1 rvs a1 => ?_
    rw [e] at e'
    cases e'
    dsimp only at a1
    obtain ⟨v, u, rfl, rv, ru⟩ := rels_two rvs
    obtain ⟨p2, rfl, s2⟩ := tup_stay q1 ru
    obtain ⟨vs2, t2, w2⟩ := s2 T1 H1 Le.refl
    refine ⟨_, p2, vs2, by rw [rel_str_iff.mp rv], t2, After.done a1 q1 ?_⟩
    have hl : (Str.ofString s).cps.size = (chsD s).length := by
      have : (Str.ofString s).cps.toList.length = s.toList.length := by rw [cps_of, List.length_map]
      unfold chsD
      rw [List.length_map, ← this, Array.length_toList]
    have hl2 : vs2.length = ys.length := rels_length w2
    refine ⟨_, _, by rw [zipD_len, ← hl, ← hl2]; exact wk_zipS, fun T3 H3 h3 l3 r3 hc => ?_, fun i H3 x H' hi y T3 h3 l3 r3 hc => ?_⟩
    · obtain ⟨ws2, t2, r2⟩ := s2 T3 H3 l3
      exact ⟨ws2, by rw [rels_length r2, hl2], t2⟩
    · obtain ⟨ws2, t2, w2⟩ := s2 T3 H3 l3
      obtain ⟨T', c', y', rfl, hp, rfl, y1, y2⟩ := y
      obtain ⟨d1, g1, k1⟩ := chs_get y1
      obtain ⟨d2, g2, k2⟩ := rels_back w2 (y2 _ t2)
      obtain ⟨z1, z2, z3⟩ := Le.tup r3 hp (rels_cons k1 (rels_cons k2 rels_nil)) rfl
      exact ⟨_, zipD_get g1 g2, z1, z2, z3⟩
  · right
    exact ⟨T, env, h, r1, r2, by rw [← e]; exact a⟩
end
def zpX (h : HH) (ds : List D) : Option IT := match ds with
  | [.str s, .tup ys] => some ⟨zipD (chsD s) ys, []⟩
  | ds => zpD h ds
@[simp ↓] theorem wp_iZipX {f : Exs} {env : En} {h : HH} {qi : IT → HH → Prop} {e : String → HH → Prop} : Wp qi e (iZipX f env h) ↔ Wp (fun ds h1 => Wo (fun x => qi x h1) (zpX h1 ds)) e (f env h) := by
  unfold iZipX
  rw [wp_bind]
  refine wp_congr fun ds h1 => ?_
  have z : ∀ a b : D, Wp qi e (match [a, b] with
    | [.str s, .tup ys] => R.ok (IT.mk (zipD (chsD s) ys) []) h1
    | [.tup xs, .tup ys] => R.ok (IT.mk (zipD xs ys) []) h1
    | [a, b] => ofO (itemsL h1 a) fun xs => ofO (itemsL h1 b) fun ys => R.ok (IT.mk (zipD xs ys) (chkD a xs ++ chkD b ys)) h1
    | _ => R.stuck) ↔ Wo (fun x => qi x h1) (zpX h1 [a, b]) := fun a b => by
    have g : ∀ o1 o2 : Option (List D), Wp qi e (ofO o1 fun xs => ofO o2 fun ys => R.ok (IT.mk (zipD xs ys) (chkD a xs ++ chkD b ys)) h1) ↔ Wo (fun x => qi x h1) (o1.bind fun xs => o2.map fun ys => IT.mk (zipD xs ys) (chkD a xs ++ chkD b ys)) := fun o1 o2 => by
      cases o1 <;> cases o2 <;> rfl
    cases a <;> first | exact g _ _ | (cases b <;> first | rfl | exact g _ _)
  rcases ds with _ | ⟨a, _ | ⟨b, _ | ⟨c, r⟩⟩⟩
  · rfl
  · cases a <;> rfl
  · exact z a b
  · cases a <;> first | rfl | (cases b <;> rfl)
@[simp] theorem zpX_st {h : HH} {s : String} {ys : List D} : zpX h [.str s, .tup ys] = some ⟨zipD (chsD s) ys, []⟩ := rfl
@[simp] theorem zpX_tt {h : HH} {xs ys : List D} : zpX h [.tup xs, .tup ys] = some ⟨zipD xs ys, []⟩ := rfl
@[simp] theorem zpX_ll {h : HH} {xs ys : List D} : zpX h [.lst xs, .lst ys] = some ⟨zipD xs ys, []⟩ := rfl
@[simp] theorem chs_bn : chsD "bn" = [.str "b", .str "n"] := rfl
@[simp] theorem chs_bb : chsD "bb" = [.str "b", .str "b"] := rfl
@[simp] theorem chs_b : chsD "b" = [.str "b"] := rfl
@[simp] theorem same_tnil {h : HH} {xs : List D} : same? h (.tup xs) (.tup []) = some xs.isEmpty := by
  have hv : ∀ xs, view h (.tup xs) = .tup xs := fun _ => rfl
  unfold same?
  rw [hv, hv]
  split
  · cases xs with
    | nil => rfl
    | cons x r => unfold eqv toP toPs; rfl
  · unfold sameX
    rw [show seqA h (.tup xs) = some (true, xs) from rfl, show seqA h (.tup []) = some (true, []) from rfl]
    cases xs <;> rfl
theorem lenD_str {h : HH} {s : String} (e : s.length ≤ sz) : lenD h (.str s) = some s.length := if_pos e
@[simp] theorem lenD_bn {h : HH} : lenD h (.str "bn") = some 2 := lenD_str (by decide)
@[simp] theorem lenD_bb {h : HH} : lenD h (.str "bb") = some 2 := lenD_str (by decide)
@[simp] theorem lenD_b {h : HH} : lenD h (.str "b") = some 1 := lenD_str (by decide)
end Pu

namespace Pu
open PySem PySem.Spec PyProof.Rows L2

/-! ### sorted texts -/
abbrev keyS (s : String) : List Nat := (Str.ofString s).cps.toList
theorem keyS_inj {s t : String} (h : keyS s = keyS t) : s = t := ofString_inj (by
  have : (Str.ofString s).cps = (Str.ofString t).cps := Array.toList_inj.mp h
  cases h1 : Str.ofString s; cases h2 : Str.ofString t
  rw [h1, h2] at this
  simpa using this)
def leS (s t : String) : Bool := !decide (keyS t < keyS s)
theorem leS_total {s t : String} (h : leS s t = false) : leS t s = true := by
  simp only [leS, Bool.not_eq_false', decide_eq_true_eq, Bool.not_eq_true', decide_eq_false_iff_not] at h ⊢
  exact List.lt_asymm h
theorem leS_anti {s t : String} (h1 : leS s t = true) (h2 : leS t s = true) : s = t := by
  simp only [leS, Bool.not_eq_true', decide_eq_false_iff_not] at h1 h2
  exact keyS_inj (List.le_antisymm (List.not_lt.mp h1) (List.not_lt.mp h2))
theorem leS_trans {s t u : String} (h1 : leS s t = true) (h2 : leS t u = true) : leS s u = true := by
  simp only [leS, Bool.not_eq_true', decide_eq_false_iff_not] at h1 h2 ⊢
  exact List.not_lt.mpr (List.le_trans (List.not_lt.mp h1) (List.not_lt.mp h2))
/-- in order, by a rule -/
def insR {α : Type} (le : α → α → Bool) (k : α) : List α → List α
  | [] => [k]
  | a :: l => if le k a = true then k :: a :: l else a :: insR le k l
def sortR {α : Type} (le : α → α → Bool) (xs : List α) : List α := xs.foldr (insR le) []
section
variable {α : Type} {le : α → α → Bool}
theorem insR_perm {k : α} : ∀ l : List α, (insR le k l).Perm (k :: l)
  | [] => .refl _
  | a :: l => by
    unfold insR
    split
    · exact .refl _
    · exact ((insR_perm l).cons a).trans (.swap k a l)
theorem sortR_perm : ∀ xs : List α, (sortR le xs).Perm xs
  | [] => .refl _
  | a :: l => by
    have ih := sortR_perm l
    unfold sortR at ih ⊢
    rw [List.foldr_cons]
    exact (insR_perm _).trans (ih.cons a)
theorem insR_sorted (tot : ∀ a b, le a b = false → le b a = true) (tr : ∀ a b c, le a b = true → le b c = true → le a c = true) {k : α} : ∀ {l : List α}, l.Pairwise (fun a b => le a b = true) → (insR le k l).Pairwise (fun a b => le a b = true)
  | [], _ => by simp [insR]
  | a :: l, h => by
    have h' := List.pairwise_cons.mp h
    unfold insR
    split
    · rename_i hk
      refine List.pairwise_cons.mpr ⟨fun b hb => ?_, h⟩
      rcases List.mem_cons.mp hb with e | e
      · rw [e]; exact hk
      · exact tr _ _ _ hk (h'.1 b e)
    · rename_i hk
      refine List.pairwise_cons.mpr ⟨fun b hb => ?_, insR_sorted tot tr h'.2⟩
      rcases List.mem_cons.mp ((insR_perm l).mem_iff.mp hb) with e | e
      · rw [e]; exact tot _ _ (by simpa using hk)
      · exact h'.1 b e
theorem sortR_sorted (tot : ∀ a b, le a b = false → le b a = true) (tr : ∀ a b c, le a b = true → le b c = true → le a c = true) : ∀ xs : List α, (sortR le xs).Pairwise (fun a b => le a b = true)
  | [] => by simp [sortR]
  | a :: l => by
    have ih := sortR_sorted tot tr l
    unfold sortR at ih ⊢
    rw [List.foldr_cons]
    exact insR_sorted tot tr ih
theorem perm_ext (anti : ∀ a b, le a b = true → le b a = true → a = b) : ∀ {l m : List α}, l.Pairwise (fun a b => le a b = true) → m.Pairwise (fun a b => le a b = true) → l.Perm m → l = m
  | [], m, _, _, h => h.nil_eq
  | a :: l, [], _, _, h => by have := h.length_eq; simp at this
  | a :: l, b :: m, h1, h2, h => by
    have h1' := List.pairwise_cons.mp h1
    have h2' := List.pairwise_cons.mp h2
    have e : a = b := by
      have m1 : a ∈ b :: m := h.mem_iff.mp (by simp)
      have m2 : b ∈ a :: l := h.mem_iff.mpr (by simp)
      rcases List.mem_cons.mp m1 with e | e
      · exact e
      · rcases List.mem_cons.mp m2 with e2 | e2
        · exact e2.symm
        · exact anti _ _ (h1'.1 b e2) (h2'.1 a e)
    subst e
    exact congrArg (a :: ·) (perm_ext anti h1'.2 h2'.2 h.cons_inv)
theorem sortR_mem {xs : List α} {a : α} : a ∈ sortR le xs ↔ a ∈ xs := (sortR_perm xs).mem_iff
theorem sortR_length {xs : List α} : (sortR le xs).length = xs.length := (sortR_perm xs).length_eq
end
def sortS (xs : List String) : List String := sortR leS xs
theorem sortS_sorted (xs : List String) : (sortS xs).Pairwise (fun a b => leS a b = true) := sortR_sorted (le := leS) (fun _ _ h => leS_total h) (fun _ _ _ h h' => leS_trans h h') xs
theorem rising_all : ∀ (p : Str) (l : List Str), risingS p l = true → (p :: l).Pairwise (fun a b => ltCps b.cps.toList a.cps.toList = false) 
  | p, [], _ => by simp
  | p, x :: r, h => by
    have h : (!ltCps x.cps.toList p.cps.toList && risingS x r) = true := h
    rw [Bool.and_eq_true] at h
    have ih := rising_all x r h.2
    refine List.pairwise_cons.mpr ⟨fun b hb => ?_, ih⟩
    have h1 : ltCps x.cps.toList p.cps.toList = false := by simpa using h.1
    rcases List.mem_cons.mp hb with e | e
    · rw [e]; exact h1
    · have h2 := (List.pairwise_cons.mp ih).1 b e
      rw [ltCps_eq] at h1 h2 ⊢
      simp only [decide_eq_false_iff_not] at h1 h2 ⊢
      exact List.not_lt.mpr (List.le_trans (List.not_lt.mp h1) (List.not_lt.mp h2))
theorem sortedS_all : ∀ l : List Str, sortedS l = true → l.Pairwise (fun a b => ltCps b.cps.toList a.cps.toList = false)
  | [], _ => by simp
  | x :: r, h => rising_all x r h
def strsD : List D → Option (List String)
  | [] => some []
  | .str s :: ds => (strsD ds).map (s :: ·)
  | _ :: _ => none
theorem rels_txts {K T H} : ∀ {ds : List D} {vs : List V} {ss : List String}, rels K T H ds vs → strsD ds = some ss → vs = (ss.map Str.ofString).map V.str
  | [], vs, ns, r, e => by unfold rels at r; unfold strsD at e; cases e; rw [r]; rfl
  | d :: ds, vs, ns, r, e => by
    unfold rels at r
    obtain ⟨v, t, rfl, r1, r2⟩ := r
    unfold strsD at e
    split at e
    · rename_i heq; cases heq
    · rename_i i ds' heq
      cases heq
      cases e2 : strsD ds with
      | none => rw [e2] at e; cases e
      | some ms =>
        rw [e2] at e; cases e
        rw [rels_txts r2 e2]
        unfold rel at r1
        rw [r1]; rfl
    · cases e
theorem rels_ofStrs {K : PySem.W.Frag} {T : Tk} {H : Hp} : ∀ ss : List String, rels K T H (ss.map D.str) ((ss.map Str.ofString).map V.str)
  | [] => rels_nil
  | s :: ss => rels_cons (by unfold rel; rfl) (rels_ofStrs ss)
/-- a list of the texts in order is the one -/
theorem sortS_of {ss : List String} {ys : List Str} (hp : ys.Perm (ss.map Str.ofString)) (hs : sortedS ys = true) : ys = (sortS ss).map Str.ofString := by
  have h1 : ∀ y ∈ ys, ∃ s, Str.ofString s = y := fun y hy => by
    obtain ⟨s, _, e⟩ := List.mem_map.mp (hp.mem_iff.mp hy)
    exact ⟨s, e⟩
  obtain ⟨zs, rfl⟩ : ∃ zs : List String, ys = zs.map Str.ofString := by
    clear hp hs
    induction ys with
    | nil => exact ⟨[], rfl⟩
    | cons y ys ih =>
      obtain ⟨s, e⟩ := h1 y (by simp)
      obtain ⟨zs, e2⟩ := ih fun z hz => h1 z (by simp [hz])
      exact ⟨s :: zs, by rw [e2, ← e]; rfl⟩
  have hp' : zs.Perm ss := by
    have inj : Function.Injective Str.ofString := fun a b e => ofString_inj e
    have key : ∀ (l m : List String), (l.map Str.ofString).Perm (m.map Str.ofString) → l.Perm m := fun l m h => by
      rw [List.perm_iff_count] at h ⊢
      intro a
      have e1 : ∀ l : List String, (l.map Str.ofString).count (Str.ofString a) = l.count a := fun l => by
        induction l with
        | nil => rfl
        | cons x l ih =>
          rw [List.map_cons, List.count_cons, List.count_cons, ih]
          by_cases hx : x = a
          · subst hx; simp
          · have : ¬ Str.ofString x = Str.ofString a := fun z => hx (ofString_inj z)
            simp [hx, this]
      rw [← e1, ← e1]; exact h _
    exact key _ _ hp
  refine congrArg (List.map Str.ofString) (perm_ext (fun _ _ => leS_anti) ?_ (sortS_sorted ss) (hp'.trans (sortR_perm ss).symm))
  have := sortedS_all _ hs
  rw [List.pairwise_map] at this
  refine this.imp fun {a b} h => ?_
  rw [ltCps_eq] at h
  unfold leS
  rw [h]; rfl

/-! ### sets of texts -/
theorem txs_get : ∀ {vs : List Value} {ss : List Str}, StrsAre vs ss → ∀ (i : Nat) (v : Value), vs[i]? = some v → ∃ k t, ss[i]? = some k ∧ v = .str k t := by
  intro vs ss h
  induction h with
  | nil => intro i v h; simp at h
  | cons x t r ih =>
    intro i v h
    cases i with
    | zero => simp at h; exact ⟨x, t, rfl, h.symm⟩
    | succ i => simpa using ih i v (by simpa using h)
theorem perm_of_sub {α : Type} [BEq α] [LawfulBEq α] : ∀ {l m : List α}, l.Nodup → (∀ k ∈ l, k ∈ m) → m.length ≤ l.length → m.Perm l
  | [], m, _, _, h => by
    have : m = [] := List.eq_nil_of_length_eq_zero (by simpa using h)
    rw [this]
  | a :: l, m, nd, sub, h => by
    have nd' := List.nodup_cons.mp nd
    have ha : a ∈ m := sub a (by simp)
    have p := List.perm_cons_erase ha
    refine p.trans ((perm_of_sub nd'.2 (fun k hk => ?_) ?_).cons a)
    · exact (List.mem_erase_of_ne (fun (z : k = a) => nd'.1 (z ▸ hk))).mpr (sub k (by simp [hk]))
    · have := p.length_eq
      simp at this h ⊢
      omega
structure TxAt (P : Program) (w : World) (h : Heap) (a : Addr) (D : Froz.SD) (l : List Str) : Prop where
  at_ : h.get? a = some (Froz.sObj "set" D)
  ok : Froz.TxOk P w D l
  nd : l.Nodup
  ris : Ris D.2.2.place.toList
  led : w.params.followText "set-order" = true ∨ D.2.2.led = true
theorem tailTx_ris {ep : Nat} {es1 : Array (Int × Value)} {t2 : SetTable} {wd : Bool} (r : Ris t2.place.toList) : Ris (Froz.tailTx ep es1 t2 wd).2.2.place.toList := by
  unfold Froz.tailTx
  split
  · exact relayAll_ris ..
  · exact r
theorem tailTx_led {ep : Nat} {es1 : Array (Int × Value)} {t2 : SetTable} {wd : Bool} : (Froz.tailTx ep es1 t2 wd).2.2.led = t2.led := by
  unfold Froz.tailTx
  split
  · exact relayAll_led ..
  · rfl
theorem addTx_ris {h : Int} {v : Value} {D : Froz.SD} (r : Ris D.2.2.place.toList) : Ris (Froz.addTx h v D).2.2.place.toList := by
  have r1 := layNew_ris D.2.2 D.1 h v r
  unfold Froz.addTx
  refine tailTx_ris ?_
  split <;> exact r1
theorem addTx_led {h : Int} {v : Value} {D : Froz.SD} : (Froz.addTx h v D).2.2.led = D.2.2.led := by
  have r1 := layNew_led D.2.2 D.1 h v
  unfold Froz.addTx
  rw [tailTx_led]
  split <;> exact r1
section
variable {Pg : Program} {wd : World} {Ar : Around} {Ee : Value → Shared → Prop} {st : Shared}
theorem tx_add {a : Addr} {D : Froz.SD} {l : List Str} {k : Str} {u : Tok} {Qp : Bool → Shared → Prop} (F : TxAt Pg wd st.heap a D l) (hb : l.length + 1 < scanBound)
    (fin : ∀ h' D' l' b, Heap.SameBut a st.heap h' → TxAt Pg wd h' a D' l' → (∀ j, j ∈ l' ↔ j = k ∨ j ∈ l) → l'.length ≤ l.length + 1 → Qp b { st with heap := h' }) :
    wpAny (model Pg wd) Ar (setAddHashed a (.str k u) (hashStr wd k)) Qp Ee st := by
  by_cases hk : k ∈ l
  · have ho := F.at_
    have hd : (Froz.sObj "set" D).data = .set D.1 D.2.1 D.2.2 := rfl
    have hel := F.ok.el
    have hz : D.1.size < scanBound := by have := F.ok.sz; omega
    have kis : (PySem.strKind Pg wd).is k (.str k u) = true := Froz.is_str k u
    unfold setAddHashed setAddHashedIn
    refine wpAny_holding (wpAny_bind (wpAny_setState_of ho hd F.ok.fit ?_))
    dsimp only
    rw [byScan_of rfl hz hel]
    simp only [↓reduceIte]
    unfold setAddByScan
    refine wpAny_bind ?_
    refine wpAny_bind (wpAny_rule ?_)
    refine wpAny_bind (wpAny_setScan_of kis ho hd F.ok.fit hel ?_)
    cases hfi : List.findIdx? (fun e => (PySem.strKind Pg wd).is k e.2) D.1.toList with
    | some j =>
      dsimp only
      refine wpAny_pure (wpAny_pure ?_)
      exact fin st.heap D l _ (Heap.SameBut.refl a st.heap) F (fun j => ⟨.inr, fun h => h.elim (fun e => e ▸ hk) id⟩) (by omega)
    | none =>
      obtain ⟨e, he, q⟩ := (F.ok.mem k).mp hk
      have c := List.findIdx?_eq_none_iff.mp hfi e he
      rw [q] at c
      cases c
  · refine Froz.add_x F.at_ F.ok hk hb ?_
    have hf : (Froz.sObj "set" (Froz.addTx (hashStr wd k) (.str k u) D)).isFreed = false := rfl
    refine fin _ (Froz.addTx (hashStr wd k) (.str k u) D) (k :: l) true (Heap.SameBut.update _ a _) ⟨Froz.get_upd _ F.at_ hf, Froz.add_ok u F.ok, List.nodup_cons.mpr ⟨hk, F.nd⟩, addTx_ris F.ris, by rw [addTx_led]; exact F.led⟩ (fun j => List.mem_cons) (by simp)
theorem TxAt.at {h h' : Heap} {a : Addr} {D : Froz.SD} {l : List Str} (F : TxAt Pg wd h a D l) (k : ∀ o, h.get? a = some o → h'.get? a = some o) : TxAt Pg wd h' a D l := ⟨k _ F.at_, F.ok, F.nd, F.ris, F.led⟩
theorem set_update_txts {Ii : Addr} {fps wrs : List Addr} {Gg : Array GenState → Array GenState → Prop} {n : Nat} {Pw : Nat → Value → Prop} {Sx : Nat → Shared → Prop} {Rr : Result → Shared → Prop}
    (Wk : WalksS Pg wd Ar.in1 Ii fps wrs Gg n Pw Sx) (Sa : Addr) (hSa : Sa ∉ fps) (txs : List Str) (hn : n = txs.length) (hbd : txs.length + 1 < scanBound) (hv : ∀ i v, Pw i v → ∃ k t, txs[i]? = some k ∧ v = .str k t) :
    ∀ (m i : Nat) (s0 : Shared), n - i = m → i ≤ n → Sx i s0 → (∃ D l, l.length ≤ i ∧ TxAt Pg wd s0.heap Sa D l ∧ ∀ j, j ∈ l ↔ j ∈ txs.take i) →
      (∀ s1 D l, Moved (Sa :: wrs) Gg s0 s1 → l.length ≤ n → TxAt Pg wd s1.heap Sa D l → (∀ j, j ∈ l ↔ j ∈ txs) → Rr (.ok (.ret .none)) s1) →
      codeAny (model Pg wd) Ar (.builtin "set.update.loop" ⟨[.ref Sa, .ref Ii], []⟩) Rr s0 := by
  have hSw : Sa ∉ wrs := fun h => hSa (Wk.sub _ h)
  have incl : ∀ b ∈ wrs, b ∈ Sa :: wrs := fun b hb => List.mem_cons_of_mem _ hb
  intro m
  induction m with
  | zero =>
    intro i s0 hk' hi hst ⟨D, l, hc, hS, hm⟩ hR
    have hin : i = n := by omega
    subst hin
    refine codeAny_builtin F.entry_set_update_loop ?_
    rw [Around.under_plainId F.plain_set_update_loop _]
    show wpAny _ Ar.in1 (pyNext (.ref Ii) >>= _) _ _ s0
    refine wpAny_bind (Wk.done s0 _ _ hst fun s1 hmv => ?_)
    show wpAny _ Ar.in1 (ret Value.none) _ _ s1
    have e : txs.take i = txs := List.take_of_length_le (by omega)
    rw [e] at hm
    exact wpAny_pure (hR s1 D l (hmv.mono incl) hc (hS.at fun o e => hmv.heap Sa o hSw e) hm)
  | succ m ih =>
    intro i s0 hk' hi hst ⟨D, l, hc, hS, hm⟩ hR
    have hlt : i < n := by omega
    refine codeAny_builtin F.entry_set_update_loop ?_
    rw [Around.under_plainId F.plain_set_update_loop _]
    show wpAny _ Ar.in1 (pyNext (.ref Ii) >>= _) _ _ s0
    refine wpAny_bind (Wk.item i s0 _ _ hlt hst fun v s1 hP hst1 hmv => ?_)
    obtain ⟨z, t, hz, rfl⟩ := hv i v hP
    have hS1 : TxAt Pg wd s1.heap Sa D l := hS.at fun o e => hmv.heap Sa o hSw e
    show wpAny _ Ar.in1 (holding [Value.str z t] (setAdd Sa (.str z t)) >>= _) _ _ s1
    refine wpAny_bind (wpAny_holding ?_)
    unfold setAdd
    refine wpAny_holding ?_
    refine wpAny_bind ((PySem.strKind Pg wd).pyHash (k := z) (Froz.is_str z t) ?_)
    refine tx_add (st := { s1 with toks := s1.toks + 1 }) hS1 (by omega) fun h2 D2 l2 b2 hsb hS2 hm2 hl2 => ?_
    refine wpAny_pure ⟨plainId_quiet F.plain_set_update_loop _, ih (i + 1) _ (by omega) hlt (Wk.frame _ s1 _ _ hst1 (Nat.le_succ _) fun b hb o e => ?_) ⟨D2, l2, by omega, hS2, fun j => ?_⟩ fun s3 D3 l3 hm3 hc3 hS3 hj3 => ?_⟩
    · rw [hsb.2 b (fun h : b = Sa => hSa (by rw [← h]; exact hb))]; exact e
    · rw [hm2, hm, List.take_add_one, hz]
      simp [List.mem_append, or_comm]
    · refine hR s3 D3 l3 (Moved.trans Wk.gtrans ((hmv.mono incl).then_heap (Nat.le_succ _) fun b o hb e => ?_) hm3) hc3 hS3 hj3
      rw [hsb.2 b (fun h : b = Sa => hb (by rw [h]; exact List.mem_cons_self))]; exact e
theorem tx_new {P : Program} {w : World} {h : Heap} {a : Addr} (ho : h.get? a = some { cls := .type "set", dict := none, data := .set #[] 0 (.fresh 0 0 (!w.params.followText "set-order")) }) : ∃ D, TxAt P w h a D [] :=
  ⟨(#[], 0, .fresh 0 0 (!w.params.followText "set-order")), ho, .nil rfl, List.nodup_nil, List.Pairwise.nil, by
    show _ ∨ (!w.params.followText "set-order") = true
    cases w.params.followText "set-order"
    · exact .inr rfl
    · exact .inl rfl⟩
/-- set(xs), xs a list of texts -/
theorem setTx {la : Addr} {itms : Array Value} (txs : List Str) {Qp : Value → Shared → Prop} (nox : Ar.handled = none) (isl : st.heap.IsList la itms) (tx : StrsAre itms.toList txs) (small : txs.length + 1 < scanBound)
    (fin : ∀ (hp' : Heap) (tok : Nat) D l, TxAt Pg wd hp' st.heap.objs.size D l → (∀ j, j ∈ l ↔ j ∈ txs) → l.length ≤ txs.length → (∀ b o, st.heap.get? b = some o → hp'.get? b = some o) → Qp (.ref st.heap.objs.size) { st with heap := hp', toks := tok }) :
    wpAny (model Pg wd) Ar (call (.type "set") [.ref la]) Qp Ee st := by
  have lens : itms.size = txs.length := by
    have q := StrsAre.length tx
    rw [Array.length_toList] at q
    exact q
  obtain ⟨c, tl, mro1⟩ := F.called_set.mro
  have made1 := F.called_set.made
  have sub1 := F.called_set.sub
  refine wpAny_call (codeAny_of_tree (show wpAny _ _ (callAny (.type "set") _) _ _ _ from ?_))
  refine wpAny_pure ⟨Code.quiet_builtin _ (by decide +kernel), (codeAny_builtin F.entry_type_call ?_)⟩
  rw [Around.under_plain (weight_type_call_type "set" [.ref la] []) rfl]
  have h1 := F.called_set.notType
  have h2 := F.called_set.canCreate
  have hct := F.typeCall_set_1 (.ref la)
  repeat (any_goals first | assumption | wp_step)

  refine codeAny_mono (code_set_led1 (.ref la) (E := Ee) (Q₁ := fun ob0 s₁ => ob0 = .ref st.heap.objs.size ∧ s₁ = { st with heap := st.heap.push { cls := .type "set", dict := none, data := .set #[] 0 (.fresh 0 0 (!wd.params.followText "set-order")) } }) ⟨rfl, rfl⟩) fun rs s₁ rr0 => ?_
  cases rs with
  | error er => exact rr0
  | ok fl0 =>
    cases fl0 with
    | ret ob0 =>
      obtain ⟨rfl, rfl⟩ := rr0
      have gotS : (st.heap.push { cls := .type "set", dict := none, data := .set #[] 0 (.fresh 0 0 (!wd.params.followText "set-order")) }).get? st.heap.objs.size = some { cls := .type "set", dict := none, data := .set #[] 0 (.fresh 0 0 (!wd.params.followText "set-order")) } := Heap.get?_push_size _ rfl
      have tyS : Shared.TypeIs { st with heap := st.heap.push { cls := .type "set", dict := none, data := .set #[] 0 (.fresh 0 0 (!wd.params.followText "set-order")) } } (.ref st.heap.objs.size) "set" := ⟨_, gotS, rfl⟩
      have hli := F.called_set.init.lookup
      have hbi := F.called_set.init.bind (.ref st.heap.objs.size)
      repeat (any_goals first | assumption | wp_step)

      refine codeAny_mono (codeAny_call_builtin (R := wants (fun rs s₂ => rs = .none ∧ ∃ hp' tok D l, s₂ = { st with heap := hp', toks := tok } ∧ TxAt Pg wd hp' st.heap.objs.size D l ∧ (∀ j, j ∈ l ↔ j ∈ txs) ∧ l.length ≤ txs.length ∧
          (∀ b o, st.heap.get? b = some o → hp'.get? b = some o)) Ee) F.called_set.init.plain F.entry_set_init (check_set_init_1 tyS ?_)) fun r₂ s₂ hr₂ => ?_
      · obtain ⟨olist, golist, clist, nlist, dlist⟩ := isl
        obtain ⟨ocls, odict, odata, oslots⟩ := olist
        simp only at clist dlist
        subst clist; subst dlist
        have hol' : (st.heap.push { cls := .type "set", dict := none, data := .set #[] 0 (.fresh 0 0 (!wd.params.followText "set-order")) }).get? la = some { cls := .type "list", dict := odict, data := .seq itms nlist, slots := oslots } := Heap.get?_push_of_some _ golist
        have subS := F.sub_list_set
        have subF := F.sub_list_frozenset
        have neD : (Value.type "list" == Value.type "dict") = false := by decide
        have isl1 : (st.heap.push { cls := .type "set", dict := none, data := .set #[] 0 (.fresh 0 0 (!wd.params.followText "set-order")) }).IsList la itms := ⟨_, hol', rfl, nlist, rfl⟩
        unfold Builtin.«set.__init__» noKeywords Builtin.Frozenset.updateFrom
        generalize gPI : pyIter = pIt
        wp_walk
        subst gPI

        refine wpAny_pyIter_list isl1 ?_
        refine wpAny_bind (wpAny_runValue ?_)
        have ltS : la < st.heap.objs.size := Heap.lt_size golist
        have nox3 : Ar.in1.in1.in1.handled = none := by simp [nox]
        have size1 : (st.heap.push { cls := .type "set", dict := none, data := .set #[] 0 (.fresh 0 0 (!wd.params.followText "set-order")) }).objs.size = st.heap.objs.size + 1 := Heap.size_push ..
        have neqI : la ≠ (st.heap.push { cls := .type "set", dict := none, data := .set #[] 0 (.fresh 0 0 (!wd.params.followText "set-order")) }).objs.size := by
          rw [Heap.size_push]; exact Nat.ne_of_lt (Nat.lt_succ_of_lt ltS)
        have notin : st.heap.objs.size ∉ [(st.heap.push { cls := .type "set", dict := none, data := .set #[] 0 (.fresh 0 0 (!wd.params.followText "set-order")) }).objs.size, la] := by
          rw [Heap.size_push]; simp only [List.mem_cons, List.mem_singleton, List.not_mem_nil, or_false, not_or]
          exact ⟨Nat.ne_of_lt (Nat.lt_succ_self _), Nat.ne_of_gt ltS⟩
        have vals0 : ∀ (i : Nat) (v : Value), itms[i]? = some v → ∃ k t, txs[i]? = some k ∧ v = .str k t := fun i v hv => txs_get tx i v (by rw [Array.getElem?_toList]; exact hv)
        refine set_update_txts ((Walks.list nox3 _ la neqI itms).toS) st.heap.objs.size
          notin txs lens small vals0 (itms.size - 0) 0 _ (by omega) (Nat.zero_le _)
          ⟨⟨_, Heap.get?_push_size _ rfl, rfl, rfl⟩, (isl1.push _)⟩ ?hS0 ?hR
        case hS0 =>
          have getS : ((st.heap.push { cls := .type "set", dict := none, data := .set #[] 0 (.fresh 0 0 (!wd.params.followText "set-order")) }).push { cls := .type "list_iterator", data := .fields #[.ref la, .int 0 0] }).get? st.heap.objs.size
              = some { cls := .type "set", dict := none, data := .set #[] 0 (.fresh 0 0 (!wd.params.followText "set-order")) } := Heap.get?_push_of_some _ gotS
          obtain ⟨D, hD⟩ := tx_new (P := Pg) getS
          exact ⟨D, [], Nat.le_refl _, hD, fun j => by simp⟩
        case hR =>
          intro st' D' l' mvd cle' setR' hmm
          obtain ⟨hp', g2, d', tk', os'⟩ := st'
          have eqg : g2 = st.gens := mvd.gens
          have eqd : d' = st.drawn := mvd.drawn
          have eqo : os' = st.os := mvd.os
          subst eqg; subst eqd; subst eqo
          show wpAny _ _ _ _ _ _
          refine wpAny_pure ?_
          show wpAny _ _ (ret Value.none) _ _ _
          rw [lens] at cle'
          refine wpAny_pure ⟨rfl, hp', tk', D', l', rfl, setR', hmm, cle', fun b o er => ?_⟩
          have lt0 : b < st.heap.objs.size := Heap.lt_size er
          have ne1 : b ≠ st.heap.objs.size := Nat.ne_of_lt lt0
          have ne2 : b ≠ (st.heap.push { cls := .type "set", dict := none, data := .set #[] 0 (.fresh 0 0 (!wd.params.followText "set-order")) }).objs.size := by
            rw [Heap.size_push]; exact Nat.ne_of_lt (Nat.lt_succ_of_lt lt0)
          exact mvd.heap b o (by simp only [List.mem_cons, List.mem_singleton, List.not_mem_nil, or_false, not_or]; exact ⟨ne1, ne2⟩) (Heap.get?_push_of_some _ (Heap.get?_push_of_some _ er))

      · cases r₂ with
        | error er => exact hr₂
        | ok fl₂ =>
          cases fl₂ with
          | ret rs =>
            obtain ⟨rfl, hp', tok, D', l', rfl, setR', hmm, cle', hk'⟩ := hr₂
            repeat (any_goals first | assumption | wp_step)
            exact fin _ _ D' l' setR' hmm cle' hk'
          | _ => exact hr₂.elim
    | _ => exact rr0.elim
/-- sorted(s), s a set of texts -/
theorem sorted_txs {a : Addr} {D : Froz.SD} {l : List Str} {Qp : Value → Shared → Prop} (F : TxAt Pg wd st.heap a D l) (nox : Ar.handled = none) (small : l.length < 64)
    (fin : ∀ s1 p (out : Array Value) (c : Nat) (ys : List Str), (∀ b o, st.heap.get? b = some o → s1.heap.get? b = some o) → s1.gens = st.gens → s1.os = st.os → st.heap.objs.size ≤ p →
      s1.heap.get? p = some (seqObj "list" out c) → StrsAre out.toList ys → sortedS ys = true → ys.Perm l → Qp (.ref p) s1) :
    wpAny (model Pg wd) Ar (call (.builtin "sorted") [.ref a]) Qp Ee st := by
  obtain ⟨ho, ok, nd, rs, ld⟩ := F
  have hsz := ok.sz
  refine Calls.call_function_entry kind_sorted plain_sorted entry_sorted (args_sorted1 _) ?_
  unfold Builtin.«sorted»
  refine wpAny_bind (m := checkCount "sorted" 1 1 _) (wpAny_pure ?_)
  refine wpAny_bind (collect_set (A := Ar.in1) nox ⟨_, ho, rfl, rfl⟩ ok.fit (by rw [hsz]; unfold scanBound; omega) rs ld fun s1 vs k1 hz g1 o1 pm => ?_)
  have hvl : vs.length = l.length := by rw [pm.length_eq, List.length_map, Array.length_toList]; exact hsz
  have shape : ∀ e ∈ D.1.toList, ∃ x t, e.2 = Value.str x t := fun e he => by
    obtain ⟨⟨k, h1, _⟩, _⟩ := ok.el e he
    obtain ⟨t, q⟩ := Value.isStrOf_shape (x := k) (v := e.2) h1
    exact ⟨k, t, q⟩
  have hI : StrsAre vs (vs.map strOf) := strsAre_map vs fun v hv => by
    obtain ⟨e, he, q⟩ := List.mem_map.mp (pm.mem_iff.mp hv)
    obtain ⟨x, t, q2⟩ := shape e he
    exact ⟨x, t, by rw [← q]; exact q2⟩
  have pk : (vs.map strOf).Perm l := by
    have q := pm.map strOf
    rw [List.map_map] at q
    refine q.trans ?_
    have nd2 : (D.1.toList.map (strOf ∘ fun x => x.2)).Nodup := by
      have ln : (D.1.toList.map (strOf ∘ fun x => x.2)).length = l.length := by rw [List.length_map, Array.length_toList]; exact hsz
      have sub : ∀ k ∈ l, k ∈ D.1.toList.map (strOf ∘ fun x => x.2) := fun k hk => by
        obtain ⟨e, he, q⟩ := (ok.mem k).mp hk
        obtain ⟨t, q2⟩ := Value.isStrOf_shape (x := k) (v := e.2) q
        exact List.mem_map.mpr ⟨e, he, by simp [q2, strOf]⟩
      exact (perm_of_sub nd sub (by omega)).nodup_iff.mpr nd
    refine (List.perm_ext_iff_of_nodup nd2 nd).mpr fun k => ⟨fun h => ?_, fun h => ?_⟩
    · obtain ⟨e, he, q⟩ := List.mem_map.mp h
      obtain ⟨x, t, q2⟩ := shape e he
      have : x = k := by simpa [q2, strOf] using q
      exact (ok.mem k).mpr ⟨e, he, by rw [q2, this]; exact Froz.is_str k t⟩
    · obtain ⟨e, he, q⟩ := (ok.mem k).mp h
      obtain ⟨t, q2⟩ := Value.isStrOf_shape (x := k) (v := e.2) q
      exact List.mem_map.mpr ⟨e, he, by simp [q2, strOf]⟩
  refine wpAny_bind (wpAny_newList ?_ (by rw [hvl, sizeLine_eq]; omega))
  have hoL : (s1.heap.push (seqObj "list" vs.toArray 0)).get? s1.heap.objs.size = some (seqObj "list" vs.toArray 0) := Heap.get?_push_size _ rfl
  refine wpAny_bind (wpAny_holding (wpAny_call_entry slot_list_sort ⟨_, hoL, rfl⟩ entry_list_sort
    (list_sort_treeK strKind_oneLt hoL hI.keysOf (fun v1 v2 rest er => keyKind_strs (by rw [← er]; exact hI)) (by rw [hvl]; exact small) fun st2 hp1 hs1 => ⟨_, rfl, ?_⟩) (args_list_sort _)))
  obtain ⟨ys, a1, a2, a3⟩ := sorted_out_str hI hp1 hs1
  obtain ⟨c, hc⟩ := sortedHeap_at (vs := vs) (out := (arrOf st2).map (·.2)) hoL
  refine wpAny_pure ⟨_, rfl, fin _ s1.heap.objs.size ((arrOf st2).map (·.2)) c ys (fun b u er => ?_) g1 o1 hz hc a1 a3 (a2.trans pk)⟩
  have q := k1 b u er
  have hlt := Heap.lt_size q
  show (sortedHeap (s1.heap.push (seqObj "list" vs.toArray 0)) s1.heap.objs.size vs ((arrOf st2).map (·.2))).get? b = some u
  rw [sortedHeap_old (Nat.ne_of_lt hlt) (by rw [size_push']; exact Nat.lt_succ_of_lt hlt)]
  exact Heap.get?_push_of_some _ q
end
end Pu

namespace Pu
open PySem PySem.Spec PyProof.Rows L2

/-! ### sorted(set(xs)), whole numbers or texts -/
def ltS (s t : String) : Prop := leS s t = true ∧ s ≠ t
def insUS (k : String) : List String → List String
  | [] => [k]
  | a :: l => if k = a then a :: l else if leS k a = true then k :: a :: l else a :: insUS k l
def sortUS (ss : List String) : List String := ss.foldr insUS []
theorem insUS_mem {k j : String} : ∀ {l : List String}, j ∈ insUS k l ↔ j = k ∨ j ∈ l
  | [] => by simp [insUS]
  | a :: l => by
    unfold insUS
    split
    · rename_i h; subst h; simp
    · split
      · simp
      · simp only [List.mem_cons, insUS_mem (l := l)]
        constructor
        · rintro (h | h | h)
          · exact .inr (.inl h)
          · exact .inl h
          · exact .inr (.inr h)
        · rintro (h | h | h)
          · exact .inr (.inl h)
          · exact .inl h
          · exact .inr (.inr h)
theorem ltS_trans {a b c : String} (h1 : ltS a b) (h2 : ltS b c) : ltS a c := ⟨leS_trans h1.1 h2.1, fun e => by
  subst e; exact h1.2 (leS_anti h1.1 h2.1)⟩
theorem insUS_sorted {k : String} : ∀ {l : List String}, l.Pairwise ltS → (insUS k l).Pairwise ltS
  | [], _ => by simp [insUS]
  | a :: l, h => by
    have h' := List.pairwise_cons.mp h
    unfold insUS
    split
    · exact h
    · rename_i hk
      split
      · rename_i hl
        refine List.pairwise_cons.mpr ⟨fun b hb => ?_, h⟩
        rcases List.mem_cons.mp hb with e | e
        · rw [e]; exact ⟨hl, hk⟩
        · exact ltS_trans ⟨hl, hk⟩ (h'.1 b e)
      · rename_i hl
        refine List.pairwise_cons.mpr ⟨fun b hb => ?_, insUS_sorted h'.2⟩
        rcases insUS_mem.mp hb with e | e
        · rw [e]; exact ⟨leS_total (by simpa using hl), fun z => hk z.symm⟩
        · exact h'.1 b e
theorem sortUS_mem {j : String} : ∀ {ns : List String}, j ∈ sortUS ns ↔ j ∈ ns
  | [] => by simp [sortUS]
  | a :: l => by
    have ih := sortUS_mem (j := j) (ns := l)
    unfold sortUS at ih ⊢
    rw [List.foldr_cons, insUS_mem, ih, List.mem_cons]
theorem sortUS_sorted : ∀ ns : List String, (sortUS ns).Pairwise ltS
  | [] => by simp [sortUS]
  | a :: l => by
    have ih := sortUS_sorted l
    unfold sortUS at ih ⊢
    rw [List.foldr_cons]
    exact insUS_sorted ih
theorem ltS_ext : ∀ {l m : List String}, l.Pairwise ltS → m.Pairwise ltS → (∀ k, k ∈ l ↔ k ∈ m) → l = m
  | [], [], _, _, _ => rfl
  | [], b :: m, _, _, h => by have := (h b).mpr (by simp); simp at this
  | a :: l, [], _, _, h => by have := (h a).mp (by simp); simp at this
  | a :: l, b :: m, h1, h2, h => by
    have h1' := List.pairwise_cons.mp h1
    have h2' := List.pairwise_cons.mp h2
    have e : a = b := by
      rcases List.mem_cons.mp ((h a).mp (by simp)) with e | e
      · exact e
      · rcases List.mem_cons.mp ((h b).mpr (by simp)) with e2 | e2
        · exact e2.symm
        · exact leS_anti (h1'.1 b e2).1 (h2'.1 a e).1
    subst e
    refine congrArg (a :: ·) (ltS_ext h1'.2 h2'.2 fun k => ⟨fun hk => ?_, fun hk => ?_⟩)
    · rcases List.mem_cons.mp ((h k).mp (by simp [hk])) with e | e
      · exact absurd e.symm (h1'.1 k hk).2
      · exact e
    · rcases List.mem_cons.mp ((h k).mpr (by simp [hk])) with e | e
      · exact absurd e.symm (h2'.1 k hk).2
      · exact e
theorem nodup_of_ltS {l : List String} (h : l.Pairwise ltS) : l.Nodup := h.imp fun h => h.2
def srtSet (xs : List D) : Option (List D) := match intsD xs with
  | some ns => if ns.length < 63 then some ((sortU ns).map D.int) else none
  | none => match strsD xs with
    | some ss => if ss.length < 63 then some ((sortUS ss).map D.str) else none
    | none => none
def fSortSetX (f : Ex) : Exs := fun env h => (f env h).bind fun d h1 => ofO (itemsL h1 d) fun xs => ofO (srtSet xs) fun ys => .ok ys h1
section
variable {X : Cx} {W : WX} {k : Nat}
theorem sf_sortsetX (C : Cok X W k) {e : Expr} {f : Ex} {p p2 q pos : Pos} (hg : Gl X "sorted") (hm : X.mg "sorted" = none) (hg2 : Gl X "set") (hm2 : X.mg "set" = none) (he : SE X W e f)
    (na : starEach [e] X.env = (false, eval e X.env) :: starEach [] X.env := by rfl) : SF X W (.Call (.Name "sorted" p) [.Call (.Name "set" p2) [e] [] q] [] pos) (fSortSetX f) := by
  refine ⟨fun pins s σ H Q I hh => ?_⟩
  obtain ⟨T, env, h, r1, r2, a⟩ := hh
  refine Call_ (ld_blt I hg hm boot_sorted ?_)
  refine callWith_builtin1 (args_cons ?_ rfl) rfl rfl
  refine Call_ (ld_blt I hg2 hm2 boot_set ?_)
  refine callWith_type1 (args_cons (thn (he.run pins s σ H (fun v H1 => ∃ T1 h1 d, Le T H T1 H1 ∧ RelH X.K T1 H1 h1 ∧ rel X.K T1 H1 d v ∧ After X.K X.mg W T H σ (qF X.K H) Q (ofO (itemsL h1 d) fun xs => ofO (srtSet xs) fun ys => .ok ys h1)) I
    ⟨T, env, h, r1, r2, After.bind0 a fun d h1 T1 H1 v _ l1 q1 rv a1 => ⟨T1, h1, d, l1, q1, rv, a1⟩⟩) fun v s1 ⟨x, H1, I1, rx, T1, h1, d, l1, q1, rv, a1⟩ => args_nil ?_) na) na rfl
  obtain ⟨xs, e1, a1⟩ := a1.ofO
  obtain ⟨ys, e2, a1⟩ := a1.ofO
  obtain ⟨b, ws, rfl, sq, rr⟩ := rel_itemsL q1 rv e1
  cases rx
  unfold srtSet at e2
  split at e2
  · rename_i ns e3
    by_cases hl : ns.length < 63
    · rw [if_pos hl] at e2
      cases e2
      rw [rels_ints rr e3] at sq
      obtain ⟨its, r, pl, hz⟩ := I1.list sq
      refine setLi ns (I1.ok.hd C.calm) pl.isList (by simpa using RZ.intsAre_vals r) (by unfold scanBound; omega) fun h' tk c hS hc hk => ?_
      refine args_nil ?_
      have I2 : Inv X pins σ H1 { s1 with heap := h', toks := tk } := I1.kept hk
      refine sorted_set hS (I2.ok.hd C.calm) (by omega) fun s' p' out c' ns' k' g o hp hgt hi hs hm' hl' => ?_
      have es : ns' = sortU ns := sorted_ext hs (sortU_sorted ns) fun j => by rw [hm' j, sortU_mem, decide_eq_true_eq]
      subst es
      have hlen : ((sortU ns).map V.int).length ≤ sizeLine := by rw [List.length_map, hl', sizeLine_eq]; omega
      have hn : H1 p' = none := I2.hok.fresh hp
      have new : ObjOk X.prog X.w (upd H1 p' (.lst ((sortU ns).map V.int))) s'.heap p' (.lst ((sortU ns).map V.int)) := ⟨hlen, out.toList, c', vals_of_ints hi, hgt⟩
      have J : Inv X pins σ (upd H1 p' (.lst ((sortU ns).map V.int))) s' := I2.call' (ch := []) o (Un.laid k' hp hn) (I2.hok.laid k' hp new) (by rw [g]; exact I2.bare) fun _ z => nomatch z
      refine ⟨.ref p', _, J, rfl, ?_⟩
      exact a1 (T1.blk p') (upd H1 p' (.lst ((sortU ns).map V.int))) _ (l1.trans r1.mut (Le.blk hn)) (q1.blk hn) ⟨p', _, rfl, upd_same, fun z => q1.mut.free hn (q1.sub p' z), .inr rfl, l1.was q1.mut hn, rels_ofInts _⟩
    · rw [if_neg hl] at e2; cases e2
  · split at e2
    · rename_i ss e3
      by_cases hl : ss.length < 63
      · rw [if_pos hl] at e2
        cases e2
        rw [rels_txts rr e3] at sq
        obtain ⟨its, r, pl, hz⟩ := I1.list sq
        refine setTx (ss.map Str.ofString) (I1.ok.hd C.calm) pl.isList (by simpa using r.strs) (by rw [List.length_map]; unfold scanBound; omega) fun h' tk D l hS hmm hc hk => ?_
        refine args_nil ?_
        have I2 : Inv X pins σ H1 { s1 with heap := h', toks := tk } := I1.kept hk
        rw [List.length_map] at hc
        refine sorted_txs hS (I2.ok.hd C.calm) (by omega) fun s' p' out c' ys k' g o hp hgt hi hs hpm => ?_
        have e4 : ys = (sortUS ss).map Str.ofString := by
          obtain ⟨zs, rfl⟩ : ∃ zs : List String, l = zs.map Str.ofString := by
            have h1 : ∀ y ∈ l, ∃ s, Str.ofString s = y := fun y hy => by
              obtain ⟨s, _, e⟩ := List.mem_map.mp ((hmm y).mp hy)
              exact ⟨s, e⟩
            clear hS hmm hc hpm
            induction l with
            | nil => exact ⟨[], rfl⟩
            | cons y ys ih =>
              obtain ⟨s, e⟩ := h1 y (by simp)
              obtain ⟨zs, e2⟩ := ih fun z hz => h1 z (by simp [hz])
              exact ⟨s :: zs, by rw [e2, ← e]; rfl⟩
          have e5 := sortS_of hpm hs
          rw [e5]
          congr 1
          have nd : zs.Nodup := by
            have := hS.nd
            exact (List.pairwise_map.mp this).imp fun h z => h (by rw [z])
          refine ltS_ext ?_ (sortUS_sorted ss) fun k => ?_
          · have p1 := sortS_sorted zs
            have p2 : (sortS zs).Nodup := (sortR_perm zs).nodup_iff.mpr nd
            exact (List.pairwise_and_iff.mpr ⟨p1, p2⟩)
          · rw [sortUS_mem]
            have := hmm (Str.ofString k)
            rw [List.mem_map, List.mem_map] at this
            unfold sortS
            rw [sortR_mem]
            constructor
            · intro hk
              obtain ⟨z, hz, e⟩ := this.mp ⟨k, hk, rfl⟩
              rw [← ofString_inj e]; exact hz
            · intro hk
              obtain ⟨z, hz, e⟩ := this.mpr ⟨k, hk, rfl⟩
              rw [← ofString_inj e]; exact hz
        subst e4
        have hl2 : ((sortUS ss).map Str.ofString).length ≤ ss.length := by rw [hpm.length_eq]; exact hc
        have hlen : (((sortUS ss).map Str.ofString).map V.str).length ≤ sizeLine := by rw [List.length_map, sizeLine_eq]; omega
        have hn : H1 p' = none := I2.hok.fresh hp
        have new : ObjOk X.prog X.w (upd H1 p' (.lst (((sortUS ss).map Str.ofString).map V.str))) s'.heap p' (.lst (((sortUS ss).map Str.ofString).map V.str)) := ⟨hlen, out.toList, c', vals_of_strs hi, hgt⟩
        have J : Inv X pins σ (upd H1 p' (.lst (((sortUS ss).map Str.ofString).map V.str))) s' := I2.call' (ch := []) o (Un.laid k' hp hn) (I2.hok.laid k' hp new) (by rw [g]; exact I2.bare) fun _ z => nomatch z
        refine ⟨.ref p', _, J, rfl, ?_⟩
        exact a1 (T1.blk p') (upd H1 p' (.lst (((sortUS ss).map Str.ofString).map V.str))) _ (l1.trans r1.mut (Le.blk hn)) (q1.blk hn) ⟨p', _, rfl, upd_same, fun z => q1.mut.free hn (q1.sub p' z), .inr rfl, l1.was q1.mut hn, rels_ofStrs _⟩
      · rw [if_neg hl] at e2; cases e2
    · cases e2
end
@[simp ↓] theorem wp_fSortSetX {f : Ex} {env : En} {h : HH} {qs : List D → HH → Prop} {e : String → HH → Prop} : Wp qs e (fSortSetX f env h) ↔ Wp (fun d h1 => Wo (fun xs => Wo (fun ys => qs ys h1) (srtSet xs)) (itemsL h1 d)) e (f env h) := by
  unfold fSortSetX
  rw [wp_bind]
  exact wp_congr fun d h1 => wp_wo fun xs => wp_ofO
theorem strsD_map : ∀ bs : List String, strsD (bs.map D.str) = some bs
  | [] => rfl
  | b :: bs => by simp [strsD, strsD_map bs]
theorem srtSet_ints {ns : List Int} (h : ns.length < 63) : srtSet (ns.map D.int) = some ((sortU ns).map D.int) := by
  unfold srtSet
  rw [intsD_map]
  dsimp only
  rw [if_pos h]
theorem srtSet_strs {ns : List String} (h : ns.length < 63) : srtSet (ns.map D.str) = some ((sortUS ns).map D.str) := by
  unfold srtSet
  rw [strsD_map]
  cases ns with
  | nil => rfl
  | cons s r =>
    have : intsD ((s :: r).map D.str) = none := rfl
    rw [this]
    dsimp only
    rw [if_pos h]
end Pu

namespace Pu
open PySem PySem.Spec PyProof.Rows L2

/-! ### all that was there stands, but for the slots of frames -/
abbrev Hno : Hp := fun _ => none
structure Th (fs : List Addr) (s s' : Shared) : Prop where
  os : s'.os = s.os
  bare : AllBare s'.gens
  un : Un fs [] Hno Hno s.heap s'.heap
theorem Th.refl {fs : List Addr} {s : Shared} (b : AllBare s.gens) : Th fs s s := ⟨rfl, b, Un.refl⟩
theorem Th.trans {fs : List Addr} {s s1 s2 : Shared} (a : Th fs s s1) (b : Th fs s1 s2) : Th fs s s2 := ⟨b.os.trans a.os, b.bare, a.un.trans b.un⟩
theorem Un.new {fs : List Addr} {h h1 h2 : Heap} {a : Addr} (u : Un fs [] Hno Hno h h1) (n : h.get? a = none) (sb : ∀ b o, b ≠ a → h1.get? b = some o → h2.get? b = some o) : Un fs [] Hno Hno h h2 := by
  have ne : ∀ {b o}, h.get? b = some o → b ≠ a := fun {b o} q z => by rw [z, n] at q; cases q
  exact ⟨fun b o q m hb hx => sb b o (ne q) (u.keep b o q m hb hx), fun b o q m hb hx => by obtain ⟨sl, e⟩ := u.slot b o q m hb hx; exact ⟨sl, sb b _ (ne q) e⟩, fun _ _ _ _ _ => rfl,
    fun b o q hx => by obtain ⟨o', e⟩ := u.there b o q hx; exact ⟨o', sb b o' (ne q) e⟩, fun _ _ q => (nomatch q), fun _ _ _ q => (nomatch q), fun _ _ q => (nomatch q)⟩
section
variable {X : Cx} {pins : List (Addr × Obj)} {σ : L2.St} {H : Hp} {s s1 : Shared} {p : Addr} {o : HO}
theorem stay_th (I : Inv X pins σ H s) (t : Th (frs X.stack) s s1) {b : Addr} {u : HO} (e : H b = some u) {ob : Obj} (q : s.heap.get? b = some ob) : s1.heap.get? b = some ob :=
  t.un.keep b ob q rfl (fun z => by rw [I.stkFree b z] at e; cases e) (by simp)
theorem inv_th (I : Inv X pins σ H s) (t : Th (frs X.stack) s s1) : Inv X pins σ H s1 := by
  refine I.call' (ch := []) t.os ⟨fun b o q _ hb hx => t.un.keep b o q rfl hb hx, fun b o q _ hb hx => t.un.slot b o q rfl hb hx, fun _ _ _ n _ => n, fun b o q hx => t.un.there b o q hx, fun _ _ q => q, fun _ _ _ q => q, fun _ ps q => ⟨#[], by rw [q]; simp⟩⟩ (fun b u e => ?_) t.bare fun _ z => nomatch z
  refine (I.hok b u e).stay (fun c v hc q => ?_) (fun _ q => q) fun _ _ q => q
  rcases hc with z | z
  · subst z; exact stay_th I t e q
  · exact stay_th I t z q
theorem inv_thNew (I : Inv X pins σ H s) (t : Th (frs X.stack) s s1) (hp : s.heap.objs.size ≤ p) (new : ObjOk X.prog X.w (upd H p o) s1.heap p o) : Inv X pins σ (upd H p o) s1 := by
  have hn : H p = none := I.hok.fresh hp
  have nu : ∀ {b u}, H b = some u → b ≠ p := fun e => ne_of_none e hn
  refine I.call' (ch := []) t.os ⟨fun b o q _ hb hx => t.un.keep b o q rfl hb hx, fun b o q _ hb hx => t.un.slot b o q rfl hb hx, fun b o q n _ => ?_, fun b o q hx => t.un.there b o q hx,
    fun b _ q => by rw [upd_ne (nu q)]; exact q, fun b _ _ q => by rw [upd_ne (nu q)]; exact q, fun b ps q => ⟨#[], by rw [upd_ne (nu q), q]; simp⟩⟩ (fun b u e => ?_) t.bare fun _ z => nomatch z
  · rw [upd_ne (Nat.ne_of_lt (Nat.lt_of_lt_of_le (Heap.lt_size q) hp))]; exact n
  · by_cases hb : b = p
    · subst hb
      rw [upd_same] at e
      cases e
      exact new
    · rw [upd_ne hb] at e
      refine (I.hok b u e).stay (fun c v hc q => ?_) (fun c q => by rw [upd_ne (nu q)]; exact q) fun c _ q => by rw [upd_ne (nu q)]; exact q
      rcases hc with z | z
      · subst z; exact stay_th I t e q
      · exact stay_th I t z q
end

/-! ### sorted(xs, key=f), f a def that tells whole numbers -/
section
open PySem.W
variable {Pg : Program} {wd : World} {Ar : Around} {Ee : Value → Shared → Prop} {st s0 : Shared} {fs : List Addr} {f : Value} {a kS : Addr} {rv : Bool} {vs : List Value} {ks : List Int} {e1 : Nat} {Pf : PySem.Fin → Shared → Prop}
theorem keyX_rest (th : Th fs s0 st) (na0 : s0.heap.get? a = none) (nk0 : s0.heap.get? kS = none) (naf : a ∉ fs) (nkf : kS ∉ fs)
    (nk : st.heap.get? kS = some (seqObj "list" #[] 0)) (na : st.heap.get? a = some (seqObj "list" #[] e1)) (hka : kS ≠ a) (hlen : ks.length = vs.length) (hZ : vs.length ≤ sizeLine) (hu : Ar.units < cLine)
    (turn : ∀ (i : Nat) (v : Value) (k : Int), vs[i]? = some v → ks[i]? = some k → ∀ s1 : Shared, Th fs s0 s1 → wpAny (model Pg wd) Ar (call f [v]) (fun u s2 => (∃ t, u = .int k t) ∧ Th fs s1 s2) (fun _ _ => False) s1)
    (fin : ∀ s2 out c, Th fs s0 s2 → s2.heap.get? a = some (seqObj "list" (List.toArray out) c) → KeyedOut rv (ks.map PyData.int) vs out → Pf (.done (.ret .none)) s2) :
    wpAny (model Pg wd) Ar (ksk_rest a f rv vs.toArray e1 (.ref kS)) Pf Ee st := by
  unfold ksk_rest
  refine wpAny_bind (wpAny_rule ?_)
  first
    | rw [List.forIn_toArray]
    | (rw [← Array.forIn_toList]; simp only [List.toList_toArray])
    | rw [← Array.forIn_toList]
  refine wpAny_bind (ksk_fold (fun i s' => ∃ kA e, Th fs s0 s' ∧ s'.heap.get? kS = some (seqObj "list" kA e) ∧ s'.heap.get? a = some (seqObj "list" #[] e1) ∧ EachIs (fun v k => ∃ t, v = Value.int k t) kA.toList (ks.take i)) vs 0 st
    ⟨#[], 0, th, nk, na, by rw [List.take_zero]; exact EachIs.nil⟩ ?step ?done)
  case step =>
    rintro j x s' hx ⟨kA, e, th', nk', na', hk⟩
    simp only [Nat.zero_add] at hk ⊢
    have hj : j < vs.length := (List.getElem?_eq_some_iff.mp hx).1
    obtain ⟨k, hkj⟩ : ∃ k, ks[j]? = some k := ⟨_, List.getElem?_eq_getElem (by omega)⟩
    have hz : kA.size ≤ vs.length := by
      have h1 := hk.length
      rw [Array.length_toList, List.length_take] at h1
      omega
    refine wpAny_bind (wpAny_attempt (wpAny_mono (turn j x k hx hkj s' th') (fun v s2 he => ?_) fun _ _ hF => hF.elim))
    obtain ⟨hv, t2⟩ := he
    try dsimp only
    have nk2 : s2.heap.get? kS = some (seqObj "list" kA e) := t2.un.keep _ _ nk' rfl nkf (by simp)
    have na2 : s2.heap.get? a = some (seqObj "list" #[] e1) := t2.un.keep _ _ na' rfl naf (by simp)
    have sb := Heap.SameBut.update s2.heap kS (Obj.mapSeq (·.push v))
    obtain ⟨c2, hc2⟩ : ∃ c2, (s2.heap.update kS (Obj.mapSeq (·.push v))).get? kS = some (seqObj "list" (kA.push v) c2) := ⟨_, get?_update_seq nk2 (·.push v)⟩
    have ek : ks.take (j + 1) = ks.take j ++ [k] := by rw [List.take_add_one, hkj]; simp
    have ea : (kA.push v).toList = kA.toList ++ [v] := by simp
    refine wpAny_bind (listUpdate_at nk2 rfl ?_ (Nat.le_trans hz hZ) (Nat.le_trans (Nat.le_of_eq (Array.size_push ..)) (Nat.succ_le_succ (Nat.le_trans hz hZ))))
    have t3 := th'.trans t2
    refine wpAny_pure ⟨rfl, kA.push v, c2, ⟨t3.os, t3.bare, Un.new t3.un nk0 fun b o hb er => (sb.2 b hb).trans er⟩, hc2, (sb.2 a hka.symm).trans na2, ?_⟩
    rw [ea, ek]
    exact each_snoc hv hk
  case done =>
    rintro s' ⟨kA, e, th', nk', na', hk⟩
    have e3 : ks.take (0 + vs.length) = ks := List.take_of_length_le (by omega)
    rw [e3] at hk
    have hk' : EachIs (fun v k => ∃ as, Reads s'.heap v k as) kA.toList (ks.map PyData.int) := by
      clear e3 hlen turn fin
      revert hk
      generalize kA.toList = vl
      intro hk
      induction hk with
      | nil => exact .nil
      | cons h r ih =>
        obtain ⟨t, rfl⟩ := h
        exact .cons ⟨[], .int _ t⟩ ih
    have hsz : kA.size = vs.length := by
      have h1 := hk.length
      rw [Array.length_toList] at h1
      omega
    try dsimp only
    refine wpAny_bind (listItems_at nk' rfl ?_)
    obtain ⟨G, g1, g2⟩ := restrict s'.heap fun b => !decide (b = kS)
    have hG : G.get? kS = none := g2 kS (by simp)
    have kp : KeepsBut a G s'.heap := fun b o hb er => by
      by_cases hbk : b = kS
      · subst hbk; rw [hG] at er; cases er
      · rw [g1 b (by simp [hbk])] at er; exact er
    have hal : AllAlike (ks.map PyData.int) := fun d hd d' hd' => by
      obtain ⟨_, _, rfl⟩ := List.mem_map.mp hd
      obtain ⟨_, _, rfl⟩ := List.mem_map.mp hd'
      rfl
    have hso : Sortable (ks.map PyData.int) := .inr fun d hd => by
      obtain ⟨_, _, rfl⟩ := List.mem_map.mp hd
      exact ⟨fun z => (nomatch z), fun _ z => (nomatch z)⟩
    refine keyH_end (κ := dataKind s'.heap (ks.map PyData.int)) (h₁ := G) kp hG nk' na' hka (SortsAt.data (s := s') hk' hal hso fun d hd => ?_) hsz hZ fun h3 tk3 c k3 n3 => ?_
    · obtain ⟨_, _, rfl⟩ := List.mem_map.mp hd
      show Ar.units + PyData.depth (.int _) < _
      rw [show PyData.depth (.int _) = 0 from rfl]
      exact hu
    · refine fin _ _ c ⟨th'.os, th'.bare, ?_⟩ n3 ⟨s'.heap, kA.toList, hal, rfl, hk'⟩
      refine Un.new (h1 := G) (a := a) ?_ na0 (fun b o hb er => k3 b o hb er)
      exact Un.new (h1 := s'.heap) (a := kS) th'.un nk0 fun b o hb er => by rw [g1 b (by simp [hb])]; exact er
theorem keyX_tree {n : Nat} (th : Th fs s0 st) (na0 : s0.heap.get? a = none) (naf : a ∉ fs) (hfs : ∀ b ∈ fs, b < s0.heap.objs.size) (hsz0 : s0.heap.objs.size ≤ st.heap.objs.size) (ho : st.heap.get? a = some (seqObj "list" vs.toArray n)) (hlen : ks.length = vs.length) (hZ : vs.length ≤ sizeLine) (hu : Ar.units < cLine)
    (turn : ∀ (i : Nat) (v : Value) (k : Int), vs[i]? = some v → ks[i]? = some k → ∀ s1 : Shared, Th fs s0 s1 → wpAny (model Pg wd) Ar (call f [v]) (fun u s2 => (∃ t, u = .int k t) ∧ Th fs s1 s2) (fun _ _ => False) s1)
    (fin : ∀ s2 out c, Th fs s0 s2 → s2.heap.get? a = some (seqObj "list" (List.toArray out) c) → KeyedOut rv (ks.map PyData.int) vs out → Pf (.done (.ret .none)) s2) :
    wpAny (model Pg wd) Ar (ksk_tree a f rv) Pf Ee st := by
  have ha : a < st.heap.objs.size := Heap.lt_size ho
  obtain ⟨e1, ho1⟩ : ∃ e1, (st.heap.update a (Obj.mapSeq fun _ => (#[] : Array Value))).get? a = some (seqObj "list" #[] e1) := ⟨_, get?_update_seq ho fun _ => #[]⟩
  have hkS : ((st.heap.update a (Obj.mapSeq fun _ => (#[] : Array Value))).push (seqObj "tuple" vs.toArray 0)).objs.size = st.heap.objs.size + 1 := by rw [size_push', Heap.size_update]
  have hk0 : s0.heap.objs.size ≤ ((st.heap.update a (Obj.mapSeq fun _ => (#[] : Array Value))).push (seqObj "tuple" vs.toArray 0)).objs.size := by rw [hkS]; omega
  unfold ksk_tree
  refine wpAny_bind (listItems_at ho rfl ?_)
  refine wpAny_bind (listUpdate_at ho rfl ?_ (by rw [List.size_toArray]; exact hZ) (Nat.zero_le _))
  refine wpAny_bind (seqEpoch_at ho1 rfl ?_)
  refine wpAny_bind (wpAny_newTuple ?_ (by show vs.length ≤ _; exact hZ))
  refine wpAny_bind (wpAny_newList ?_ (Nat.zero_le _))
  refine wpAny_holding ?_
  have th2 : Th fs s0 { st with heap := sortingHeap st.heap a vs } := ⟨th.os, th.bare, Un.new th.un na0 fun b o hb er => sortingHeap_old hb er⟩
  refine keyX_rest (st := { st with heap := sortingHeap st.heap a vs }) (kS := ((st.heap.update a (Obj.mapSeq fun _ => (#[] : Array Value))).push (seqObj "tuple" vs.toArray 0)).objs.size)
    th2 na0 (Heap.get?_none_of_le hk0) naf (fun hb => absurd (hfs _ hb) (Nat.not_lt.mpr hk0)) (Heap.get?_push_size _ rfl) (Heap.get?_push_of_some _ (Heap.get?_push_of_some _ ho1)) (by rw [hkS]; exact Nat.ne_of_gt (Nat.lt_succ_of_lt ha)) hlen hZ hu turn fin
end

/-! ### the rule -/
def toDk : Ky → D
  | .inl i => .int i
  | .inr s => .str s
abbrev toV (q : Ky) : V := kV (kyV q)
theorem rel_toDk {K : PySem.W.Frag} {T : Tk} {H : Hp} (q : Ky) : rel K T H (toDk q) (toV q) := by
  cases q <;> (unfold toDk toV kyV; unfold rel; rfl)
def kysD : List D → Option (List Ky)
  | [] => some []
  | .int i :: ds => (kysD ds).map (.inl i :: ·)
  | .str s :: ds => (kysD ds).map (.inr s :: ·)
  | _ :: _ => none
theorem kysD_map : ∀ qs : List Ky, kysD (qs.map toDk) = some qs
  | [] => rfl
  | .inl i :: qs => by show (kysD (qs.map toDk)).map _ = _; rw [kysD_map qs]; rfl
  | .inr i :: qs => by show (kysD (qs.map toDk)).map _ = _; rw [kysD_map qs]; rfl
theorem kysD_of : ∀ {ds : List D} {qs : List Ky}, kysD ds = some qs → ds = qs.map toDk
  | [], _, e => by cases e; rfl
  | .int i :: ds, qs, e => by
    have e : (kysD ds).map (.inl i :: ·) = some qs := e
    cases h : kysD ds with
    | none => rw [h] at e; cases e
    | some r => rw [h] at e; cases e; rw [kysD_of h]; rfl
  | .str i :: ds, qs, e => by
    have e : (kysD ds).map (.inr i :: ·) = some qs := e
    cases h : kysD ds with
    | none => rw [h] at e; cases e
    | some r => rw [h] at e; cases e; rw [kysD_of h]; rfl
  | .non :: _, _, e => by cases e
  | .bl _ :: _, _, e => by cases e
  | .tup _ :: _, _, e => by cases e
  | .lst _ :: _, _, e => by cases e
  | .dic _ :: _, _, e => by cases e
  | .ref _ :: _, _, e => by cases e
  | .ty _ :: _, _, e => by cases e
  | .xc _ :: _, _, e => by cases e
  | .lam _ _ _ _ _ :: _, _, e => by cases e
  | .tux _ :: _, _, e => by cases e
  | .frz _ :: _, _, e => by cases e
theorem rels_kys {K T H} : ∀ {qs : List Ky} {vs : List V}, rels K T H (qs.map toDk) vs → vs = qs.map toV
  | [], vs, r => by unfold rels at r; exact r
  | q :: qs, vs, r => by
    rw [List.map_cons] at r
    unfold rels at r
    obtain ⟨v, t, rfl, r1, r2⟩ := r
    rw [rels_kys r2, List.map_cons]
    congr 1
    cases q <;> (unfold toDk rel at r1; rw [r1]; rfl)
theorem rels_toKys {K : PySem.W.Frag} {T : Tk} {H : Hp} : ∀ qs : List Ky, rels K T H (qs.map toDk) (qs.map toV)
  | [] => rels_nil
  | q :: qs => rels_cons (rel_toDk q) (rels_toKys qs)
/-- each with what f tells of it -/
def keyedF (F : Fn) : List Ky → Option (List (Ky × Int))
  | [] => some []
  | q :: qs => match F [toDk q] [] with
    | .ok (.int i) [] => (keyedF F qs).map ((q, i) :: ·)
    | _ => none
theorem keyedF_ok {F : Fn} : ∀ {qs : List Ky} {ps : List (Ky × Int)}, keyedF F qs = some ps → qs = ps.map (·.1) ∧ ∀ p ∈ ps, F [toDk p.1] [] = .ok (.int p.2) []
  | [], ps, e => by cases e; simp
  | q :: qs, ps, e => by
    unfold keyedF at e
    split at e
    · rename_i i h1
      cases h : keyedF F qs with
      | none => rw [h] at e; cases e
      | some r =>
        rw [h] at e
        cases e
        obtain ⟨e2, e3⟩ := keyedF_ok h
        refine ⟨by rw [e2]; rfl, fun p hp => ?_⟩
        rcases List.mem_cons.mp hp with z | z
        · rw [z]; exact h1
        · exact e3 p z
    · cases e
abbrev byKey (p q : Ky × Int) : Bool := decide (p.2 ≤ q.2)
section
variable {X : Cx} {W : WX} {j k : Nat} {f : Addr} {fd : FuncData} {ps0 : List Str} {F : Fn}
theorem each_vals {ps : List (Ky × Int)} {us : List Value} (r : Vals (ps.map fun p => toV p.1) us) : PySem.W.EachIs (fun v (p : Ky × Int) => RelV (toV p.1) v) us ps := by
  induction ps generalizing us with
  | nil => cases r; exact .nil
  | cons p ps ih =>
    cases r with
    | cons r1 r2 => exact .cons r1 (ih r2)
theorem vals_each {ps : List (Ky × Int)} {us : List Value} (r : PySem.W.EachIs (fun v (p : Ky × Int) => RelV (toV p.1) v) us ps) : Vals (ps.map fun p => toV p.1) us := by
  induction r with
  | nil => exact .nil
  | cons h r ih => exact .cons h ih
theorem cr_sortK (hq0 : QK X.K = []) (C : Cok X W k) (G : FnG X.prog X.w X.K X.mg X.base j f fd ps0 F) (hk : j + 2 ≤ k) (hb : Binds X.K fd ps0 []) (hl1 : ps0.length = 1) :
    CallRK X (.builtin "sorted") [Str.ofString "key"] fun vs zs H Q => ∃ (a : Addr) (ps : List (Ky × Int)), vs = [V.ref a] ∧ zs = [V.ref f] ∧ SqL X.K H a (ps.map fun p => toV p.1) ∧ (∀ p ∈ ps, F [toDk p.1] [] = .ok (.int p.2) []) ∧
      ∀ p', H p' = none → Q (.ref p') (upd H p' (.lst ((ps.mergeSort byKey).map fun p => toV p.1))) := by
  intro pins s σ H vs zs us ws Q I r rz hh
  obtain ⟨a, ps, rfl, rfl, hs, hF, q⟩ := hh
  obtain ⟨its, rv, hl, hz⟩ := I.list hs
  obtain rfl := Vals.ref1 r
  obtain ⟨w1, rfl, e1⟩ := vals1 rz
  cases e1
  have hlen : its.length = ps.length := by
    have := rv.length
    rw [List.length_map] at this
    exact this.symm
  rw [List.length_map] at hz
  have un0 := C.hr.un
  have cl : X.A.in1.in1.units < cLine := by show X.A.units + 1 + 1 < _; omega
  show wpAny _ _ (call (.builtin "sorted") [.ref a] [(Str.ofString "key", .ref f)]) _ _ s
  refine PySem.W.sorted_of_sort hl.isList (by omega) (ksk_s1 _ _) (fun x => ksk_l1 _ _) fun E' => ?_
  rw [ksk_t1]
  have fsz : ∀ b ∈ frs X.stack, b < s.heap.objs.size := fun b hb => by
    rcases List.mem_cons.mp (I.stkSub b hb) with e | e
    · rw [e]; exact I.lt
    · exact Nat.lt_of_not_le fun z => I.nofs z e
  refine keyX_tree (ks := ps.map (·.2)) (s0 := s) (fs := frs X.stack) (st := { s with heap := PySem.W.copyHeap s.heap its }) ⟨rfl, I.bare, Un.kept fun b u e => PySem.W.copyHeap_old e⟩ (Heap.get?_none_of_le (Nat.le_succ _)) (fun hb => absurd (fsz _ hb) (Nat.not_lt.mpr (Nat.le_succ _))) fsz ?_
    (PySem.W.copyHeap_at s.heap its) (by rw [List.length_map]; exact hlen.symm) (by omega) cl (fun i v kk hv hkk s1 t1 => ?_) fun s2 out c t2 hat ko => ⟨rfl, ?_⟩
  · exact Nat.le_of_lt (Nat.lt_of_lt_of_le (Nat.lt_succ_of_lt (Nat.lt_succ_self _)) (Heap.lt_size (PySem.W.copyHeap_at s.heap its)))
  · have J := inv_th I t1
    have e0 := J.env0
    rw [List.getElem?_map] at hkk
    cases hp : ps[i]? with
    | none => rw [hp] at hkk; cases hkk
    | some p =>
      rw [hp] at hkk
      cases hkk
      have rp : RelV (toV p.1) v := by
        obtain ⟨u, hu, ru⟩ := rv.get (show (ps.map fun p => toV p.1)[i]? = some (toV p.1) by rw [List.getElem?_map, hp]; rfl)
        rw [hv] at hu
        cases hu
        exact ru
      have b := hb s1 [v] J.kIn (by rw [List.append_nil, hl1]; rfl)
      rw [List.append_nil] at b
      have e0' : Env0 X.prog X.w X.K X.mg X.base X.A.in1.in1 X.stack s1 Hno := ⟨e0.frames, e0.mod, fun b o e => ⟨(e0.bs b o e).1, rfl⟩, e0.bsz, e0.funs, fun _ _ => rfl, fun _ _ e => (nomatch e), e0.bare⟩
      refine wpAny_call (codeAny_mono (G.run X.A.in1.in1 X.stack s1 Hno ⟨[v], []⟩ [v] [toV p.1] ⟨[], fun _ => False, []⟩ [toDk p.1] [] (fun u _ => u = V.int p.2) (fun _ _ _ => False)
        ((C.hr.mono hk).in1.in1) C.gd e0' b (.cons rp .nil) ⟨rfl, List.nodup_nil, fun i o e => by simp at e, fun _ h => (nomatch h), fun _ h => h.elim, fun _ h => by rw [hq0] at h; cases h⟩ (rels_cons (rel_toDk _) rels_nil) (by rw [hl1]; rfl) ?_) fun r s' hq => ?_)
      · rw [hF p (List.mem_of_getElem? hp)]
        intro T' H' v' _ _ rv'
        exact rel_int_iff.mp rv'
      · cases r with
        | error e =>
          obtain ⟨_, _, _, _, _, _, _, _, _, _, _, _, z⟩ := hq
          exact z
        | ok fl =>
          cases fl with
          | ret u =>
            obtain ⟨v', H', os', bare', un', hok', r', rfl⟩ := hq
            obtain ⟨t, rfl⟩ := r'
            exact ⟨⟨t, rfl⟩, os', bare', ⟨un'.keep, un'.slot, fun _ _ _ _ _ => rfl, un'.there, fun _ _ q => (nomatch q), fun _ _ _ q => (nomatch q), fun _ _ q => (nomatch q)⟩⟩
          | next => exact False.elim hq
          | brk => exact False.elim hq
          | cont => exact False.elim hq
  · have he := PySem.W.keyedOut_each (R := fun v (p : Ky × Int) => RelV (toV p.1) v) (fun p : Ky × Int => PyData.int p.2) (by rw [List.map_map] at ko; exact ko) (each_vals rv)
    rw [PySem.W.dataLe_int] at he
    have hv := vals_each he
    have hn : H (s.heap.objs.size + 1) = none := I.hok.fresh (Nat.le_succ _)
    have hlen2 : ((ps.mergeSort byKey).map fun p => toV p.1).length ≤ sizeLine := by rw [List.length_map, List.length_mergeSort]; omega
    have new : ObjOk X.prog X.w (upd H (s.heap.objs.size + 1) (.lst ((ps.mergeSort byKey).map fun p => toV p.1))) s2.heap (s.heap.objs.size + 1) (.lst ((ps.mergeSort byKey).map fun p => toV p.1)) := ⟨hlen2, out, c, hv, hat⟩
    exact ⟨.ref _, _, inv_thNew I t2 (Nat.le_succ _) new, rfl, q _ hn⟩
def fSortK (F : Fn) (g : Exs) : Exs := fun env h => (g env h).bind fun ds h1 => ofO (match ds with | [d] => (itemsL h1 d).bind kysD | _ => none) fun qs => ofO (keyedF F qs) fun ps => .ok ((ps.mergeSort byKey).map fun p => toDk p.1) h1
theorem sf_sortK (hq0 : QK X.K = []) (C : Cok X W k) (G : FnG X.prog X.w X.K X.mg X.base j f fd ps0 F) (hk : j + 2 ≤ k) {e : Expr} {g : Exs} {x : Str} {p p2 pos kp : Pos} (hgx : Gl X x) (hmx : X.mg x = some (.ref f)) (hb : Binds X.K fd ps0 [])
    (hg : Gl X "sorted") (hm : X.mg "sorted" = none) (ha : SA X W [e] g) (hl1 : ps0.length = 1 := by rfl) (hdb : (x == ("__debug__" : Str)) = false := by decide)
    (he : backTo pos (starEach [e] X.env) = (false, eval e X.env) :: backTo pos (starEach [] X.env) := by rfl) (hpl : (backTo pos (starEach [e] X.env)).any (·.1) = false := by rfl)
    (hall : (backToKw pos (keywordEach [⟨some (Str.ofString "key"), .Name x p2, kp⟩] X.env)).all (·.1.isSome) = true := by rfl) (hnone : (backToKw pos (keywordEach [⟨some (Str.ofString "key"), .Name x p2, kp⟩] X.env)).any (·.1.isNone) = false := by rfl)
    (hks : (backToKw pos (keywordEach [⟨some (Str.ofString "key"), .Name x p2, kp⟩] X.env)).filterMap (·.1) = [Str.ofString "key"] := by rfl) :
    SF X W (.Call (.Name "sorted" p) [e] [⟨some (Str.ofString "key"), .Name x p2, kp⟩] pos) (fSortK F g) :=
  PE.mono (pe_callBK (cr_sortK hq0 C G hk hb hl1) hg hm boot_sorted ha.pa (pk_cons (pe_glob hgx hmx (v := V.ref f) rfl hdb) pk_nil) (by decide) (by decide) he hpl hall hnone hks) fun σ H Q hh => by
    obtain ⟨T, env, h, r1, r2, a⟩ := hh
    refine ⟨T, env, h, r1, r2, a.bind0 fun ds h1 T1 H1 vs e l1 q1 rvs a1 => ?_⟩
    obtain ⟨qs, e1, a2⟩ := After.ofO a1
    obtain ⟨ps, e2, a2⟩ := After.ofO a2
    split at e1
    · rename_i d
      obtain ⟨v, rfl, rv⟩ := rels_one rvs
      cases e3 : itemsL h1 d with
      | none => rw [e3] at e1; cases e1
      | some xs =>
        rw [e3] at e1
        have e1 : kysD xs = some qs := e1
        obtain ⟨b, ws, rfl, sq, rr⟩ := rel_itemsL q1 rv e3
        rw [kysD_of e1] at rr
        rw [rels_kys rr] at sq
        obtain ⟨e4, e5⟩ := keyedF_ok e2
        rw [e4, List.map_map] at sq
        refine ⟨b, ps, rfl, rfl, sq, e5, fun p hp => ?_⟩
        exact a2 (T1.blk p) (upd H1 p (.lst ((ps.mergeSort byKey).map fun p => toV p.1))) _ (l1.trans r1.mut (Le.blk hp)) (q1.blk hp) ⟨p, _, rfl, upd_same, fun z => q1.mut.free hp (q1.sub p z), .inr rfl, l1.was q1.mut hp, by
          have := rels_toKys (K := X.K) (T := T1.blk p) (H := upd H1 p (.lst ((ps.mergeSort byKey).map fun p => toV p.1))) ((ps.mergeSort byKey).map (·.1))
          rw [List.map_map, List.map_map] at this
          exact this⟩
    · cases e1
end
def k1D (h : HH) (ds : List D) : Option (List Ky) := match ds with | [d] => (itemsL h d).bind kysD | _ => none
@[simp] theorem k1D_l {h : HH} {xs : List D} : k1D h [.lst xs] = kysD xs := rfl
@[simp ↓] theorem wp_fSortK {F : Fn} {g : Exs} {env : En} {h : HH} {qs : List D → HH → Prop} {e : String → HH → Prop} : Wp qs e (fSortK F g env h) ↔ Wp (fun ds h1 => Wo (fun ks => Wo (fun ps => qs ((ps.mergeSort byKey).map fun p => toDk p.1) h1) (keyedF F ks)) (k1D h1 ds)) e (g env h) := by
  unfold fSortK
  rw [wp_bind]
  exact wp_congr fun d h1 => wp_wo fun ks => wp_ofO
end Pu

namespace Pu
open PySem PySem.Spec PyProof.Rows L2

/-! ### list(d), its keys; str(x); text.index; sorted of numbers or texts -/
def cLstX (ds : List D) (h : HH) : Option (List D) := match ds with
  | [d] => match dicD h d with
    | some kvs => some (kvs.map fun p => toDk p.1)
    | none => items h d
  | _ => none
theorem relk_keys {K T H} : ∀ {ds : List (Ky × D)} {vs : List (Key × V)}, relk K T H ds vs → (vs.map fun kv => kV kv.1) = ds.map fun p => toV p.1
  | [], vs, r => by unfold relk at r; rw [r]; rfl
  | (k, d) :: ds, vs, r => by
    unfold relk at r
    obtain ⟨v, t, rfl, r1, r2⟩ := r
    rw [List.map_cons, List.map_cons, relk_keys r2]
section
variable {X : Cx} {W : WX} {k : Nat}
theorem sf_listX (C : Cok X W k) {x : Str} {e : Expr} {f : Exs} {p pos : Pos} (hg : Gl X x) (hm : X.mg x = none) (hv : bootBuiltins x = some (.type "list")) (ha : SA X W [e] f)
    (hn : x ≠ "__name__" := by decide) (hdb : (x == ("__debug__" : Str)) = false := by decide)
    (he : starEach [e] X.env = (false, eval e X.env) :: starEach [] X.env := by rfl) (hpl : (backTo pos (starEach [] X.env)).any (·.1) = false := by rfl) : SF X W (.Call (.Name x p) [e] [] pos) (fCall cLstX f) :=
  PE.mono (pe_callTy (call_list_of.or (call_listD C.calm)) hg hm hv ha.pa hn hdb he hpl) fun σ H Q hh => by
    obtain ⟨T, env, h, r1, r2, a⟩ := hh
    refine ⟨T, env, h, r1, r2, a.bind0 fun ds h1 T1 H1 vs e l1 q1 rvs a1 => ?_⟩
    cases e1 : cLstX ds h1 with
    | none => rw [e1] at a1; exact False.elim a1
    | some xs =>
      rw [e1] at a1
      have a1 : After X.K X.mg W T H σ (qF X.K H) Q (.ok xs h1) := a1
      unfold cLstX at e1
      split at e1
      · obtain ⟨v, rfl, rv⟩ := rels_one rvs
        split at e1
        · rename_i kvs e2
          cases e1
          obtain ⟨b, ws, rfl, s, rr⟩ := rel_dicD q1 rv e2
          refine .inr ⟨b, ws, rfl, s, fun p hp => ?_⟩
          rw [relk_keys rr]
          exact a1 (T1.blk p) (upd H1 p (.lst (kvs.map fun p => toV p.1))) _ (l1.trans r1.mut (Le.blk hp)) (q1.blk hp) ⟨p, _, rfl, upd_same, fun z => q1.mut.free hp (q1.sub p z), .inr rfl, l1.was q1.mut hp, by
            have := rels_toKys (K := X.K) (T := T1.blk p) (H := upd H1 p (.lst (kvs.map fun p => toV p.1))) (kvs.map (·.1))
            rw [List.map_map, List.map_map] at this
            exact this⟩
        · obtain ⟨b, ws, rfl, s, rr⟩ := rel_items q1 rv e1
          refine .inl ⟨b, ws, rfl, s, fun p hp => ?_⟩
          exact a1 (T1.blk p) (upd H1 p (.lst ws)) _ (l1.trans r1.mut (Le.blk hp)) (q1.blk hp) ⟨p, ws, rfl, upd_same, fun z => q1.mut.free hp (q1.sub p z), .inr rfl, l1.was q1.mut hp, rels_mono (Le.blk hp) q1.mut xs ws rr⟩
      · cases e1
def cStr (ds : List D) (h : HH) : R D := match ds with
  | [.int i] => if i.natAbs < 2 ^ 61 then .ok (.str (toString i)) h else .stuck
  | [.str s] => .ok (.str s) h
  | _ => .stuck
theorem log_small {n : Nat} (h : n < 2 ^ 61) : n.log2 < 1920 := by
  by_cases h0 : n = 0
  · subst h0; decide
  · have := (Nat.log2_lt h0 (k := 61)).mpr h
    omega
theorem c_str : CallR X (.type "str") (rdC X cStr) := CallR.mono (call_str_int.or SkE.call_str_str) fun xs H Q q => by
  obtain ⟨T, h, ds, r, rs, q⟩ := q
  obtain ⟨d, h', e, q⟩ := rdO_ok q
  unfold cStr at e
  split at e
  · rename_i i
    split at e
    · rename_i hi
      cases e
      obtain ⟨v, rfl, rv⟩ := rels_one rs
      rw [rel_int_iff] at rv
      subst rv
      exact .inl ⟨i, rfl, log_small hi, q T H _ Le.refl r (rel_str_iff.mpr rfl)⟩
    · cases e
  · cases e
    obtain ⟨v, rfl, rv⟩ := rels_one rs
    rw [rel_str_iff] at rv
    subst rv
    exact .inr ⟨_, rfl, q T H _ Le.refl r (rel_str_iff.mpr rfl)⟩
  · cases e
def mSIdx (d : D) (ds : List D) (h : HH) : R D := match d, ds with
  | .str a, [.str b] => ofO (Builtin.Str.occurrences (Str.ofString a) (Str.ofString b) 0 (Str.ofString a).length 1).head? fun i => .ok (.int (i : Nat)) h
  | _, _ => .stuck
theorem m_sidx : MtR X "str.index" (rdM X mSIdx) := MtR.mono mt_sindex fun x xs H Q q => by
  obtain ⟨T, h, d, ds, r, rv, rs, q⟩ := q
  obtain ⟨d', h', e, q⟩ := rdO_ok q
  unfold mSIdx at e
  split at e
  · rename_i a b
    obtain ⟨i, e1, e⟩ := ofO_ok e
    cases e
    obtain ⟨v, rfl, rv2⟩ := rels_one rs
    rw [rel_str_iff] at rv rv2
    subst rv; subst rv2
    cases ho : Builtin.Str.occurrences (Str.ofString a) (Str.ofString b) 0 (Str.ofString a).length 1 with
    | nil => rw [ho] at e1; cases e1
    | cons j0 rest =>
      rw [ho] at e1
      cases e1
      exact ⟨_, _, _, rest, rfl, rfl, ho, q T H _ Le.refl r (rel_int_iff.mpr rfl)⟩
  · cases e
/-- o.m(e, ..) of a text -/
theorem se_mS {id : String} {name : Str} {o e : Expr} {es : List Expr} {m : D → List D → HH → R D} {f : Ex} {g : Exs} {apos cpos : Pos} (slot : Slot "str" name id) (hty : typeOf (.builtin id) = pure (.type "method_descriptor")) (hm : MtR X id (rdM X m)) (ho : SE X W o f) (ha : SA X W (e :: es) g)
    (hbase : attributeBase o name X.env (eval o X.env) = eval o X.env := by rfl)
    (hfew : ((backTo cpos (starEach (e :: es) X.env)).all (fun x => !x.1) && (backToKw cpos (keywordEach [] X.env)).all (fun x => x.1.isSome)
      && decide ((e :: es).length + ([] : List Keyword).length + (if ([] : List Keyword).isEmpty then 0 else 1) < 30)) = true := by rfl)
    (hline : (apos.endLine == cpos.line) = true := by rfl) (hs : starEach (e :: es) X.env = (false, eval e X.env) :: starEach es X.env := by rfl) (hplain : (backTo cpos (starEach es X.env)).any (·.1) = false := by rfl) :
    SE X W (.Call (.Attribute o name apos) (e :: es) [] cpos) (eM cS m f g) :=
  PE.mono (pe_bm PySem.F.plainAttrs_str slot hty hm ho ha.pa hbase hfew hline hs hplain) fun _ _ _ => rd_M fun _ _ _ _ _ r q e => cS_ty r q e
/-! sorted(xs) -/
theorem cr_sortedSX : CallR X (.builtin "sorted") fun vs H Q => ∃ (a : Addr) (ss : List String), vs = [V.ref a] ∧ SqL X.K H a ((ss.map Str.ofString).map V.str) ∧ ss.length < 64 ∧
    ∀ (p : Addr), H p = none → Q (.ref p) (upd H p (.lst (((sortS ss).map Str.ofString).map V.str))) := CallR.mono cr_sortedS fun vs H Q q => by
  obtain ⟨a, ss, rfl, s, hl, q⟩ := q
  exact ⟨a, _, rfl, s, by rw [List.length_map]; exact hl, fun ys p hp hs hn => by rw [sortS_of hp hs]; exact q p hn⟩
def srtD (xs : List D) : Option (List D) := match intsD xs with
  | some ns => some ((sortM ns).map D.int)
  | none => match strsD xs with
    | some ss => if ss.length < 64 then some ((sortS ss).map D.str) else none
    | none => none
def fSortX (f : Exs) : Exs := fun env h => (f env h).bind fun ds h1 => ofO (match ds with | [d] => itemsL h1 d | _ => none) fun xs => ofO (srtD xs) fun ys => .ok ys h1
theorem sf_sortX {e : Expr} {f : Exs} {p pos : Pos} (C : Cok X W k) (hg : Gl X "sorted") (hm : X.mg "sorted" = none) (ha : SA X W [e] f)
    (he : starEach [e] X.env = (false, eval e X.env) :: starEach [] X.env := by rfl) (hpl : (backTo pos (starEach [] X.env)).any (·.1) = false := by rfl) : SF X W (.Call (.Name "sorted" p) [e] [] pos) (fSortX f) :=
  PE.mono (pe_callB (cr_sortedI.or cr_sortedSX) hg hm boot_sorted ha.pa (by decide) (by decide) he hpl) fun σ H Q hh => by
    obtain ⟨T, env, h, r1, r2, a⟩ := hh
    refine ⟨T, env, h, r1, r2, a.bind0 fun ds h1 T1 H1 vs e l1 q1 rvs a1 => ?_⟩
    obtain ⟨xs, e1, a2⟩ := After.ofO a1
    obtain ⟨ys, e3, a2⟩ := After.ofO a2
    split at e1
    · rename_i d
      obtain ⟨v, rfl, rv⟩ := rels_one rvs
      obtain ⟨b, ws, rfl, sq, rr⟩ := rel_itemsL q1 rv e1
      unfold srtD at e3
      split at e3
      · rename_i ns e4
        cases e3
        rw [rels_ints rr e4] at sq
        refine .inl ⟨b, ns, rfl, sq, fun ns' p hp1 hp2 hp => ?_⟩
        have es : ns' = sortM ns := sortedM_ext hp2 (sortM_sorted ns) (hp1.trans (sortM_perm ns).symm)
        subst es
        exact a2 (T1.blk p) (upd H1 p (.lst ((sortM ns).map V.int))) _ (l1.trans r1.mut (Le.blk hp)) (q1.blk hp) ⟨p, _, rfl, upd_same, fun z => q1.mut.free hp (q1.sub p z), .inr rfl, l1.was q1.mut hp, rels_ofInts _⟩
      · split at e3
        · rename_i ss e4
          split at e3
          · rename_i hl
            cases e3
            rw [rels_txts rr e4] at sq
            refine .inr ⟨b, ss, rfl, sq, hl, fun p hp => ?_⟩
            exact a2 (T1.blk p) (upd H1 p (.lst (((sortS ss).map Str.ofString).map V.str))) _ (l1.trans r1.mut (Le.blk hp)) (q1.blk hp) ⟨p, _, rfl, upd_same, fun z => q1.mut.free hp (q1.sub p z), .inr rfl, l1.was q1.mut hp, rels_ofStrs _⟩
          · cases e3
        · cases e3
    · cases e1
end
@[simp] theorem cLstX_t {h : HH} {xs : List D} : cLstX [.tup xs] h = some xs := rfl
@[simp] theorem cLstX_l {h : HH} {xs : List D} : cLstX [.lst xs] h = some xs := rfl
@[simp] theorem cLstX_f {h : HH} {xs : List D} : cLstX [.frz xs] h = some xs := rfl
@[simp] theorem cLstX_d {h : HH} {kvs : List (Ky × D)} : cLstX [.dic kvs] h = some (kvs.map fun p => toDk p.1) := rfl
theorem cLstX_rd {h : HH} {i : Nat} {kvs : List (Ky × D)} (e : h[i]? = some (.dic kvs)) : cLstX [.ref i] h = some (kvs.map fun p => toDk p.1) := by
  unfold cLstX
  have : dicD h (.ref i) = some kvs := by rw [dicD_ref_, e]
  dsimp only
  rw [this]
theorem cLstX_rl {h : HH} {i : Nat} {xs : List D} (e : h[i]? = some (.lst xs)) : cLstX [.ref i] h = some xs := by
  unfold cLstX
  have : dicD h (.ref i) = none := by rw [dicD_ref_, e]
  dsimp only
  rw [this]
  exact itemsL_ref e
@[simp] theorem wp_cStrI {i : Int} {h : HH} {q : D → HH → Prop} {e : String → HH → Prop} : Wp q e (cStr [.int i] h) ↔ i.natAbs < 2 ^ 61 ∧ q (.str (toString i)) h := wp_if
@[simp] theorem wp_cStrS {i : String} {h : HH} {q : D → HH → Prop} {e : String → HH → Prop} : Wp q e (cStr [.str i] h) ↔ q (.str i) h := Iff.rfl
@[simp] theorem cS_s {h : HH} {s : String} : cS h (.str s) = true := rfl
@[simp] theorem wp_mSIdx {a b : String} {h : HH} {q : D → HH → Prop} {e : String → HH → Prop} : Wp q e (mSIdx (.str a) [.str b] h) ↔ Wo (fun i : Nat => q (.int i) h) (Builtin.Str.occurrences (Str.ofString a) (Str.ofString b) 0 (Str.ofString a).length 1).head? := wp_wo fun i => Iff.rfl
@[simp ↓] theorem wp_fSortX {f : Exs} {env : En} {h : HH} {qs : List D → HH → Prop} {e : String → HH → Prop} : Wp qs e (fSortX f env h) ↔ Wp (fun ds h1 => Wo (fun xs => Wo (fun ys => qs ys h1) (srtD xs)) (match ds with | [d] => itemsL h1 d | _ => none)) e (f env h) := by
  unfold fSortX
  rw [wp_bind]
  exact wp_congr fun d h1 => wp_wo fun xs => wp_ofO
theorem srtD_ints {ns : List Int} : srtD (ns.map D.int) = some ((sortM ns).map D.int) := by
  unfold srtD
  rw [intsD_map]
theorem srtD_strs {ns : List String} (h : ns.length < 64) : srtD (ns.map D.str) = some ((sortS ns).map D.str) := by
  unfold srtD
  rw [strsD_map]
  cases ns with
  | nil => rfl
  | cons s r =>
    have : intsD ((s :: r).map D.str) = none := rfl
    rw [this]
    dsimp only
    rw [if_pos h]
end Pu

namespace Pu
open PySem PySem.Spec PyProof.Rows L2

/-! ### boxes and names of boxes -/
instance decKyM (k : Ky) : (ks : List Ky) → Decidable (k ∈ ks)
  | [] => isFalse (fun e => by cases e)
  | a :: r => if h : k = a then isTrue (by rw [h]; exact List.mem_cons_self) else match decKyM k r with
    | .isTrue h2 => isTrue (List.mem_cons_of_mem _ h2)
    | .isFalse h2 => isFalse fun e => (List.mem_cons.mp e).elim h h2
def kD : Ky → D
  | .inl i => .int i
  | .inr s => .str s
theorem kD_toD (k : Ky) : kD k = toDk k := by cases k <;> rfl
theorem kD_map (ks : List Ky) : ks.map kD = ks.map toDk := List.map_congr_left fun k _ => kD_toD k
abbrev kT (ks : List Ky) : D := .tup (ks.map kD)
def all8 : List Ky := [.inl 0, .inl 1, .inl 2, .inl 3, .inr "A", .inr "B", .inr "C", .inr "D"]
abbrev P8 (k : Ky) : Prop := k ∈ all8
def isIK : Ky → Bool
  | .inl _ => true
  | _ => false
def isSK : Ky → Bool
  | .inr _ => true
  | _ => false
def intsK (ks : List Ky) : List Int := ks.filterMap fun k => match k with | .inl i => some i | _ => none
def strsK (ks : List Ky) : List String := ks.filterMap fun k => match k with | .inr i => some i | _ => none
theorem intsK_filter : ∀ ks : List Ky, (ks.filter isIK).map kD = (intsK ks).map D.int
  | [] => rfl
  | .inl i :: ks => by
    have := intsK_filter ks
    unfold intsK at this ⊢
    rw [List.filter_cons_of_pos rfl, List.map_cons, this]; rfl
  | .inr i :: ks => by
    have := intsK_filter ks
    unfold intsK at this ⊢
    rw [List.filter_cons_of_neg (fun z => by cases z), this]; rfl
theorem strsK_filter : ∀ ks : List Ky, (ks.filter isSK).map kD = (strsK ks).map D.str
  | [] => rfl
  | .inr i :: ks => by
    have := strsK_filter ks
    unfold strsK at this ⊢
    rw [List.filter_cons_of_pos rfl, List.map_cons, this]; rfl
  | .inl i :: ks => by
    have := strsK_filter ks
    unfold strsK at this ⊢
    rw [List.filter_cons_of_neg (fun z => by cases z), this]; rfl
theorem intsK_mem {i : Int} {ks : List Ky} : i ∈ intsK ks ↔ .inl i ∈ ks := by
  unfold intsK
  rw [List.mem_filterMap]
  constructor
  · rintro ⟨k, hk, e⟩
    cases k with
    | inl j => cases e; exact hk
    | inr j => cases e
  · exact fun h => ⟨_, h, rfl⟩
theorem strsK_mem {i : String} {ks : List Ky} : i ∈ strsK ks ↔ .inr i ∈ ks := by
  unfold strsK
  rw [List.mem_filterMap]
  constructor
  · rintro ⟨k, hk, e⟩
    cases k with
    | inr j => cases e; exact hk
    | inl j => cases e
  · exact fun h => ⟨_, h, rfl⟩
/-- rising, each once -/
def rk (ks : List Ky) : List Ky := all8.filter fun k => decide (k ∈ ks)
theorem rk_len {ks : List Ky} : (rk ks).length ≤ 8 := List.length_filter_le _ _
theorem rk_mem {ks : List Ky} {k : Ky} : k ∈ rk ks ↔ k ∈ all8 ∧ k ∈ ks := by
  unfold rk; rw [List.mem_filter, decide_eq_true_eq]
theorem rk_sub {ks : List Ky} : ∀ k ∈ rk ks, k ∈ all8 := fun k h => (rk_mem.mp h).1
def ints4 : List Int := [0, 1, 2, 3]
def strs4 : List String := ["A", "B", "C", "D"]
theorem all8_split : all8 = ints4.map Sum.inl ++ strs4.map Sum.inr := rfl
theorem strs4_sorted : strs4.Pairwise ltS := by unfold strs4 ltS; decide +kernel
theorem rk_split {ks : List Ky} (hs : ∀ k ∈ ks, k ∈ all8) : (rk ks).map kD = (sortU (intsK ks)).map D.int ++ (sortUS (strsK ks)).map D.str := by
  have e1 : sortU (intsK ks) = ints4.filter fun i => decide (Sum.inl i ∈ ks) := by
    refine sorted_ext (sortU_sorted _) (List.Pairwise.filter _ (by unfold ints4; decide)) fun i => ?_
    rw [sortU_mem, intsK_mem, List.mem_filter, decide_eq_true_eq]
    refine ⟨fun h => ⟨?_, h⟩, fun h => h.2⟩
    have := hs _ h
    rw [all8_split] at this
    simpa using this
  have e2 : sortUS (strsK ks) = strs4.filter fun i => decide (Sum.inr i ∈ ks) := by
    refine ltS_ext (sortUS_sorted _) (List.Pairwise.filter _ strs4_sorted) fun i => ?_
    rw [sortUS_mem, strsK_mem, List.mem_filter, decide_eq_true_eq]
    refine ⟨fun h => ⟨?_, h⟩, fun h => h.2⟩
    have := hs _ h
    rw [all8_split] at this
    simpa using this
  rw [e1, e2]
  unfold rk
  rw [all8_split, List.filter_append, List.map_append, List.filter_map, List.filter_map, List.map_map, List.map_map]
  rfl
@[simp] theorem eqv_kk {a b : Ky} : eqv (kD a) (kD b) = decide (a = b) := by
  cases a <;> cases b <;> simp [kD]
theorem pl_kD (k : Ky) : plD (kD k) := by cases k <;> simp [kD]
theorem isDs_kys : ∀ ks : List Ky, isDs (ks.map kD) = true
  | [] => by simp
  | k :: ks => by rw [List.map_cons, isDs_cons, isDs_kys ks, (pl_kD k).1]; rfl
theorem deeps_kys : ∀ ks : List Ky, deeps (ks.map kD) = 0
  | [] => by simp
  | k :: ks => by
    rw [List.map_cons, deeps_cons, deeps_kys ks]
    cases k <;> simp [kD, deep]
theorem any_kys (ks : List Ky) (k : Ky) : ((ks.map kD).any fun z => eqv z (kD k)) = decide (k ∈ ks) := by
  induction ks with
  | nil => rfl
  | cons a l ih =>
    rw [List.map_cons, List.any_cons, ih, eqv_kk, Bool.eq_iff_iff]
    by_cases h : a = k
    · simp [h]
    · have : ¬ k = a := fun z => h z.symm
      simp [h, this]
theorem in_kysT {h : HH} {ks : List Ky} {k : Ky} : in? h (kD k) (.tup (ks.map kD)) = some (decide (k ∈ ks)) := by
  rw [in_tup (pl_kD k) (isDs_kys ks) (by rw [deeps_kys]; omega), any_kys]
theorem in_kysL {h : HH} {ks : List Ky} {k : Ky} : in? h (kD k) (.lst (ks.map kD)) = some (decide (k ∈ ks)) := by
  rw [in_lst (pl_kD k) (isDs_kys ks) (by rw [deeps_kys]; omega), any_kys]
theorem same_kk {h : HH} {a b : Ky} : same? h (kD a) (kD b) = some (decide (a = b)) := by
  rw [same_pl (pl_kD a) (pl_kD b), eqv_kk]
theorem cl_kD {n : Nat} (k : Ky) : cl n (kD k) = true := by cases k <;> (unfold kD cl; rfl)
theorem cls_kys {n : Nat} : ∀ ks : List Ky, cls n (ks.map kD) = true
  | [] => by unfold cls; rfl
  | k :: ks => by rw [List.map_cons, cls, cl_kD, cls_kys ks]; rfl
theorem cl_kys {n : Nat} (ks : List Ky) : cl n (kT ks) = true := by unfold cl; exact cls_kys ks
theorem cls_of {n : Nat} : ∀ {ds : List D}, (∀ d ∈ ds, cl n d = true) → cls n ds = true
  | [], _ => by unfold cls; rfl
  | d :: ds, h => by rw [cls, h d (by simp), cls_of fun x hx => h x (by simp [hx])]; rfl
theorem eqvAll_kys : ∀ (as bs : List Ky), PyData.eqvAll (toPs (as.map kD)) (toPs (bs.map kD)) = decide (as = bs)
  | [], [] => rfl
  | [], b :: bs => rfl
  | a :: as, [] => rfl
  | a :: as, b :: bs => by
    have ih := eqvAll_kys as bs
    have e := eqv_kk (a := a) (b := b)
    show (PyData.eqv (toP (kD a)) (toP (kD b)) && PyData.eqvAll (toPs (as.map kD)) (toPs (bs.map kD))) = _
    rw [ih]
    unfold eqv at e
    rw [e, Bool.eq_iff_iff]
    simp
theorem pl_kys (ks : List Ky) : plD (.tup (ks.map kD)) := ⟨by simp [isDs_kys], by simp [deeps_kys]⟩
theorem same_kys {h : HH} {as bs : List Ky} : same? h (.tup (as.map kD)) (.tup (bs.map kD)) = some (decide (as = bs)) := by
  rw [same_pl (pl_kys as) (pl_kys bs), eqv_tup, eqvAll_kys]

/-! ### parts of numbers -/
inductive Pt where
  | num (i : Int) | nm (s : String) | bin (w : String) (a b : Pt)
namespace Pt
def toD : Pt → D
  | num i => .int i
  | nm s => .str s
  | bin w a b => .tup [.str w, toD a, toD b]
def ok : Pt → Prop
  | num i => 0 ≤ i ∧ i ≤ 999
  | nm s => s ∈ ["k", "l", "m", "n"]
  | bin w a b => w ∈ ["plus", "minus"] ∧ ok a ∧ ok b
def ht : Pt → Nat
  | bin _ a b => max (ht a) (ht b) + 1
  | _ => 0
def c0 : Pt → Int
  | num i => i
  | nm _ => 0
  | bin w a b => if w = "plus" then c0 a + c0 b else c0 a - c0 b
def cf (s : String) : Pt → Int
  | num _ => 0
  | nm t => if t = s then 1 else 0
  | bin w a b => if w = "plus" then cf s a + cf s b else cf s a - cf s b
/-- the names in it -/
def names : Pt → List String
  | num _ => []
  | nm s => [s]
  | bin _ a b => names a ++ names b
theorem names_ok : ∀ {p : Pt}, ok p → ∀ s ∈ names p, s ∈ ["k", "l", "m", "n"]
  | num _, _, s, h => by cases h
  | nm t, o, s, h => by rw [names, List.mem_singleton] at h; rw [h]; exact o
  | bin w a b, o, s, h => by
    rw [names, List.mem_append] at h
    exact h.elim (names_ok o.2.1 s) (names_ok o.2.2 s)
theorem names_len : ∀ {p : Pt}, (names p).length ≤ 2 ^ ht p
  | num _ => by simp [names]
  | nm _ => by simp [names, ht]
  | bin w a b => by
    have h1 := names_len (p := a)
    have h2 := names_len (p := b)
    have h3 : 2 ^ ht a ≤ 2 ^ max (ht a) (ht b) := Nat.pow_le_pow_right (by decide) (by omega)
    have h4 : 2 ^ ht b ≤ 2 ^ max (ht a) (ht b) := Nat.pow_le_pow_right (by decide) (by omega)
    simp only [names, ht, List.length_append, Nat.pow_succ]
    omega
theorem isD_toD : ∀ p : Pt, isD p.toD = true
  | num _ => rfl
  | nm _ => rfl
  | bin w a b => by simp [toD, isD, isD_toD a, isD_toD b]
theorem deep_toD : ∀ p : Pt, deep p.toD ≤ ht p
  | num _ => by simp [toD, deep]
  | nm _ => by simp [toD, deep]
  | bin w a b => by
    have := deep_toD a
    have := deep_toD b
    simp [toD, deep, ht]
    omega
theorem cl_toD {n : Nat} : ∀ p : Pt, cl n p.toD = true
  | num _ => by unfold toD cl; rfl
  | nm _ => by unfold toD cl; rfl
  | bin w a b => by
    unfold toD cl cls cls cls cls
    rw [cl_toD a, cl_toD b]
    unfold cl; rfl
end Pt

/-! ### deeds of patterns -/
inductive Pd where
  | w1 (w : String) (a : Ky) | wn (w : String) (a : Ky) (n : Pt) | wb (w : String) (a b : Ky) | cond (a : Ky) (d : Pd)
namespace Pd
def toD : Pd → D
  | w1 w a => .tup [.str w, kD a]
  | wn w a n => .tup [.str w, kD a, n.toD]
  | wb w a b => .tup [.str w, kD a, kD b]
  | cond a d => .tup [.str "if", kD a, toD d]
def lone (P : Ky → Prop) (N : Pt → Prop) : Pd → Prop
  | w1 w a => (w = "turn" ∨ w = "left" ∨ w = "right") ∧ P a
  | wn w a n => (w = "put" ∨ w = "more") ∧ P a ∧ N n
  | wb w a b => (w = "copy" ∨ w = "sum" ∨ w = "less" ∨ w = "part") ∧ P a ∧ P b
  | cond _ _ => False
def ok (P : Ky → Prop) (N : Pt → Prop) : Pd → Prop
  | cond a d => P a ∧ lone P N d
  | d => lone P N d
theorem ok_lone {P N} {d : Pd} (h : lone P N d) : ok P N d := by cases d <;> first | exact h | exact h.elim
theorem lone_mono {P P' : Ky → Prop} {N N' : Pt → Prop} (hp : ∀ k, P k → P' k) (hn : ∀ n, N n → N' n) : ∀ {d : Pd}, lone P N d → lone P' N' d
  | w1 _ _, o => ⟨o.1, hp _ o.2⟩
  | wn _ _ _, o => ⟨o.1, hp _ o.2.1, hn _ o.2.2⟩
  | wb _ _ _, o => ⟨o.1, hp _ o.2.1, hp _ o.2.2⟩
  | cond _ _, o => o.elim
theorem ok_mono {P P' : Ky → Prop} {N N' : Pt → Prop} (hp : ∀ k, P k → P' k) (hn : ∀ n, N n → N' n) : ∀ {d : Pd}, ok P N d → ok P' N' d
  | w1 _ _, o => lone_mono hp hn (d := .w1 _ _) o
  | wn _ _ _, o => lone_mono hp hn (d := .wn _ _ _) o
  | wb _ _ _, o => lone_mono hp hn (d := .wb _ _ _) o
  | cond _ _, o => ⟨hp _ o.1, lone_mono hp hn o.2⟩
theorem isD_toD : ∀ d : Pd, isD d.toD = true
  | w1 _ a => by simp [toD, isD, (pl_kD a).1]
  | wn _ a n => by simp [toD, isD, (pl_kD a).1, n.isD_toD]
  | wb _ a b => by simp [toD, isD, (pl_kD a).1, (pl_kD b).1]
  | cond a d => by simp [toD, isD, (pl_kD a).1, isD_toD d]
theorem cl_toD {n : Nat} : ∀ d : Pd, cl n d.toD = true
  | w1 _ a => by
    unfold toD cl cls cls cls
    rw [cl_kD a]; unfold cl; rfl
  | wn _ a m => by
    unfold toD cl cls cls cls cls
    rw [cl_kD a, m.cl_toD]; unfold cl; rfl
  | wb _ a b => by
    unfold toD cl cls cls cls cls
    rw [cl_kD a, cl_kD b]; unfold cl; rfl
  | cond a d => by
    unfold toD cl cls cls cls cls
    rw [cl_kD a, cl_toD d]; unfold cl; rfl
end Pd
/-- a pattern -/
abbrev patD (ds : List Pd) : D := .tup (ds.map Pd.toD)

/-! ### what is looked at, what is put; what is open -/
def looksP : Pd → List Ky
  | .cond a d => rk (a :: looksP d)
  | .w1 _ a => [a]
  | .wn w a _ => if w = "put" then [] else [a]
  | .wb w a b => if w = "copy" then [b] else rk [a, b]
def putsP : Pd → List Ky
  | .cond _ _ => []
  | .w1 _ a => [a]
  | .wn _ a _ => [a]
  | .wb _ a _ => [a]
def aheadP (d : Pd) (b : List Ky) : List Ky := rk (looksP d ++ b.filter fun x => !decide (x ∈ putsP d))
def openP : List Pd → List Ky → List (List Ky)
  | [], asked => [asked]
  | d :: r, asked => aheadP d ((openP r asked).headD []) :: openP r asked
def hdP (ds : List Pd) (asked : List Ky) : List Ky := (openP ds asked).headD []
theorem looksP_lone {N : Pt → Prop} {d : Pd} (o : d.lone P8 N) : ∀ k ∈ looksP d, k ∈ all8 := by
  cases d with
  | cond a d => exact o.elim
  | w1 w a => intro k h; rw [looksP, List.mem_singleton] at h; rw [h]; exact o.2
  | wn w a n =>
    intro k h
    unfold looksP at h
    split at h
    · cases h
    · rw [List.mem_singleton] at h; rw [h]; exact o.2.1
  | wb w a b =>
    intro k h
    unfold looksP at h
    split at h
    · rw [List.mem_singleton] at h; rw [h]; exact o.2.2
    · exact rk_sub k h
theorem looksP_sub {N : Pt → Prop} {d : Pd} (o : d.ok P8 N) : ∀ k ∈ looksP d, k ∈ all8 := by
  cases d with
  | cond a d => intro k h; unfold looksP at h; exact rk_sub k h
  | w1 w a => exact looksP_lone (N := N) (d := .w1 w a) o
  | wn w a n => exact looksP_lone (N := N) (d := .wn w a n) o
  | wb w a b => exact looksP_lone (N := N) (d := .wb w a b) o
theorem looksP_len {N : Pt → Prop} {d : Pd} (o : d.ok P8 N) : (looksP d).length ≤ 8 := by
  cases d with
  | cond a d => unfold looksP; exact rk_len
  | w1 w a => simp [looksP]
  | wn w a n => unfold looksP; split <;> simp
  | wb w a b => unfold looksP; split; simp; exact rk_len
theorem openP_len : ∀ (ds : List Pd) (asked : List Ky), (openP ds asked).length = ds.length + 1
  | [], _ => rfl
  | d :: r, asked => by unfold openP; rw [List.length_cons, openP_len r, List.length_cons]
theorem openP_at : ∀ (ds : List Pd) (asked : List Ky) (i : Nat), i ≤ ds.length → (openP ds asked)[i]? = some (hdP (ds.drop i) asked)
  | [], asked, i, h => by
    have : i = 0 := by simpa using h
    subst this; rfl
  | d :: r, asked, 0, h => by unfold hdP openP; rfl
  | d :: r, asked, i + 1, h => by
    rw [List.drop_succ_cons, ← openP_at r asked i (by simpa using h)]
    show (aheadP d ((openP r asked).headD []) :: openP r asked)[i + 1]? = _
    simp
theorem hdP_mem {ds : List Pd} {asked : List Ky} : hdP ds asked ∈ openP ds asked := List.mem_of_getElem? (openP_at ds asked 0 (by simp))
theorem openP_sub {ds : List Pd} {asked : List Ky} (ha : ∀ k ∈ asked, k ∈ all8) : ∀ l ∈ openP ds asked, ∀ k ∈ l, k ∈ all8 := by
  induction ds with
  | nil => intro l hl; unfold openP at hl; rw [List.mem_singleton.mp hl]; exact ha
  | cons d r ih =>
    intro l hl
    unfold openP at hl
    rcases List.mem_cons.mp hl with e | e
    · rw [e]; exact rk_sub
    · exact ih l e
theorem atI_lastP {α : Type} {l : List α} {x : α} : atI (l ++ [x]) (-1) = some x := by
  unfold atI ixN
  rw [if_neg (by omega), if_pos (by rw [List.length_append, List.length_singleton]; omega)]
  have e : ((-1 : Int) + ((l ++ [x]).length : Nat)).toNat = l.length := by rw [List.length_append, List.length_singleton]; omega
  show (l ++ [x])[((-1 : Int) + ((l ++ [x]).length : Nat)).toNat]? = some x
  rw [e]; simp

/-! ### places -/
def pl8 : Ky → Nat
  | .inl i => i.toNat
  | .inr s => if s = "A" then 4 else if s = "B" then 5 else if s = "C" then 6 else 7
abbrev all8D : List D := [.int 0, .int 1, .int 2, .int 3, .str "A", .str "B", .str "C", .str "D"]
theorem all8D_eq : all8D = all8.map kD := rfl
theorem all8_cases {k : Ky} (h : k ∈ all8) : k = .inl 0 ∨ k = .inl 1 ∨ k = .inl 2 ∨ k = .inl 3 ∨ k = .inr "A" ∨ k = .inr "B" ∨ k = .inr "C" ∨ k = .inr "D" := by
  simpa [all8] using h
theorem pl8_lt {k : Ky} (h : k ∈ all8) : pl8 k < 8 := by
  rcases all8_cases h with rfl | rfl | rfl | rfl | rfl | rfl | rfl | rfl <;> decide
theorem wp_index8 {h : HH} {q : D → HH → Prop} {e : String → HH → Prop} {k : Ky} (hk : k ∈ all8) : Wp q e (mIndex (.lst all8D) [kD k] h) ↔ q (.int (pl8 k : Nat)) h := by
  have e1 : inOk h (kD k) all8D = true := inOk_pl (pl_kD k) (by decide) (by decide)
  have e2 : view h (kD k) = kD k := view_isD (pl_kD k).1
  have e3 : findAt (kD k) all8D 0 = some (pl8 k) := by
    rcases all8_cases hk with rfl | rfl | rfl | rfl | rfl | rfl | rfl | rfl <;> simp [findAt, kD, pl8]
  unfold mIndex
  have e4 : itemsL h (.lst all8D) = some all8D := rfl
  rw [e4]
  dsimp only
  rw [if_pos e1, e2, e3]
  exact Iff.rfl
/-- rising -/
def Rs (ks : List Ky) : Prop := (∀ k ∈ ks, k ∈ all8) ∧ ks.Pairwise fun a b => pl8 a < pl8 b
theorem all8_rises : all8.Pairwise fun a b => pl8 a < pl8 b := by unfold all8; decide +kernel
theorem Rs.filter (p : Ky → Bool) : Rs (all8.filter p) := ⟨fun _ h => (List.mem_filter.mp h).1, List.Pairwise.filter _ all8_rises⟩
theorem Rs.rk (ks : List Ky) : Rs (rk ks) := Rs.filter _
theorem Rs.one {k : Ky} (h : k ∈ all8) : Rs [k] := ⟨by simpa using h, by simp⟩
theorem Rs.nil : Rs [] := ⟨by simp, by simp⟩
theorem Rs.len {ks : List Ky} (h : Rs ks) : ks.length ≤ 8 := by
  have key : ∀ (l : List Ky) (lo n : Nat), l.Pairwise (fun a b => pl8 a < pl8 b) → (∀ x ∈ l, lo ≤ pl8 x ∧ pl8 x < lo + n) → l.length ≤ n := by
    intro l
    induction l with
    | nil => intro lo n _ _; simp
    | cons a l ih =>
      intro lo n hp hx
      have hp' := List.pairwise_cons.mp hp
      have ha := hx a (by simp)
      have := ih (pl8 a + 1) (lo + n - (pl8 a + 1)) hp'.2 fun x hxl => by
        have := hp'.1 x hxl
        have := hx x (by simp [hxl])
        omega
      rw [List.length_cons]
      omega
  exact key ks 0 8 h.2 fun x hx => ⟨by omega, by have := pl8_lt (h.1 x hx); omega⟩
theorem looksP_rs {N : Pt → Prop} {d : Pd} (o : d.ok P8 N) : Rs (looksP d) := by
  cases d with
  | cond a d => unfold looksP; exact Rs.rk _
  | w1 w a => unfold looksP; exact Rs.one o.2
  | wn w a n => unfold looksP; split; exact Rs.nil; exact Rs.one o.2.1
  | wb w a b => unfold looksP; split; exact Rs.one o.2.2; exact Rs.rk _
theorem putsP_rs {N : Pt → Prop} {d : Pd} (o : d.ok P8 N) : Rs (putsP d) := by
  cases d with
  | cond a d => exact Rs.nil
  | w1 w a => exact Rs.one o.2
  | wn w a n => exact Rs.one o.2.1
  | wb w a b => exact Rs.one o.2.1
theorem openP_rs {ds : List Pd} {asked : List Ky} (ha : Rs asked) : ∀ l ∈ openP ds asked, Rs l := by
  induction ds with
  | nil => intro l hl; unfold openP at hl; rw [List.mem_singleton.mp hl]; exact ha
  | cons d r ih =>
    intro l hl
    unfold openP at hl
    rcases List.mem_cons.mp hl with e | e
    · rw [e]; exact Rs.rk _
    · exact ih l e
theorem openP_last (ds : List Pd) (asked : List Ky) : ∃ l, openP ds asked = l ++ [asked] := by
  induction ds with
  | nil => exact ⟨[], rfl⟩
  | cons d r ih => obtain ⟨l, e⟩ := ih; exact ⟨_ :: l, by rw [openP, e]; rfl⟩
@[simp] theorem tiD_ref_ {h : HH} {i : Nat} : tiD h (.ref i) = match h[i]? with | some (.lst _) => some .lst | some (.dic _) => some .dic | _ => none := by unfold tiD; rfl
@[simp] theorem blsD_rep {b : Bool} : ∀ n : Nat, blsD (List.replicate n (.bl b)) = some (List.replicate n b)
  | 0 => rfl
  | n + 1 => by rw [List.replicate_succ, blsD_cons, blsD_rep n]; rfl
@[simp] theorem kyD_kD (k : Ky) : kyD (kD k) = some k := by cases k <;> rfl
theorem isDs_ofP {α : Type} {f : α → D} (hf : ∀ a, isD (f a) = true) : ∀ l : List α, isDs (l.map f) = true
  | [] => by simp
  | a :: l => by rw [List.map_cons, isDs_cons, hf a, isDs_ofP hf l]; rfl
end Pu

namespace Pu
open PySem PySem.Spec PyProof.Rows L2

/-! ### a pen, and a list that grows behind all -/
theorem get_end {h : HH} {o : O} {n : Nat} (e : n = h.length) : (h ++ [o])[n]? = some o := by subst e; simp
theorem set_end {h : HH} {o o' : O} {n : Nat} (e : n = h.length) : (h ++ [o]).set n o' = h ++ [o'] := by subst e; simp
theorem PenD.len {b : Int} {t h : HH} (p : PenD b t h) : h.length = t.length + 1 := by
  obtain ⟨ns, a, r, rfl, _⟩ := p; simp
theorem Pen.len {b : Int} {t h : HH} (p : Pen b t h) : h.length = t.length + 1 := by
  obtain ⟨ns, a, r, rfl, _⟩ := p; simp
theorem PenD.app {b : Int} {t h : HH} (p : PenD b t h) (u : HH) : PenD b (t ++ u) (h ++ u) := by
  obtain ⟨ns, a, r, rfl, q⟩ := p; exact ⟨ns, a, r, rfl, q⟩
theorem Pen.app {b : Int} {t h : HH} (p : Pen b t h) (u : HH) : Pen b (t ++ u) (h ++ u) := by
  obtain ⟨ns, a, r, rfl, q⟩ := p; exact ⟨ns, a, r, rfl, q⟩
theorem PenD.off {b : Int} {t u h : HH} (p : PenD b (t ++ u) h) : ∃ h1, h = h1 ++ u ∧ PenD b t h1 := by
  obtain ⟨ns, a, r, rfl, q⟩ := p; exact ⟨_, rfl, ns, a, r, rfl, q⟩
theorem Pen.off {b : Int} {t u h : HH} (p : Pen b (t ++ u) h) : ∃ h1, h = h1 ++ u ∧ Pen b t h1 := by
  obtain ⟨ns, a, r, rfl, q⟩ := p; exact ⟨_, rfl, ns, a, r, rfl, q⟩
/-- told behind: a pure value -/
theorem wp_fzP {F : Fn} {ds : List D} {h : HH} {Q : D → HH → Prop} (w : Wp (fun d h' => ∃ h1 g, h' = h1 ++ g ∧ h1.length = h.length ∧ h1.all (clO 0) = true ∧ cl 0 d = true ∧ Q d h1) noE (F ds h)) : Wp Q noE (fzF F ds h) := by
  obtain ⟨d, h', e, h1, g, rfl, hl, hp, hd, q⟩ := wp_ex.mp w
  exact wp_of (fzF_pure e hl hp hd) q
/-- told behind: a list of pure values -/
theorem wp_fzL {F : Fn} {ds : List D} {h : HH} {Q : D → HH → Prop} (w : Wp (fun d h' => ∃ h1 g i xs, d = .ref i ∧ h' = h1 ++ g ∧ h1.length = h.length ∧ h1.all (clO 0) = true ∧ h.length ≤ i ∧ h'[i]? = some (.lst xs) ∧ cls 0 xs = true ∧ Q (.lst xs) h1) noE (F ds h)) : Wp Q noE (fzF F ds h) := by
  obtain ⟨d, h', e, h1, g, i, xs, rfl, rfl, hl, hp, hi, hx, hd, q⟩ := wp_ex.mp w
  exact wp_of (fzF_mk e hl hp hi hx hd) q
theorem PenD.set {b : Int} {t h : HH} {i : Nat} {xs : List D} {o : O} (p : PenD b t h) (e : h[i]? = some (.lst xs)) : PenD b (t.set (i - 1) o) (h.set i o) := by
  obtain ⟨ns, a, r, rfl, q⟩ := p
  cases i with
  | zero => cases e
  | succ i => exact ⟨ns, a, r, rfl, q⟩
theorem Pen.set {b : Int} {t h : HH} {i : Nat} {o : O} (p : Pen b t h) (e : 1 ≤ i) : Pen b (t.set (i - 1) o) (h.set i o) := by
  obtain ⟨ns, a, r, rfl, q⟩ := p
  cases i with
  | zero => cases e
  | succ i => exact ⟨ns, a, r, rfl, q⟩
theorem all_set {t : HH} {i : Nat} {o : O} (ht : t.all (clO 0) = true) (ho : clO 0 o = true) : (t.set i o).all (clO 0) = true := by
  rw [List.all_eq_true] at ht ⊢
  intro x hx
  rcases List.mem_or_eq_of_mem_set hx with z | z
  · exact ht x z
  · rw [z]; exact ho
theorem all_app {t u : HH} (ht : t.all (clO 0) = true) (hu : u.all (clO 0) = true) : (t ++ u).all (clO 0) = true := by
  rw [List.all_append, ht, hu]; rfl
theorem view_refL {h : HH} {j : Nat} {xs : List D} (e : h[j]? = some (.lst xs)) : view h (.ref j) = .lst xs := by unfold view; dsimp only; rw [e]
theorem same_refL {h : HH} {j : Nat} {xs : List D} {b : D} (e : h[j]? = some (.lst xs)) (p : plD (.lst xs)) (r : plD b) : same? h (.ref j) b = some (eqv (.lst xs) b) := by
  unfold same?
  rw [view_refL e, view_isD r.1, p.1, r.1]
  rw [if_pos]
  simp only [Bool.true_and, Bool.and_eq_true, decide_eq_true_eq]
  exact ⟨p.2, r.2⟩
end Pu

namespace Pu
open PySem PySem.Spec PyProof.Rows L2

/-! ### the keys of a dict that grows -/
theorem dPut_keys {kvs : List (Ky × D)} {k : Ky} {d : D} : (dPut kvs k d).map (·.1) = if k ∈ kvs.map (·.1) then kvs.map (·.1) else kvs.map (·.1) ++ [k] := by
  unfold dPut
  by_cases h : k ∈ kvs.map (·.1)
  · have h2 : (kvs.any fun kv => decide (kv.1 = k)) = true := by
      obtain ⟨p, hp, rfl⟩ := List.mem_map.mp h
      exact List.any_eq_true.mpr ⟨p, hp, by simp⟩
    rw [if_pos h, if_pos h2, List.map_map]
    refine List.map_congr_left fun p _ => ?_
    show (if p.1 = k then (p.1, d) else p).1 = p.1
    split <;> rfl
  · have h2 : ¬ (kvs.any fun kv => decide (kv.1 = k)) = true := by
      intro z
      obtain ⟨p, hp, e⟩ := List.any_eq_true.mp z
      exact h (List.mem_map.mpr ⟨p, hp, by simpa using e⟩)
    rw [if_neg h, if_neg h2, List.map_append]; rfl
/-- the keys are these, each once -/
def Kset (ks : List Ky) (kvs : List (Ky × D)) : Prop := (kvs.map (·.1)).Nodup ∧ ∀ k, k ∈ kvs.map (·.1) ↔ k ∈ ks
theorem Kset.nil : Kset [] [] := ⟨List.nodup_nil, fun k => by simp⟩
theorem Kset.put {ks : List Ky} {kvs : List (Ky × D)} {k : Ky} {d : D} (s : Kset ks kvs) : Kset (ks ++ [k]) (dPut kvs k d) := by
  rw [Kset, dPut_keys]
  by_cases h : k ∈ kvs.map (·.1)
  · rw [if_pos h]
    refine ⟨s.1, fun j => ?_⟩
    rw [s.2, List.mem_append, List.mem_singleton]
    exact ⟨.inl, fun z => z.elim id fun e => e ▸ (s.2 k).mp h⟩
  · rw [if_neg h]
    refine ⟨?_, fun j => ?_⟩
    · refine List.nodup_append.mpr ⟨s.1, by simp, fun a ha b hb e => ?_⟩
      rw [List.mem_singleton] at hb
      exact h (hb ▸ e ▸ ha)
    · rw [List.mem_append, List.mem_append, List.mem_singleton, s.2]
theorem rk_perm {ks : List Ky} (nd : ks.Nodup) (hs : ∀ k ∈ ks, k ∈ all8) : ks.Perm (rk ks) := by
  have nd2 : (rk ks).Nodup := by
    have : all8.Nodup := by unfold all8; decide +kernel
    unfold rk
    exact this.filter _
  exact (List.perm_ext_iff_of_nodup nd nd2).mpr fun k => by rw [rk_mem]; exact ⟨fun h => ⟨hs k h, h⟩, fun h => h.2⟩
theorem rk_congr {ks js : List Ky} (h : ∀ k, k ∈ ks ↔ k ∈ js) : rk ks = rk js := by
  unfold rk
  exact List.filter_congr fun k _ => decide_eq_decide.mpr (h k)
theorem Kset.len {ks : List Ky} {kvs : List (Ky × D)} (s : Kset ks kvs) (hs : ∀ k ∈ ks, k ∈ all8) : kvs.length ≤ 8 := by
  have p := rk_perm s.1 fun k hk => hs k ((s.2 k).mp hk)
  have := p.length_eq
  rw [List.length_map] at this
  rw [this]; exact rk_len
theorem keyedF_all {F : Fn} {f : Ky → Int} : ∀ {ks : List Ky}, (∀ k ∈ ks, F [kD k] [] = .ok (.int (f k)) []) → keyedF F ks = some (ks.map fun k => (k, f k))
  | [], _ => rfl
  | k :: ks, h => by
    have h1 := h k (by simp)
    have h2 := keyedF_all (f := f) (ks := ks) fun j hj => h j (by simp [hj])
    unfold keyedF
    rw [← kD_toD, h1, h2]
    rfl
theorem perm_extM {α : Type} {le : α → α → Bool} : ∀ {l m : List α}, (∀ a ∈ l, ∀ b ∈ l, le a b = true → le b a = true → a = b) → l.Pairwise (fun a b => le a b = true) → m.Pairwise (fun a b => le a b = true) → l.Perm m → l = m
  | [], m, _, _, _, h => h.nil_eq
  | a :: l, [], _, _, _, h => by have := h.length_eq; simp at this
  | a :: l, b :: m, anti, h1, h2, h => by
    have h1' := List.pairwise_cons.mp h1
    have h2' := List.pairwise_cons.mp h2
    have e : a = b := by
      have m1 : a ∈ b :: m := h.mem_iff.mp (by simp)
      have m2 : b ∈ a :: l := h.mem_iff.mpr (by simp)
      rcases List.mem_cons.mp m1 with e | e
      · exact e
      · rcases List.mem_cons.mp m2 with e2 | e2
        · exact e2.symm
        · exact anti _ (by simp) _ (by simp [e2]) (h1'.1 b e2) (h2'.1 a e)
    subst e
    exact congrArg (a :: ·) (perm_extM (fun x hx y hy => anti x (by simp [hx]) y (by simp [hy])) h1'.2 h2'.2 h.cons_inv)
theorem pl8_inj {a b : Ky} (ha : a ∈ all8) (hb : b ∈ all8) (e : pl8 a = pl8 b) : a = b := by
  rcases all8_cases ha with rfl | rfl | rfl | rfl | rfl | rfl | rfl | rfl <;> rcases all8_cases hb with rfl | rfl | rfl | rfl | rfl | rfl | rfl | rfl <;>
    first | rfl | (exfalso; revert e; decide)
theorem sortK_eq {ks : List Ky} (nd : ks.Nodup) (hs : ∀ k ∈ ks, k ∈ all8) : (((ks.map fun k => (k, (pl8 k : Int))).mergeSort byKey).map fun p => toDk p.1) = (rk ks).map kD := by
  have e : (ks.map fun k => (k, (pl8 k : Int))).mergeSort byKey = (rk ks).map fun k => (k, (pl8 k : Int)) := by
    have p1 := List.mergeSort_perm (ks.map fun k => (k, (pl8 k : Int))) byKey
    refine perm_extM (le := byKey) (fun a ha b hb h1 h2 => ?_) ?_ ?_ (p1.trans ((rk_perm nd hs).map _))
    · obtain ⟨x, hx, rfl⟩ := List.mem_map.mp (p1.mem_iff.mp ha)
      obtain ⟨y, hy, rfl⟩ := List.mem_map.mp (p1.mem_iff.mp hb)
      have h1 : (pl8 x : Int) ≤ pl8 y := of_decide_eq_true h1
      have h2 : (pl8 y : Int) ≤ pl8 x := of_decide_eq_true h2
      rw [pl8_inj (hs x hx) (hs y hy) (by omega)]
    · refine List.pairwise_mergeSort (fun a b c h1 h2 => ?_) (fun a b => ?_) _
      · simp only [byKey, decide_eq_true_eq] at h1 h2 ⊢; omega
      · simp only [byKey, Bool.or_eq_true, decide_eq_true_eq]; omega
    · rw [List.pairwise_map]
      exact (Rs.rk ks).2.imp fun {a b} h => by simp only [byKey, decide_eq_true_eq]; omega
  rw [e, List.map_map]
  exact List.map_congr_left fun k _ => (kD_toD k).symm
theorem Kset.sorted {ks : List Ky} {kvs : List (Ky × D)} {F : Fn} (s : Kset ks kvs) (hs : ∀ k ∈ ks, k ∈ all8) (hF : ∀ k ∈ all8, F [kD k] [] = .ok (.int (pl8 k : Nat)) []) :
    ∃ ps, kysD (kvs.map fun p => toDk p.1) = some (kvs.map (·.1)) ∧ keyedF F (kvs.map (·.1)) = some ps ∧ ((ps.mergeSort byKey).map fun p => toDk p.1) = (rk ks).map kD := by
  have hk : ∀ k ∈ kvs.map (·.1), k ∈ all8 := fun k h => hs k ((s.2 k).mp h)
  refine ⟨_, ?_, keyedF_all (f := fun k => (pl8 k : Int)) fun k h => hF k (hk k h), ?_⟩
  · have := kysD_map (kvs.map (·.1))
    rwa [List.map_map] at this
  · rw [sortK_eq s.1 hk, rk_congr s.2]
/-! names of numbers -/
def nms4 : List String := ["k", "l", "m", "n"]
def rn (ss : List String) : List String := nms4.filter fun s => decide (s ∈ ss)
theorem rn_mem {ss : List String} {s : String} : s ∈ rn ss ↔ s ∈ nms4 ∧ s ∈ ss := by unfold rn; rw [List.mem_filter, decide_eq_true_eq]
theorem rn_len {ss : List String} : (rn ss).length ≤ 4 := List.length_filter_le _ _
theorem rn_congr {ks js : List String} (h : ∀ k, k ∈ ks ↔ k ∈ js) : rn ks = rn js := by
  unfold rn
  exact List.filter_congr fun k _ => decide_eq_decide.mpr (h k)
theorem nms4_nodup : nms4.Nodup := by unfold nms4; decide
theorem nms4_sorted : nms4.Pairwise fun a b => leS a b = true := by unfold nms4 leS; decide +kernel
theorem rn_perm {ks : List String} (nd : ks.Nodup) (hs : ∀ k ∈ ks, k ∈ nms4) : ks.Perm (rn ks) := by
  have nd2 : (rn ks).Nodup := by
    unfold rn
    exact nms4_nodup.filter _
  exact (List.perm_ext_iff_of_nodup nd nd2).mpr fun k => by rw [rn_mem]; exact ⟨fun h => ⟨hs k h, h⟩, fun h => h.2⟩
theorem sortS_rn {ks : List String} (nd : ks.Nodup) (hs : ∀ k ∈ ks, k ∈ nms4) : sortS ks = rn ks := by
  refine perm_ext (le := leS) (fun _ _ => leS_anti) (sortS_sorted ks) (List.Pairwise.filter _ nms4_sorted) ((sortR_perm ks).trans (rn_perm nd hs))
def Sset (ss : List String) (kvs : List (Ky × D)) : Prop := Kset (ss.map Sum.inr) kvs
theorem Sset.put {ks : List String} {kvs : List (Ky × D)} {k : String} {d : D} (s : Sset ks kvs) : Sset (ks ++ [k]) (dPut kvs (.inr k) d) := by
  unfold Sset at s ⊢
  rw [List.map_append]; exact Kset.put s
theorem Sset.keys {ss : List String} {kvs : List (Ky × D)} (s : Sset ss kvs) : ∃ us : List String, kvs.map (·.1) = us.map Sum.inr ∧ us.Nodup ∧ ∀ k, k ∈ us ↔ k ∈ ss := by
  have key : ∀ l : List Ky, (∀ k ∈ l, ∃ s, k = Sum.inr s) → ∃ us : List String, l = us.map Sum.inr := by
    intro l
    induction l with
    | nil => exact fun _ => ⟨[], rfl⟩
    | cons a l ih =>
      intro h
      obtain ⟨s, rfl⟩ := h a (by simp)
      obtain ⟨us, rfl⟩ := ih fun k hk => h k (by simp [hk])
      exact ⟨s :: us, rfl⟩
  obtain ⟨us, e⟩ := key (kvs.map (·.1)) fun k hk => by
    obtain ⟨t, _, rfl⟩ := List.mem_map.mp ((s.2 k).mp hk)
    exact ⟨t, rfl⟩
  refine ⟨us, e, ?_, fun k => ?_⟩
  · have := s.1
    rw [e] at this
    exact (List.pairwise_map.mp this).imp fun h z => h (by rw [z])
  · have := s.2 (.inr k)
    rw [e] at this
    simpa using this
theorem Sset.len {ss : List String} {kvs : List (Ky × D)} (s : Sset ss kvs) (hs : ∀ k ∈ ss, k ∈ nms4) : kvs.length ≤ 4 := by
  obtain ⟨us, e, nd, hm⟩ := s.keys
  have p := rn_perm nd fun k hk => hs k ((hm k).mp hk)
  have h1 := p.length_eq
  have h2 : (kvs.map (·.1)).length = us.length := by rw [e, List.length_map]
  rw [List.length_map] at h2
  rw [h2, h1]; exact rn_len
theorem Sset.sorted {ss : List String} {kvs : List (Ky × D)} (s : Sset ss kvs) (hs : ∀ k ∈ ss, k ∈ nms4) : srtD (kvs.map fun p => toDk p.1) = some ((rn ss).map D.str) := by
  obtain ⟨us, e, nd, hm⟩ := s.keys
  have hu : ∀ k ∈ us, k ∈ nms4 := fun k hk => hs k ((hm k).mp hk)
  have e2 : (kvs.map fun p => toDk p.1) = us.map D.str := by
    have : (kvs.map fun p => toDk p.1) = (kvs.map (·.1)).map toDk := by rw [List.map_map]; rfl
    rw [this, e, List.map_map]; rfl
  have hl : us.length ≤ 4 := by have := (rn_perm nd hu).length_eq; rw [this]; exact rn_len
  rw [e2, srtD_strs (by omega), sortS_rn nd hu, rn_congr hm]
/-! the parts of a deed -/
abbrev PtK := Sum Ky Pt
def ptD : PtK → D
  | .inl a => .tup [.str "b", kD a]
  | .inr n => .tup [.str "n", n.toD]
def ptsP : Pd → List PtK
  | .w1 _ a => [.inl a]
  | .wn _ a n => [.inl a, .inr n]
  | .wb _ a b => [.inl a, .inl b]
  | .cond a d => .inl a :: ptsP d
def lefts : List PtK → List Ky
  | [] => []
  | .inl a :: r => a :: lefts r
  | .inr _ :: r => lefts r
def rights : List PtK → List Pt
  | [] => []
  | .inl _ :: r => rights r
  | .inr a :: r => a :: rights r
theorem lefts_app : ∀ a b : List PtK, lefts (a ++ b) = lefts a ++ lefts b
  | [], b => rfl
  | .inl x :: r, b => by rw [List.cons_append, lefts, lefts_app r b]; rfl
  | .inr x :: r, b => by rw [List.cons_append, lefts, lefts_app r b]; rfl
theorem rights_app : ∀ a b : List PtK, rights (a ++ b) = rights a ++ rights b
  | [], b => rfl
  | .inl x :: r, b => by rw [List.cons_append, rights, rights_app r b]; rfl
  | .inr x :: r, b => by rw [List.cons_append, rights, rights_app r b]; rfl
def allP (ds : List Pd) : List PtK := ds.flatMap ptsP
/-- the boxes, the names for numbers that stand in a pattern -/
def bxsP (ds : List Pd) : List Ky := lefts (allP ds)
def nmsP (ds : List Pd) : List String := (rights (allP ds)).flatMap Pt.names
abbrev NP (w : Nat) (n : Pt) : Prop := n.ok ∧ n.ht ≤ w
/-- with names out of these -/
abbrev NS (ss : List String) (w : Nat) (n : Pt) : Prop := NP w n ∧ ∀ s ∈ n.names, s ∈ ss
def PtOk (P : Ky → Prop) (N : Pt → Prop) : PtK → Prop
  | .inl a => P a
  | .inr n => N n
theorem ptsP_lone {P N} {d : Pd} (o : d.lone P N) : (ptsP d).length ≤ 2 ∧ ∀ p ∈ ptsP d, PtOk P N p := by
  cases d with
  | w1 w a => simp [ptsP, PtOk]; exact o.2
  | wn w a n => simp [ptsP, PtOk]; exact o.2
  | wb w a n => simp [ptsP, PtOk]; exact o.2
  | cond a d => exact o.elim
theorem ptsP_ok {P N} {d : Pd} (o : d.ok P N) : (ptsP d).length ≤ 3 ∧ ∀ p ∈ ptsP d, PtOk P N p := by
  cases d with
  | cond a d =>
    have := ptsP_lone o.2
    simp [ptsP]
    exact ⟨this.1, o.1, this.2⟩
  | w1 w a => have := ptsP_lone (N := N) (d := .w1 w a) o; exact ⟨by omega, this.2⟩
  | wn w a n => have := ptsP_lone (N := N) (d := .wn w a n) o; exact ⟨by omega, this.2⟩
  | wb w a n => have := ptsP_lone (N := N) (d := .wb w a n) o; exact ⟨by omega, this.2⟩
theorem allP_ok {P N} {ds : List Pd} (o : ∀ d ∈ ds, d.ok P N) : (allP ds).length ≤ 3 * ds.length ∧ ∀ p ∈ allP ds, PtOk P N p := by
  induction ds with
  | nil => simp [allP]
  | cons d ds ih =>
    have h1 := ptsP_ok (o d (by simp))
    have h2 := ih fun x hx => o x (by simp [hx])
    unfold allP at h2 ⊢
    rw [List.flatMap_cons, List.length_append, List.length_cons]
    refine ⟨by omega, fun p hp => ?_⟩
    rcases List.mem_append.mp hp with z | z
    · exact h1.2 p z
    · exact h2.2 p z
theorem lefts_mem {a : Ky} : ∀ {l : List PtK}, a ∈ lefts l ↔ .inl a ∈ l
  | [] => by simp [lefts]
  | .inl x :: r => by simp [lefts, lefts_mem (l := r)]
  | .inr x :: r => by simp [lefts, lefts_mem (l := r)]
theorem rights_mem {a : Pt} : ∀ {l : List PtK}, a ∈ rights l ↔ .inr a ∈ l
  | [] => by simp [rights]
  | .inl x :: r => by simp [rights, rights_mem (l := r)]
  | .inr x :: r => by simp [rights, rights_mem (l := r)]
theorem bxsP_ok {N} {ds : List Pd} (o : ∀ d ∈ ds, d.ok P8 N) : ∀ k ∈ bxsP ds, k ∈ all8 := fun k hk => (allP_ok o).2 _ (lefts_mem.mp hk)
theorem nmsP_ok {P} {w : Nat} {ds : List Pd} (o : ∀ d ∈ ds, d.ok P (NP w)) : ∀ s ∈ nmsP ds, s ∈ nms4 := fun s hs => by
  obtain ⟨n, hn, h2⟩ := List.mem_flatMap.mp hs
  exact Pt.names_ok ((allP_ok o).2 _ (rights_mem.mp hn)).1 s h2
theorem cl_ptD {n : Nat} (p : PtK) : cl n (ptD p) = true := by
  cases p with
  | inl a =>
    unfold ptD cl cls cls cls
    rw [cl_kD]; unfold cl; rfl
  | inr m =>
    unfold ptD cl cls cls cls
    rw [Pt.cl_toD]; unfold cl; rfl
def txt8 : Ky → String
  | .inl i => toString i
  | .inr s => s
theorem occ8 {k : Ky} (hk : k ∈ all8) : (Builtin.Str.occurrences (Str.ofString "0123ABCD") (Str.ofString (txt8 k)) 0 (Str.ofString "0123ABCD").length 1).head? = some (pl8 k) := by
  rcases all8_cases hk with rfl | rfl | rfl | rfl | rfl | rfl | rfl | rfl <;> decide +kernel
/-! what is told behind: closed to simp -/
def FzP (h : HH) (Q : D → HH → Prop) (d : D) (h' : HH) : Prop := ∃ h1 g, h' = h1 ++ g ∧ h1.length = h.length ∧ h1.all (clO 0) = true ∧ cl 0 d = true ∧ Q d h1
def FzL (h : HH) (Q : D → HH → Prop) (d : D) (h' : HH) : Prop := ∃ h1 g i xs, d = .ref i ∧ h' = h1 ++ g ∧ h1.length = h.length ∧ h1.all (clO 0) = true ∧ h.length ≤ i ∧ h'[i]? = some (.lst xs) ∧ cls 0 xs = true ∧ Q (.lst xs) h1
theorem FzP.mk {h h1 : HH} {Q : D → HH → Prop} {d : D} {g : HH} (a : h1.length = h.length) (b : h1.all (clO 0) = true) (c : cl 0 d = true) (q : Q d h1) : FzP h Q d (h1 ++ g) := ⟨h1, g, rfl, a, b, c, q⟩
theorem FzL.mk {h h1 : HH} {Q : D → HH → Prop} {g : HH} {i : Nat} {xs : List D} (a : h1.length = h.length) (b : h1.all (clO 0) = true) (z : h.length ≤ i) (e : (h1 ++ g)[i]? = some (.lst xs)) (c : cls 0 xs = true) (q : Q (.lst xs) h1) : FzL h Q (.ref i) (h1 ++ g) :=
  ⟨h1, g, i, xs, rfl, rfl, a, b, z, e, c, q⟩
/-- the list that stands last -/
theorem FzL.end {h h1 : HH} {Q : D → HH → Prop} {i : Nat} {xs : List D} (a : h1.length = h.length) (b : h1.all (clO 0) = true) (z : i = h.length) (c : cls 0 xs = true) (q : Q (.lst xs) h1) : FzL h Q (.ref i) (h1 ++ [.lst xs]) :=
  FzL.mk a b (by omega) (get_end (by omega)) c q
theorem wp_fP {F : Fn} {ds : List D} {h : HH} {Q : D → HH → Prop} (w : Wp (FzP h Q) noE (F ds h)) : Wp Q noE (fzF F ds h) := wp_fzP w
theorem wp_fL {F : Fn} {ds : List D} {h : HH} {Q : D → HH → Prop} (w : Wp (FzL h Q) noE (F ds h)) : Wp Q noE (fzF F ds h) := wp_fzL w
@[simp] theorem cut_1_2 {α : Type} {xs : List α} : cut xs (some 1) (some 2) = (xs.drop 1).take 1 := cut_mid (i := 1) (j := 2)
@[simp] theorem cut_1_3 {α : Type} {xs : List α} : cut xs (some 1) (some 3) = (xs.drop 1).take 2 := cut_mid (i := 1) (j := 3)
@[simp] theorem atI_m1 {α : Type} {a : α} : atI [a] (-1) = some a := rfl
@[simp] theorem atI_m2 {α : Type} {a b : α} : atI [a, b] (-1) = some b := rfl
@[simp] theorem atI_m3 {α : Type} {a b c : α} : atI [a, b, c] (-1) = some c := rfl
/-- a comprehension with a test, whose parts draw -/
theorem wp_lcF {c : List (Nat × List D)} {g : Tg} {t : Et} {f : Ex} {env : En} {q : List D → HH → Prop} {e : String → HH → Prop} {DS : List D} (I : Nat → List D → HH → Prop) {h : HH} (i0 : I 0 [] h) (hn : DS.length ≤ sz) (hc : ∀ i acc h, I i acc h → chkOk h c = true) (hl : ∀ i acc h, I i acc h → acc.length ≤ i)
    (st : ∀ i d acc h, DS[i]? = some d → I i acc h → Wo (fun env1 => Wp (fun b h1 => Wi (Wp (fun y h2 => I (i + 1) (acc ++ [y]) h2) noE (f env1 h1)) (I (i + 1) acc h1) b) noE (t env1 h)) (g d env))
    (hd : ∀ acc h, I DS.length acc h → q acc h) : Wp q e (lcGo c g t f env DS [] h) := by
  have key : ∀ (ds pre acc : List D) (h : HH), DS = pre ++ ds → I pre.length acc h → Wp q e (lcGo c g t f env ds acc h) := by
    intro ds
    induction ds with
    | nil =>
      intro pre acc h e1 i1
      rw [List.append_nil] at e1
      subst e1
      exact wp_lc0.mpr ⟨hc _ _ _ i1, hd acc h i1⟩
    | cons d ds ih =>
      intro pre acc h e1 i1
      have hlen : pre.length < sz := by
        have := congrArg List.length e1
        rw [List.length_append, List.length_cons] at this
        omega
      refine wp_lc1.mpr ⟨hc _ _ _ i1, ?_⟩
      have w := st pre.length d acc h (by rw [e1]; simp) i1
      revert w
      have e2 : DS = (pre ++ [d]) ++ ds := by rw [e1]; simp
      have l2 : (pre ++ [d]).length = pre.length + 1 := by simp
      cases g d env with
      | none => exact fun w => w
      | some env1 =>
        intro w
        have w : Wp (fun b h1 => Wi (Wp (fun y h2 => I (pre.length + 1) (acc ++ [y]) h2) noE (f env1 h1)) (I (pre.length + 1) acc h1) b) noE (t env1 h) := w
        refine wp_imp w fun b h1 w => ?_
        cases b with
        | false => exact ih (pre ++ [d]) acc h1 e2 (by rw [l2]; exact w)
        | true =>
          have hl1 := hl _ _ _ i1
          have w : Wp (fun y h2 => I (pre.length + 1) (acc ++ [y]) h2) noE (f env1 h1) := w
          exact wp_imp w fun y h2 w => ⟨by omega, ih (pre ++ [d]) (acc ++ [y]) h2 e2 (by rw [l2]; exact w)⟩
  exact key DS [] [] h rfl i0
theorem isDs_strs : ∀ ss : List String, isDs (ss.map D.str) = true
  | [] => by simp
  | k :: ks => by rw [List.map_cons, isDs_cons, isDs_strs ks]; rfl
theorem deeps_strs : ∀ ss : List String, deeps (ss.map D.str) = 0
  | [] => by simp
  | k :: ks => by rw [List.map_cons, deeps_cons, deeps_strs ks]; simp
theorem any_strs (ks : List String) (k : String) : ((ks.map D.str).any fun z => eqv z (.str k)) = decide (k ∈ ks) := by
  induction ks with
  | nil => rfl
  | cons a l ih =>
    rw [List.map_cons, List.any_cons, ih, eqv_ss, Bool.eq_iff_iff]
    by_cases h : a = k
    · simp [h]
    · have : ¬ k = a := fun z => h z.symm
      simp [h, this]
theorem in_strsL {h : HH} {ks : List String} {k : String} : in? h (.str k) (.lst (ks.map D.str)) = some (decide (k ∈ ks)) := by
  rw [in_lst pl_str (isDs_strs ks) (by rw [deeps_strs]; omega), any_strs]
theorem in_strsT {h : HH} {ks : List String} {k : String} : in? h (.str k) (.tup (ks.map D.str)) = some (decide (k ∈ ks)) := by
  rw [in_tup pl_str (isDs_strs ks) (by rw [deeps_strs]; omega), any_strs]
end Pu

namespace Pu
open PySem PySem.Spec PyProof.Rows L2 PySem.SeqAt

/-! ### max, min of a list of whole numbers -/
theorem ints_reads {h : Heap} : ∀ {is : List Int} {us : List Value}, Vals (is.map V.int) us → ReadsAll h us (is.map PyData.int) []
  | [], us, r => by cases r; exact .nil
  | i :: is, us, r => by
    cases r with
    | cons r1 r2 =>
      obtain ⟨t, rfl⟩ := r1
      exact .cons (as := []) (.int i t) (ints_reads r2)
theorem ints_alike (is : List Int) : PySem.W.AlikeAll (is.map PyData.int) := by
  refine ⟨fun x hx y hy => ?_, fun x hx => ?_⟩
  · obtain ⟨_, _, rfl⟩ := List.mem_map.mp hx
    obtain ⟨_, _, rfl⟩ := List.mem_map.mp hy
    simp [PySem.W.alike]
  · obtain ⟨_, _, rfl⟩ := List.mem_map.mp hx
    intro z; cases z
theorem ints_depth : ∀ is : List Int, PyData.depthAll (is.map PyData.int) = 0
  | [] => rfl
  | i :: is => by
    have := ints_depth is
    rw [List.map_cons]
    unfold PyData.depthAll
    rw [this]
    rfl
section
variable {X : Cx}
theorem call_maxI (hc : X.calm = true) (hu : X.A.units + 65 < cLine) : CallR X (.builtin "max") fun vs H Q => ∃ (a : Addr) (i : Int) (is : List Int), vs = [V.ref a] ∧ SqL X.K H a ((i :: is).map V.int) ∧ Q (.int (is.foldl max i)) H := by
  intro pins s σ H vs us Q I r h
  obtain ⟨a, i, is, rfl, hs, q⟩ := h
  obtain ⟨its, rv, hl, _⟩ := I.list hs
  rw [Vals.ref1 r]
  refine PySem.W.max_list_data (x := .int i) (xs := is.map .int) (as := []) (I.ok.hd hc) hl.isList (by simpa using ints_reads rv) (ints_alike (i :: is)) (by
    have := ints_depth (i :: is)
    rw [List.map_cons] at this
    rw [this]; omega) fun j v h' tk bs hv hr k => ?_
  rw [PySem.W.maxD_ints] at hr
  cases hr with
  | int _ t => exact ⟨.int (is.foldl max i), H, I.kept k, ⟨t, rfl⟩, q⟩
theorem call_minI (hc : X.calm = true) (hu : X.A.units + 65 < cLine) : CallR X (.builtin "min") fun vs H Q => ∃ (a : Addr) (i : Int) (is : List Int), vs = [V.ref a] ∧ SqL X.K H a ((i :: is).map V.int) ∧ Q (.int (is.foldl min i)) H := by
  intro pins s σ H vs us Q I r h
  obtain ⟨a, i, is, rfl, hs, q⟩ := h
  obtain ⟨its, rv, hl, _⟩ := I.list hs
  rw [Vals.ref1 r]
  refine PySem.W.min_list_data (x := .int i) (xs := is.map .int) (as := []) (I.ok.hd hc) hl.isList (by simpa using ints_reads rv) (ints_alike (i :: is)) (by
    have := ints_depth (i :: is)
    rw [List.map_cons] at this
    rw [this]; omega) fun j v h' tk bs hv hr k => ?_
  rw [PySem.W.minD_ints] at hr
  cases hr with
  | int _ t => exact ⟨.int (is.foldl min i), H, I.kept k, ⟨t, rfl⟩, q⟩
def cMaxX (ds : List D) (h : HH) : R D := match ds with
  | [d] => ofO (itemsL h d) fun xs => ofO (intsD xs) fun ns => match ns with
    | n :: ms => .ok (.int (ms.foldl max n)) h
    | [] => .stuck
  | ds => cMax ds h
def cMinX (ds : List D) (h : HH) : R D := match ds with
  | [d] => ofO (itemsL h d) fun xs => ofO (intsD xs) fun ns => match ns with
    | n :: ms => .ok (.int (ms.foldl min n)) h
    | [] => .stuck
  | ds => cMin ds h
theorem c_maxX (hc : X.calm = true) (hu : X.A.units + 65 < cLine) : CallR X (.builtin "max") (rdC X cMaxX) := CallR.mono ((call_maxI hc hu).or (c_max hc)) fun xs H Q q => by
  obtain ⟨T, h, ds, r, rs, q⟩ := q
  obtain ⟨d, h', e, q⟩ := rdO_ok q
  unfold cMaxX at e
  split at e
  · rename_i d1
    obtain ⟨ys, e1, e⟩ := ofO_ok e
    obtain ⟨ns, e2, e⟩ := ofO_ok e
    obtain ⟨v, rfl, rv⟩ := rels_one rs
    obtain ⟨b, ws, rfl, sq, rr⟩ := rel_itemsL r rv e1
    rw [rels_ints rr e2] at sq
    cases ns with
    | nil => cases e
    | cons n ms =>
      cases e
      exact .inl ⟨b, n, ms, rfl, sq, q T H _ Le.refl r (rel_int_iff.mpr rfl)⟩
  · exact .inr ⟨T, h, _, r, rs, by rw [e]; exact q⟩
theorem c_minX (hc : X.calm = true) (hu : X.A.units + 65 < cLine) : CallR X (.builtin "min") (rdC X cMinX) := CallR.mono ((call_minI hc hu).or (c_min hc)) fun xs H Q q => by
  obtain ⟨T, h, ds, r, rs, q⟩ := q
  obtain ⟨d, h', e, q⟩ := rdO_ok q
  unfold cMinX at e
  split at e
  · rename_i d1
    obtain ⟨ys, e1, e⟩ := ofO_ok e
    obtain ⟨ns, e2, e⟩ := ofO_ok e
    obtain ⟨v, rfl, rv⟩ := rels_one rs
    obtain ⟨b, ws, rfl, sq, rr⟩ := rel_itemsL r rv e1
    rw [rels_ints rr e2] at sq
    cases ns with
    | nil => cases e
    | cons n ms =>
      cases e
      exact .inl ⟨b, n, ms, rfl, sq, q T H _ Le.refl r (rel_int_iff.mpr rfl)⟩
  · exact .inr ⟨T, h, _, r, rs, by rw [e]; exact q⟩
end
@[simp] theorem wp_cMaxX2 {i j : Int} {h : HH} {q : D → HH → Prop} {e : String → HH → Prop} : Wp q e (cMaxX [.int i, .int j] h) ↔ q (.int (if j > i then j else i)) h := Iff.rfl
@[simp] theorem wp_cMinX2 {i j : Int} {h : HH} {q : D → HH → Prop} {e : String → HH → Prop} : Wp q e (cMinX [.int i, .int j] h) ↔ q (.int (if j < i then j else i)) h := Iff.rfl
theorem cMaxX_l {n : Int} {ns : List Int} {h : HH} : cMaxX [.lst (D.int n :: ns.map D.int)] h = .ok (.int (ns.foldl max n)) h := by
  have := intsD_map (n :: ns)
  rw [List.map_cons] at this
  unfold cMaxX
  show ofO (intsD (D.int n :: ns.map D.int)) _ = _
  rw [this]; rfl
theorem cMinX_l {n : Int} {ns : List Int} {h : HH} : cMinX [.lst (D.int n :: ns.map D.int)] h = .ok (.int (ns.foldl min n)) h := by
  have := intsD_map (n :: ns)
  rw [List.map_cons] at this
  unfold cMinX
  show ofO (intsD (D.int n :: ns.map D.int)) _ = _
  rw [this]; rfl
/-! ### a sum of lists, fresh -/
def fAddL (f g : Ex) : Exs := fun env h => (f env h).bind fun a h1 => (g env h1).bind fun b h2 => ofO (lview h2 a) fun xs => ofO (lview h2 b) fun ys => if xs.length + ys.length ≤ sz then .ok (xs ++ ys) h2 else .stuck
theorem sf_addL {X : Cx} {W : WX} {a b : Expr} {f g : Ex} {pos : Pos} (ha : SE X W a f) (hb : SE X W b g) : SF X W (.BinOp a .Add b pos) (fAddL f g) :=
  PE.mono (pe_op op_cat ha hb) fun σ H Q hh => by
    obtain ⟨T, env, h, r1, r2, a⟩ := hh
    refine ⟨T, env, h, r1, r2, a.bind r1.mut fun d h1 T1 H1 v _ l1 q1 rv a1 => ?_⟩
    refine ⟨T1, env, h1, q1, relE_mono l1 r1.mut r2, a1.bind q1.mut fun e h2 T2 H2 u _ l2 q2 ru a2 => ?_⟩
    have hs : sz = sizeLine := by rw [sizeLine_eq]; rfl
    obtain ⟨xs, e1, a2⟩ := a2.ofO
    obtain ⟨ys, e2, a2⟩ := a2.ofO
    by_cases hz : xs.length + ys.length ≤ sz
    · rw [if_pos hz] at a2
      obtain ⟨p1, vs, rfl, s1, rv⟩ := rel_lview q2 (rel_mono l2 q1.mut d v rv) e1
      obtain ⟨p2, ws, rfl, s2, rw'⟩ := rel_lview q2 ru e2
      refine ⟨p1, p2, vs, ws, rfl, rfl, s1, s2, by rw [rels_length rv, rels_length rw', ← hs]; exact hz, fun p hp => ?_⟩
      exact a2 (T2.blk p) (upd H2 p (.lst (vs ++ ws))) _ (Le.blk hp) (q2.blk hp) ⟨p, _, rfl, upd_same, fun z => q2.mut.free hp (q2.sub p z), .inr rfl, (l1.trans r1.mut l2).was q2.mut hp, rels_mono (Le.blk hp) q2.mut _ _ (rels_append rv rw')⟩
    · rw [if_neg hz] at a2; exact a2.elim
@[simp ↓] theorem wp_fAddL {f g : Ex} {env : En} {h : HH} {qs : List D → HH → Prop} {e : String → HH → Prop} : Wp qs e (fAddL f g env h) ↔ Wp (fun a h1 => Wp (fun b h2 => Wo (fun xs => Wo (fun ys => xs.length + ys.length ≤ sz ∧ qs (xs ++ ys) h2) (lview h2 b)) (lview h2 a)) e (g env h1)) e (f env h) := by
  unfold fAddL
  rw [wp_bind]
  refine wp_congr fun d h1 => ?_
  rw [wp_bind]
  exact wp_congr fun d2 h2 => wp_wo fun xs => wp_wo fun ys => wp_if
end Pu

namespace Pu
open PySem PySem.Spec PyProof.Rows L2

/-! ### a tuple once -/
theorem tuple_mul1 (l : Addr) (items : Array Value) (n : Nat) (dd : Option Addr) (sl : Array (Option Value)) (u : Tok) :
    Meets (Builtin.«tuple.__mul__» ⟨[.ref l, .int 1 u], []⟩) (fun _ R s => s.heap.get? l = some { cls := .type "tuple", dict := dd, data := .seq items n, slots := sl } ∧ R (.ok (.ret (Value.ref l))) s) :=
  .of_wp fun prog w A R s h => by
    obtain ⟨hp, g, d, tk, os⟩ := s
    obtain ⟨hl, h⟩ := h
    have f1 := AutoSeq1.idx_int
    have c1 : (items.isEmpty || (1 : Int) == 1) = true := by rw [show ((1 : Int) == 1) = true from rfl, Bool.or_true]
    wp_walk using AutoSeq1.wpAny_loadPart' hl
    exact ⟨_, rfl, h⟩
section
variable {X : Cx}
theorem op_rep1 : OpR X (binaryOp .Mult) fun x y H Q => ∃ (l : Addr) (xs : List V), x = .ref l ∧ y = .int 1 ∧ SqT X.K H l xs ∧ Q (.ref l) H := by
  intro pins s σ H x y v u Q I rx ry h
  obtain ⟨l, xs, rfl, rfl, hT, q⟩ := h
  cases rx
  obtain ⟨t, rfl⟩ := ry
  obtain ⟨its, r, ⟨⟨cls, dd, data, sl⟩, ho, hc, n, hd⟩, hs⟩ := I.tuple hT
  simp only at hc hd
  subst hc hd
  refine wpAny_binaryOp_repeat_ref (T := "tuple") (U := "int") (by decide) ⟨_, ho, rfl⟩ (fun s' => typeIs_int s' 1 t) noFill_tuple_mul F.fills_int_mul F.slot_int_rmul repeat_tuple F.slot_int_index.lookup
    (call_meets F.slot_int_rmul (typeIs_int s 1 t) F.entry_int_rmul (F.args_int_rmul_2 _ _) (int_rmul_tuple 1 t l its.toArray n dd sl)
      ⟨ho, rfl, ⟨_, ho, rfl⟩, call_meets F.slot_tuple_mul ⟨_, ho, rfl⟩ F.entry_tuple_mul (F.args_tuple_mul_2 _ _) (tuple_mul1 l its.toArray n dd sl t) ⟨ho, ?_⟩⟩)
  exact ⟨.ref l, H, I, rfl, q⟩
def isT1 (a b : D) : Bool := match a, b with
  | .tup _, .int i => decide (i = 1)
  | _, _ => false
def opMulX (a b : D) (h : HH) : R D := if isT1 a b = true then .ok a h else opMul a b h
theorem o_mulX : OpR X (binaryOp .Mult) (rdO X opMulX) := OpR.mono (op_rep1.or o_mul) fun x y H Q q => by
  obtain ⟨T, h, a, b, r, ra, rb, q⟩ := q
  unfold opMulX at q
  by_cases hc : isT1 a b = true
  · rw [if_pos hc] at q
    unfold isT1 at hc
    split at hc
    · rename_i xs i
      have hi : i = 1 := of_decide_eq_true hc
      subst hi
      have ra' := ra
      unfold rel at ra
      obtain ⟨p1, vs, rfl, s1, rv⟩ := ra
      exact .inl ⟨p1, vs, rfl, rel_int_iff.mp rb, s1.sq, q T H _ Le.refl r ra'⟩
    · cases hc
  · rw [if_neg hc] at q
    exact .inr ⟨T, h, _, _, r, ra, rb, q⟩
end
@[simp] theorem wp_mulX1 {xs : List D} {h : HH} {q : D → HH → Prop} {e : String → HH → Prop} : Wp q e (opMulX (.tup xs) (.int 1) h) ↔ q (.tup xs) h := Iff.rfl
@[simp] theorem wp_mulXI {i j : Int} {h : HH} {q : D → HH → Prop} {e : String → HH → Prop} : Wp q e (opMulX (.int i) (.int j) h) ↔ Wp q e (opMul (.int i) (.int j) h) := Iff.rfl
theorem wp_mulXT {xs : List D} {j : Int} {h : HH} {q : D → HH → Prop} {e : String → HH → Prop} (h1 : j ≠ 1) : Wp q e (opMulX (.tup xs) (.int j) h) ↔ Wp q e (opMul (.tup xs) (.int j) h) := by
  unfold opMulX
  have : isT1 (.tup xs) (.int j) = false := decide_eq_false h1
  rw [this]; exact Iff.rfl
end Pu
namespace Pu
open PySem PySem.Spec PyProof.Rows L2 HT
/-! ### a tuple turned about -/
section
variable {prog : Program} {w : World} {A : Around} {E : Value → Shared → Prop} {s : Shared}
theorem adjust_rev (n : Nat) : Builtin.Slice.sliceAdjust none none (-1) (n : Int) = ((n : Int) - 1, -1) := by
  unfold Builtin.Slice.sliceAdjust
  have h1 : ((-1 : Int) < 0) := by omega
  simp only [h1, if_true]
theorem places_rev (n : Nat) : Builtin.Slice.slicePlaces ((n : Int) - 1) (-1) (-1) = n := by
  unfold Builtin.Slice.slicePlaces
  have h1 : ¬ ((-1 : Int) > 0) := by omega
  simp only [h1, if_false]
  rw [show (- -1 : Int) = 1 by decide, Int.ediv_one]
  split <;> omega
theorem sliceApplied_rev {sl : Addr} {n : Nat} {u : Tok} {Q : Int × Int × Nat → Shared → Prop} (hs : s.heap.IsSliceOf sl .none .none (.int (-1) u))
    (h : Q ((n : Int) - 1, -1, n) s) : wpAny (model prog w) A (Builtin.Slice.sliceApplied (.ref sl) (pure (n : Int))) Q E s := by
  obtain ⟨os, hos, hcs, hds⟩ := id hs
  unfold Builtin.Slice.sliceApplied Builtin.Slice.sliceFields
  refine wpAny_bind (wpAny_bind (wpAny_field hos hds (x := .none) rfl (wpAny_bind (wpAny_field hos hds (x := .none) rfl (wpAny_bind (wpAny_field hos hds (x := .int (-1) u) rfl (wpAny_pure ?_)))))))
  refine wpAny_bind (slicePart_int ?_)
  show wpAny _ _ (if ((-1 : Int) == 0) = true then _ else _) _ _ s
  rw [if_neg (by decide)]
  refine wpAny_bind (slicePart_none (wpAny_bind (slicePart_none (wpAny_bind (wpAny_pure ?_)))))
  show wpAny _ _ (match Builtin.Slice.sliceAdjust none none (-1) (n : Int) with | (lo, hi) => pure (lo, (-1 : Int), Builtin.Slice.slicePlaces lo hi (-1))) _ _ s
  rw [adjust_rev n]
  show wpAny _ _ (pure ((n : Int) - 1, (-1 : Int), Builtin.Slice.slicePlaces ((n : Int) - 1) (-1) (-1))) _ _ s
  rw [places_rev]
  exact wpAny_pure h
theorem pick_rev (xs : Array Value) : ((List.range xs.size).filterMap fun (m : Nat) => xs[((xs.size : Int) - 1 + (m : Int) * -1).toNat]?).toArray = xs.toList.reverse.toArray := by
  congr 1
  have e : (fun (m : Nat) => xs[((xs.size : Int) - 1 + (m : Int) * -1).toNat]?) = fun m : Nat => xs[((xs.size : Int) - 1 - (m : Int)).toNat]? := by
    funext m
    congr 1; omega
  rw [e]
  have e2 : (List.range xs.size).filterMap (fun m : Nat => xs[((xs.size : Int) - 1 - (m : Int)).toNat]?) = ((List.range xs.size).map fun k => xs.size - 1 - k).filterMap (xs[·]?) := by
    rw [List.filterMap_map]
    congr 1
    funext m
    show _ = xs[xs.size - 1 - m]?
    congr 1; omega
  rw [e2, PySem.W.krv_range, List.filterMap_reverse, PySem.W.krv_all]
theorem getItem_tuple_rev {t sl : Addr} {items : Array Value} {u : Tok} {Q : Value → Shared → Prop} (ht : IsTup s.heap t items) (hs : s.heap.IsSliceOf sl .none .none (.int (-1) u))
    (h : Q (.ref s.heap.objs.size) { s with heap := s.heap.push { cls := .type "tuple", data := .seq items.toList.reverse.toArray } })
    (hsz : items.size ≤ sizeLine) : wpAny (model prog w) A (getItem (.ref t) (.ref sl)) Q E s := by
  have htake : sizeOk (.seq items.toList.reverse.toArray) := by
    show items.toList.reverse.toArray.size ≤ sizeLine
    rw [List.size_toArray, List.length_reverse, Array.length_toList]
    omega
  obtain ⟨os, hos, hcs, hds⟩ := id hs
  have hTs : s.TypeIs (.ref sl) "slice" := ⟨os, hos, hcs⟩
  unfold getItem
  try with_reducible refine wpAny_holding ?_
  first | refine wpAny_bind (wpAny_pure ?_) | skip
  refine wpAny_bind (wpAny_sequenceKey ht.typeIs (by decide) ?_)
  refine wpAny_bind (wpAny_callSpecial?_slot (name := Str.ofString "__getitem__") ht.typeIs PyProof.Rows.slot_tuple_getitem
    (wpAny_call_entry PyProof.Rows.slot_tuple_getitem ht.typeIs entry_tuple_getitem ?_ (args_tuple_getitem _ _)))
  show wpAny _ _ (Builtin.Tuple.tupleItemsOf (.ref t) >>= _) _ _ s
  refine wpAny_bind (tupleItemsOf_ ht ?_)
  refine wpAny_bind (wpAny_typeOf hTs ?_)
  rw [if_pos (by decide)]
  refine wpAny_bind (sliceApplied_rev hs ?_)
  have hno : ¬ ((((items.size : Int) - 1) == 0 && (-1 : Int) == 1 && items.size == items.size) = true) := by
    rw [show ((-1 : Int) == 1) = false from rfl, Bool.and_false, Bool.false_and]
    exact Bool.false_ne_true
  show wpAny _ _ (if (((items.size : Int) - 1) == 0 && (-1 : Int) == 1 && items.size == items.size) = true then _ else _) _ _ s
  rw [if_neg hno, pick_rev]
  first
    | exact wpAny_bind (m := Builtin.Tuple.tupleExact _) (wpAny_newObj_type (wpAny_pure ⟨_, rfl, wpAny_pure h⟩) htake)
    | exact wpAny_bind (m := Builtin.Tuple.tupleExact _) (wpAny_newObj_type (wpAny_bind (wpAny_pure (wpAny_pure ⟨_, rfl, wpAny_pure h⟩))) htake)
    | exact wpAny_bind (wpAny_bind (m := Builtin.Tuple.tupleExact _) (wpAny_newObj_type (wpAny_pure (wpAny_pure ⟨_, rfl, wpAny_pure h⟩)) htake))
    | exact wpAny_bind (wpAny_bind (m := Builtin.Tuple.tupleExact _) (wpAny_newObj_type (wpAny_pure ⟨_, rfl, wpAny_pure h⟩) htake))
end
section
variable {X : Cx} {W : WX}
def tRevA (K : PySem.W.Frag) (te : TE) : TE := fun σ H Q => te σ H fun x H1 => ∃ a xs, x = V.ref a ∧ ((SqL K H1 a xs ∧ ∀ p, H1 p = none → Q (.ref p) (upd H1 p (.lst xs.reverse))) ∨ (SqT K H1 a xs ∧ Made H1 xs.reverse Q))
theorem pe_revA {e : Expr} {te : TE} {k : Nat} {p1 p2 p3 pos : Pos} (he : PE X e te) : PE X (.Subscript e (.Slice none none (some (.UnaryOp .USub (.Constant (.int 1) k p1) p2)) p3) pos) (tRevA X.K te) := by
  refine ⟨fun pins s σ H Q I h => ?_⟩
  refine Subscript_ (thn (he.run pins s σ H _ I h) fun v s1 ⟨x, H1, I1, r1, q1⟩ => ?_)
  obtain ⟨a, xs, ex, q⟩ := q1
  subst ex
  cases r1
  have hst : PO X (some (.UnaryOp .USub (.Constant (.int 1) k p1) p2)) (tPart (tUn (rU fun i => .int (-i)) (tC (.int 1)))) := po_some (pe_un un_neg pe_int)
  refine wpAny_Slice (thn (po_none.run pins s1 σ H1 (fun o H2 => o = none ∧ H2 = H1) I1 ⟨rfl, rfl⟩) fun vl s2 ⟨l, H2, I2, pl, el, e2⟩ => ?_)
  subst el e2
  refine thn (po_none.run pins s2 σ H2 (fun o H3 => o = none ∧ H3 = H2) I2 ⟨rfl, rfl⟩) fun vu s3 ⟨u, H3, I3, pu, eu, e3⟩ => ?_
  subst eu e3
  refine thn (hst.run pins s3 σ H3 (fun o H4 => o = some (-1) ∧ H4 = H3) I3 ⟨1, rfl, -1, rfl, rfl, rfl⟩) fun vs s4 ⟨o, H4, I4, ps, eo, e4⟩ => ?_
  subst eo e4
  have I5 : Inv X pins σ H4 { s4 with heap := s4.heap.push { cls := .type "slice", data := .fields #[vl, vu, vs] } } := I4.kept (t' := s4.toks) fun b ob q => Heap.get?_push_of_some _ q
  show wpAny (model X.prog X.w) X.A (subscriptTail e (.Slice none none (some (.UnaryOp .USub (.Constant (.int 1) k p1) p2)) p3) (.ref a) (.ref s4.heap.objs.size)) (EP X pins σ Q) X.xe { s4 with heap := s4.heap.push { cls := .type "slice", data := .fields #[vl, vu, vs] } }
  rcases q with ⟨hx, q⟩ | ⟨hx, q⟩
  · obtain ⟨its, r, ht, hz⟩ := I5.list hx
    have hlen := r.length
    refine tail_any (ops := [.ref a, .ref s4.heap.objs.size]) ht.isList.typeIs (PySem.slot_list_getitem.lookup) ?_ (by with_unfolding_all rfl)
    refine wpAny_getItem_list_slice ht.isList (Heap.IsSliceOf.new _ vl vu vs) pl pu ps (by decide) ?_ (by rw [List.size_toArray]; omega)
    rw [PySem.W.krv_pick]
    refine ⟨.ref _, _, I5.laid (t' := s4.toks) (o := .lst xs.reverse) (fun b ob q => Heap.get?_push_of_some _ q) (Nat.le_refl _) ?_, rfl, q _ (I5.hok.fresh (Nat.le_refl _))⟩
    exact ⟨by rw [List.length_reverse]; exact hz, _, 0, r.reverse, Heap.get?_push_size _ rfl⟩
  · obtain ⟨its, r, ht, hz⟩ := I5.tuple hx
    have hlen := r.length
    cases pl
    cases pu
    cases ps
    refine tail_any (ops := [.ref a, .ref s4.heap.objs.size]) ht.typeIs (PyProof.Rows.slot_tuple_getitem.lookup) ?_ (by with_unfolding_all rfl)
    refine getItem_tuple_rev ht (Heap.IsSliceOf.new _ _ _ _) ?_ (by rw [List.size_toArray]; omega)
    exact made_ok I5 r.reverse (by rw [List.length_reverse]; exact hz) q
end

section
variable {X : Cx} {W : WX}
/-- x[::-1]: a tuple, a list -/
def opRev (d : D) (h : HH) : R D := match d with
  | .tup xs => .ok (.tup xs.reverse) h
  | d => ofO (itemsL h d) fun xs => .ok (.lst xs.reverse) h
theorem se_revA {e : Expr} {f : Ex} {j : Nat} {p1 p2 p3 pos : Pos} (he : SE X W e f) : SE X W (.Subscript e (.Slice none none (some (.UnaryOp .USub (.Constant (.int 1) j p1) p2)) p3) pos) (eUn opRev f) :=
  PE.mono (pe_revA he) fun σ H Q hh => by
    obtain ⟨T, env, h, r1, r2, a⟩ := hh
    refine ⟨T, env, h, r1, r2, a.bind r1.mut fun d h1 T1 H1 v _ l1 q1 rv a1 => ?_⟩
    revert a1
    cases hd : opRev d h1 with
    | exc c h' => intro a1; exfalso; unfold opRev at hd; split at hd; cases hd; cases e2 : itemsL h1 d <;> rw [e2] at hd <;> cases hd
    | stuck => exact fun a1 => a1.elim
    | ok d' h' =>
      intro a1
      unfold opRev at hd
      split at hd
      · rename_i xs
        cases hd
        unfold rel at rv
        obtain ⟨b, ws, rfl, sq, rr⟩ := rv
        refine ⟨b, ws, rfl, .inr ⟨sq.sq, fun p o hp ho => ?_⟩⟩
        exact a1 T1 (upd H1 p (.frz o (.tup ws.reverse))) _ (Le.new hp) (q1.new hp) (rel_tup upd_same ho (rels_mono (Le.new hp) q1.mut _ _ (rels_reverse rr)))
      · obtain ⟨xs, e1, e2⟩ := ofO_ok hd
        cases e2
        obtain ⟨b, ws, rfl, sq, rr⟩ := rel_itemsL q1 rv e1
        refine ⟨b, ws, rfl, .inl ⟨sq, fun p hp => ?_⟩⟩
        exact a1 T1 (upd H1 p (.lst ws.reverse)) _ (Le.new hp) (q1.new hp) (rel_lst upd_same (q1.mut.free hp) (rels_mono (Le.new hp) q1.mut _ _ (rels_reverse rr)))
end
@[simp] theorem wp_revT {xs : List D} {h : HH} {q : D → HH → Prop} {e : String → HH → Prop} : Wp q e (opRev (.tup xs) h) ↔ q (.tup xs.reverse) h := Iff.rfl
@[simp] theorem wp_revL {xs : List D} {h : HH} {q : D → HH → Prop} {e : String → HH → Prop} : Wp q e (opRev (.lst xs) h) ↔ q (.lst xs.reverse) h := Iff.rfl
@[simp] theorem wp_revR {i : Nat} {h : HH} {q : D → HH → Prop} {e : String → HH → Prop} : Wp q e (opRev (.ref i) h) ↔ Wo (fun xs => q (.lst xs.reverse) h) (itemsL h (.ref i)) := wp_wo fun xs => Iff.rfl
end Pu

namespace Pu
open PySem PySem.Spec PyProof.Rows L2

/-! ### dict(t), t a tuple of pairs -/
section
variable {X : Cx} {pins : List (Addr × Obj)} {σ : L2.St} {H : Hp} {s : Shared}
theorem xt_plain {a : Addr} {xs : List V} (I : Inv X pins σ H s) (h : XT X.K H a xs) : ∃ its : List Value, Vals xs its ∧ PlainSeq "tuple" s.heap a its.toArray ∧ xs.length ≤ sizeLine := by
  obtain ⟨its, r, ⟨o, g, c, n, d⟩, z⟩ := I.tuple h.sq
  refine ⟨its, r, ⟨o, n, g, c, ?_, d⟩, z⟩
  rcases h with ⟨o', e, hd⟩ | ⟨o', _, _, e, _, _, _, _, hd⟩
  · obtain ⟨g', _⟩ := (show ObjOk X.prog X.w H s.heap a (.frz o' (.tup xs)) from I.hok a _ e)
    cases g.symm.trans g'
    exact hd
  · cases g.symm.trans (I.kIn a o' e)
    exact hd
/-- each pair's own key, laid out -/
theorem raw_pairs {ps : List Addr} {prs : List (Key × Value)} (hp : ∀ (j : Nat) (q : Key × Value), prs[j]? = some q → ∃ (b : Addr) (u : Value), ps[j]? = some b ∧ IsTup s.heap b #[u, q.2] ∧ keyIs q.1 u = true) :
    ∃ raw : List (Value × Value), raw.length = prs.length ∧ ∀ (j : Nat) (k v : Value), raw[j]? = some (k, v) → ∃ (c : Key) (b : Addr), prs[j]? = some (c, v) ∧ ps[j]? = some b ∧ IsTup s.heap b #[k, v] ∧ keyIs c k = true := by
  have pick : ∀ j : Nat, ∃ k : Value, ∀ q, prs[j]? = some q → ∃ b, ps[j]? = some b ∧ IsTup s.heap b #[k, q.2] ∧ keyIs q.1 k = true := fun j => by
    cases e : prs[j]? with
    | none => exact ⟨.none, fun q z => by cases z⟩
    | some q =>
      obtain ⟨b, u, h1, h2, h3⟩ := hp j q e
      exact ⟨u, fun q' z => by cases z; exact ⟨b, h1, h2, h3⟩⟩
  refine ⟨(List.range prs.length).zipWith (fun j q => ((pick j).choose, q.2)) prs, by simp, fun j k v e => ?_⟩
  rw [List.getElem?_zipWith] at e
  by_cases hj : j < prs.length
  · rw [List.getElem?_range hj, List.getElem?_eq_getElem hj] at e
    cases e
    obtain ⟨b, h1, h2, h3⟩ := (pick j).choose_spec _ (List.getElem?_eq_getElem hj)
    exact ⟨_, b, List.getElem?_eq_getElem hj, h1, h2, h3⟩
  · rw [List.getElem?_eq_none (by omega : prs.length ≤ j)] at e
    cases e2 : (List.range prs.length)[j]? <;> rw [e2] at e <;> cases e
theorem call_dictT (hcalm : X.calm = true) : CallR X (.type "dict") (fun xs H Q => ∃ (a : Addr) (ps : List Addr) (kvs : List (Key × V)), xs = [.ref a] ∧ XT X.K H a (ps.map V.ref) ∧ Paired (fun p kv => SqT X.K H p [kV kv.1, kv.2]) ps kvs ∧
    ∀ p, H p = none → Q (.ref p) (upd H p (.dK (mergeK [] kvs)))) := fun pins s σ H xs us Q I r q => by
  obtain ⟨a, ps, kvs, rfl, hq, hp, q⟩ := q
  obtain ⟨u, rfl, ru⟩ := vals1 r
  have eu : u = .ref a := ru
  subst eu
  obtain ⟨its, rv, plain, hz⟩ := xt_plain I hq
  have ei := refs_at rv
  subst ei
  obtain ⟨prs, rel, hl, hpr⟩ := pairs_of I hp
  obtain ⟨raw, rl, hr⟩ := raw_pairs hpr
  have hps : ps.length ≤ sizeLine := by rw [List.length_map] at hz; exact hz
  have items : PairItems s.heap (ps.map Value.ref).toArray (fun j => (ps[j]?).getD 0) raw := ⟨by simp [rl, hl], fun j k v e => by
    obtain ⟨c, b, _, h2, h3, _⟩ := hr j k v e
    refine ⟨by simp [h2], .inl ?_⟩
    show s.heap.IsTuple ((ps[j]?).getD 0) #[k, v]
    rw [h2]
    exact h3⟩
  refine PySem.call_dict_pairs (knd := mixKind X.prog X.w) (kvs := prs) (PairArg.tuple a (ps.map Value.ref).toArray (fun j => (ps[j]?).getD 0) raw) (I.ok.hd hcalm) ⟨plain, items⟩ ⟨rl.symm, fun i k v e => ?_⟩ (by rw [rl, hl]; exact hps) fun h' tk hd keep => ?_
  · obtain ⟨c, b, h1, _, _, h4⟩ := hr i k v e
    exact ⟨c, h1, h4⟩
  · have far : (s.heap.objs.size == sysModules) = false := beq_eq_false_iff_ne.mpr (Nat.ne_of_gt I.big)
    have few : (mergeK [] kvs).length ≤ sizeLine := Nat.le_trans (length_mergeK kvs []) (by rw [List.length_nil, Nat.zero_add, rel.length, hl]; exact hps)
    have J := I.laid (t' := tk) (h' := h') (o := .dK (mergeK [] kvs)) (fun b o e => keep b o (fun z => nomatch z) e) (Nat.le_refl _) ⟨few, far, merged [] prs, KV.merge rel .nil, hd⟩
    exact ⟨.ref s.heap.objs.size, _, J, rfl, q _ (I.hok.fresh (Nat.le_refl _))⟩
end
/-! ### dict(x), x a dict, a list or a tuple of pairs -/
def dictX (h : HH) : List D → Option (List (Ky × D))
  | [d] => match dicD h d with
    | some kvs => some kvs
    | none => match d with
      | .tup xs => (pairsD xs).map merD
      | d => ((itemsL h d).bind pairsD).map merD
  | _ => none
def eDictX (f : Exs) : Ex := fun env h => (f env h).bind fun ds h1 => ofO (dictX h1 ds) fun kvs => .ok (.dic kvs) h1
def eDictXN (f : Exs) : Ex := fun env h => (f env h).bind fun ds h1 => ofO (dictX h1 ds) fun kvs => .ok (.ref h1.length) (h1 ++ [.dic kvs])
section
variable {X : Cx} {W : WX} {k : Nat}
theorem rd_dictX {f : Exs} {fin : List (Ky × D) → HH → R D} {σ : L2.St} {H : Hp} {Q : VK}
    (hfin : ∀ T H h kvs ks p, RelH X.K T H h → H p = none → relk X.K T H kvs ks → After X.K X.mg W T H σ (rel X.K) Q (fin kvs h) → Q (.ref p) (upd H p (.dK ks)))
    (hh : rd X W (fun env h => (f env h).bind fun ds h1 => ofO (dictX h1 ds) fun kvs => fin kvs h1) σ H Q) :
    rds X W f σ H fun xs H1 => (∃ (a : Addr) (ps : List Addr) (kvs : List (Key × V)), xs = [.ref a] ∧ SqL X.K H1 a (ps.map V.ref) ∧ Paired (fun p kv => SqT X.K H1 p [kV kv.1, kv.2]) ps kvs ∧
      ∀ p, H1 p = none → Q (.ref p) (upd H1 p (.dK (mergeK [] kvs)))) ∨ (∃ (a : Addr) (ps : List Addr) (kvs : List (Key × V)), xs = [.ref a] ∧ XT X.K H1 a (ps.map V.ref) ∧ Paired (fun p kv => SqT X.K H1 p [kV kv.1, kv.2]) ps kvs ∧
      ∀ p, H1 p = none → Q (.ref p) (upd H1 p (.dK (mergeK [] kvs)))) ∨ (∃ (a : Addr) (kvs : List (Key × V)), xs = [.ref a] ∧ Rd H1 a (.dK kvs) ∧ ∀ p, H1 p = none → Q (.ref p) (upd H1 p (.dK kvs))) := by
  obtain ⟨T, env, h, r1, r2, a⟩ := hh
  refine ⟨T, env, h, r1, r2, a.bind r1.mut fun ds h1 T1 H1 vs e l1 q1 rvs a1 => ?_⟩
  obtain ⟨kvs, e1, a2⟩ := a1.ofO
  unfold dictX at e1
  split at e1
  · rename_i d
    obtain ⟨v, rfl, rv⟩ := rels_one rvs
    split at e1
    · rename_i kvs' e2
      cases e1
      obtain ⟨b, ks, rfl, s, rk⟩ := rel_dicD q1 rv e2
      exact .inr (.inr ⟨b, ks, rfl, s, fun p hn => hfin T1 H1 h1 kvs ks p q1 hn rk a2⟩)
    · split at e1
      · obtain ⟨kv0, e0, rfl⟩ := Option.map_eq_some_iff.mp e1
        unfold rel at rv
        obtain ⟨b, ws, rfl, s, rr⟩ := rv
        obtain ⟨ps, ks, rfl, hp, rk⟩ := pairs_rel rr e0
        exact .inr (.inl ⟨b, ps, ks, rfl, s, hp, fun p hn => hfin T1 H1 h1 (merD kv0) _ p q1 hn (relk_mer rk relk_nil) a2⟩)
      obtain ⟨kv0, e0, rfl⟩ := Option.map_eq_some_iff.mp e1
      obtain ⟨xs, e2, e3⟩ := Option.bind_eq_some_iff.mp e0
      obtain ⟨b, ws, rfl, s, rr⟩ := rel_itemsL q1 rv e2
      obtain ⟨ps, ks, rfl, hp, rk⟩ := pairs_rel rr e3
      exact .inl ⟨b, ps, ks, rfl, s, hp, fun p hn => hfin T1 H1 h1 (merD kv0) _ p q1 hn (relk_mer rk relk_nil) a2⟩
  · cases e1
theorem se_dictX (C : Cok X W k) {x : Str} {e : Expr} {f : Exs} {p pos : Pos} (hg : Gl X x) (hm : X.mg x = none) (hv : bootBuiltins x = some (.type "dict")) (ha : SA X W [e] f)
    (hn : x ≠ "__name__" := by decide) (hdb : (x == ("__debug__" : Str)) = false := by decide)
    (he : starEach [e] X.env = (false, eval e X.env) :: starEach [] X.env := by rfl) (hpl : (backTo pos (starEach [] X.env)).any (·.1) = false := by rfl) : SE X W (.Call (.Name x p) [e] [] pos) (eDictX f) :=
  PE.mono (pe_callTy ((call_dictP C.calm).or ((call_dictT C.calm).or call_dictD)) hg hm hv ha.pa hn hdb he hpl) fun σ H Q hh => by
    refine rd_dictX (fin := fun kvs h1 => .ok (.dic kvs) h1) (fun T H h kvs ks p q hn rk a => ?_) hh
    refine After.new (d := D.dic kvs) a q hn ?_
    unfold rel
    exact ⟨p, ks, rfl, upd_same, q.mut.free hn, relk_mono (Le.new hn) q.mut _ _ rk⟩
theorem se_dictXN (C : Cok X W k) {x : Str} {e : Expr} {f : Exs} {p pos : Pos} (hg : Gl X x) (hm : X.mg x = none) (hv : bootBuiltins x = some (.type "dict")) (ha : SA X W [e] f)
    (hn : x ≠ "__name__" := by decide) (hdb : (x == ("__debug__" : Str)) = false := by decide)
    (he : starEach [e] X.env = (false, eval e X.env) :: starEach [] X.env := by rfl) (hpl : (backTo pos (starEach [] X.env)).any (·.1) = false := by rfl) : SE X W (.Call (.Name x p) [e] [] pos) (eDictXN f) :=
  PE.mono (pe_callTy ((call_dictP C.calm).or ((call_dictT C.calm).or call_dictD)) hg hm hv ha.pa hn hdb he hpl) fun σ H Q hh => by
    refine rd_dictX (fin := fun kvs (h1 : HH) => R.ok (D.ref h1.length) (h1 ++ [O.dic kvs])) (fun T H h kvs ks p q hn rk a => ?_) hh
    have np : p ∉ T.L := fun z => q.mut.free hn (q.sub p z)
    have q2 := q.blk hn (o := .dK ks)
    have rk2 : relk X.K (T.blk p) (upd H p (.dK ks)) kvs ks := relk_mono (Le.blk hn) q.mut _ _ rk
    refine a ((T.blk p).add p) _ _ ((Le.blk hn).add hn) (q2.add (.inr rfl) np ⟨ks, upd_same, relk_add _ _ (.inr rfl) rk2⟩) ?_
    unfold rel
    exact ⟨p, rfl, by show (T.L ++ [p])[h.length]? = _; rw [← q.len, List.getElem?_append_right (Nat.le_refl _), Nat.sub_self]; rfl⟩
end
section
variable {as : Exs} {env : En} {h : HH} {q : D → HH → Prop} {e : String → HH → Prop}
@[simp ↓] theorem wp_eDictX : Wp q e (eDictX as env h) ↔ Wp (fun ds h1 => Wo (fun kvs => q (.dic kvs) h1) (dictX h1 ds)) e (as env h) := by unfold eDictX; rw [wp_bind]; exact wp_congr fun ds h1 => wp_ofO
@[simp ↓] theorem wp_eDictXN : Wp q e (eDictXN as env h) ↔ Wp (fun ds h1 => Wo (fun kvs => q (.ref h1.length) (h1 ++ [.dic kvs])) (dictX h1 ds)) e (as env h) := by unfold eDictXN; rw [wp_bind]; exact wp_congr fun ds h1 => wp_ofO
@[simp] theorem dictX_d {kvs : List (Ky × D)} : dictX h [.dic kvs] = some kvs := rfl
@[simp] theorem dictX_t {xs : List D} : dictX h [.tup xs] = (pairsD xs).map merD := rfl
@[simp] theorem dictX_l {xs : List D} : dictX h [.lst xs] = (pairsD xs).map merD := rfl
end
end Pu

namespace Pu
open PySem PySem.Spec PyProof.Rows L2

/-! ### forms, worths of number parts -/
namespace Pt
def fml (p : Pt) : List Int := [c0 p, cf "k" p, cf "l" p, cf "m" p, cf "n" p]
def fmD (p : Pt) : D := .tup (p.fml.map D.int)
/-- its worth, the names given -/
def wo (g : String → Int) : Pt → Int
  | .num i => i
  | .nm s => g s
  | .bin w a b => if w = "plus" then wo g a + wo g b else wo g a - wo g b
theorem wo_lin {g : String → Int} : ∀ p : Pt, ok p → wo g p = c0 p + (cf "k" p * g "k" + cf "l" p * g "l" + cf "m" p * g "m" + cf "n" p * g "n")
  | .num i, _ => by simp [wo, c0, cf]
  | .nm s, o => by
    simp [ok] at o
    rcases o with rfl | rfl | rfl | rfl <;> simp [wo, c0, cf]
  | .bin w a b, o => by
    have h1 : w = "plus" ∨ w = "minus" := by simpa using o.1
    have ea := wo_lin (g := g) a o.2.1
    have eb := wo_lin (g := g) b o.2.2
    rcases h1 with rfl | rfl
    · simp only [wo, c0, cf, ea, eb]; simp [Int.add_mul]; omega
    · simp only [wo, c0, cf, ea, eb]; simp [Int.sub_mul]; omega
def dl (x : String) (s : String) : Int := if s = x then 1 else 0
/-- the worths where no name, one name is 1 -/
def wos (p : Pt) : List Int := ["", "k", "l", "m", "n"].map fun x => wo (dl x) p
theorem wos_eq {p : Pt} (o : ok p) : wos p = [c0 p, c0 p + cf "k" p, c0 p + cf "l" p, c0 p + cf "m" p, c0 p + cf "n" p] := by
  unfold wos
  simp only [List.map_cons, List.map_nil, wo_lin p o]
  simp [dl]
theorem wos_iff {p q : Pt} (op : ok p) (oq : ok q) : wos p = wos q ↔ fml p = fml q := by
  rw [wos_eq op, wos_eq oq]
  unfold fml
  simp only [List.cons.injEq, and_true]
  constructor <;> (rintro ⟨h1, h2, h3, h4, h5⟩; exact ⟨by omega, by omega, by omega, by omega, by omega⟩)
end Pt
/-! ### words; what is alike -/
def wordsP : Pd → List String
  | .w1 w _ => [w]
  | .wn w _ _ => [w]
  | .wb w _ _ => [w]
  | .cond _ d => "if" :: wordsP d
def pB : PtK → PtK → Bool
  | .inl a, .inl b => decide (a = b)
  | .inr n, .inr m => decide (n.fml = m.fml)
  | _, _ => true
def adB (d e : Pd) : Bool := decide (wordsP d = wordsP e) && ((ptsP d).zip (ptsP e)).all fun p => pB p.1 p.2
/-- told flat -/
abbrev Itm := String × List Ky
def itD (i : Itm) : D := .tup [.str i.1, .lst (i.2.map kD)]
def flatP : Pd → List Itm
  | .w1 w a => [(w, [a])]
  | .wb w a b => [(w, [a, b])]
  | .wn w a n => (w, [a]) :: n.wos.map fun x => ("worth", [Sum.inl x])
  | .cond a d => ("if", [a]) :: flatP d
def flatsP (ds : List Pd) : List Itm := ds.flatMap flatP
theorem eqv_itm {a b : Itm} : eqv (itD a) (itD b) = decide (a = b) := by
  obtain ⟨s, ks⟩ := a
  obtain ⟨t, js⟩ := b
  unfold itD
  rw [eqv_tup]
  show (PyData.eqv (toP (.str s)) (toP (.str t)) && (PyData.eqv (toP (.lst (ks.map kD))) (toP (.lst (js.map kD))) && true)) = _
  have e1 : PyData.eqv (toP (.str s)) (toP (.str t)) = decide (s = t) := eqv_ss
  have e2 : PyData.eqv (toP (.lst (ks.map kD))) (toP (.lst (js.map kD))) = decide (ks = js) := by
    have := eqv_lst (xs := ks.map kD) (ys := js.map kD)
    rw [eqvAll_kys] at this
    exact this
  rw [e1, e2, Bool.and_true, Bool.eq_iff_iff]
  simp
theorem eqvAll_itms : ∀ (as bs : List Itm), PyData.eqvAll (toPs (as.map itD)) (toPs (bs.map itD)) = decide (as = bs)
  | [], [] => rfl
  | [], b :: bs => rfl
  | a :: as, [] => rfl
  | a :: as, b :: bs => by
    have ih := eqvAll_itms as bs
    have e := eqv_itm (a := a) (b := b)
    show (PyData.eqv (toP (itD a)) (toP (itD b)) && PyData.eqvAll (toPs (as.map itD)) (toPs (bs.map itD))) = _
    rw [ih]
    unfold eqv at e
    rw [e, Bool.eq_iff_iff]
    simp
theorem pl_itms (is : List Itm) : plD (.lst (is.map itD)) := by
  have h1 : ∀ is : List Itm, isDs (is.map itD) = true ∧ deeps (is.map itD) ≤ 2 := fun is => by
    induction is with
    | nil => simp
    | cons i is ih =>
      rw [List.map_cons, isDs_cons, deeps_cons]
      simp [itD, isDs_kys, deeps_kys, ih.1]
      omega
  exact ⟨by simp [h1], by simp; have := (h1 is).2; omega⟩
theorem same_itms {h : HH} {as bs : List Itm} : same? h (.lst (as.map itD)) (.lst (bs.map itD)) = some (decide (as = bs)) := by
  rw [same_pl (pl_itms as) (pl_itms bs), eqv_lst, eqvAll_itms]
theorem cl_itms (is : List Itm) : cls 0 (is.map itD) = true := cls_of fun d hd => by
  obtain ⟨i, _, rfl⟩ := List.mem_map.mp hd
  unfold itD cl cls cls cls
  unfold cl
  rw [cls_kys]; rfl
theorem strs_iff {as bs : List String} {h : HH} : same? h (.lst (as.map D.str)) (.lst (bs.map D.str)) = some (decide (as = bs)) := by
  have := same_pl (h := h) (a := .lst ((as.map Sum.inr).map kD)) (b := .lst ((bs.map Sum.inr).map kD)) ⟨by simp [isDs_kys, - List.map_map], by simp [deeps_kys, - List.map_map]⟩ ⟨by simp [isDs_kys, - List.map_map], by simp [deeps_kys, - List.map_map]⟩
  rw [eqv_lst, eqvAll_kys, List.map_map, List.map_map] at this
  rw [show (kD ∘ Sum.inr) = D.str from rfl] at this
  rw [this]
  congr 1
  refine decide_eq_decide.mpr ⟨fun h => ?_, fun h => by rw [h]⟩
  exact (List.map_inj_right fun a b e => by cases e; rfl).mp h
/-- lone words -/
def lw1 (w : String) : Prop := w = "turn" ∨ w = "left" ∨ w = "right"
def lwn (w : String) : Prop := w = "put" ∨ w = "more"
def lwb (w : String) : Prop := w = "copy" ∨ w = "sum" ∨ w = "less" ∨ w = "part"
theorem lw_ne {w v : String} : (lw1 w → lwn v → w ≠ v) ∧ (lw1 w → lwb v → w ≠ v) ∧ (lwn w → lwb v → w ≠ v) ∧ (lw1 w → w ≠ "if") ∧ (lwn w → w ≠ "if") ∧ (lwb w → w ≠ "if") := by
  refine ⟨?_, ?_, ?_, ?_, ?_, ?_⟩
  · rintro (rfl | rfl | rfl) (rfl | rfl) <;> decide
  · rintro (rfl | rfl | rfl) (rfl | rfl | rfl | rfl) <;> decide
  · rintro (rfl | rfl) (rfl | rfl | rfl | rfl) <;> decide
  · rintro (rfl | rfl | rfl) <;> decide
  · rintro (rfl | rfl) <;> decide
  · rintro (rfl | rfl | rfl | rfl) <;> decide
/-- what is told flat is told of one deed alone -/
theorem flat_dec_lone {P : Ky → Prop} {w : Nat} {d e : Pd} (od : d.lone P (NP w)) (oe : e.lone P (NP w)) {X Y : List Itm} : flatP d ++ X = flatP e ++ Y ↔ adB d e = true ∧ X = Y := by
  cases d with
  | cond a d => exact od.elim
  | w1 s a =>
    cases e with
    | cond a d => exact oe.elim
    | w1 t b => simp [flatP, adB, wordsP, ptsP, pB, and_assoc]
    | wn t b n =>
      have := (lw_ne (w := s) (v := t)).1 od.1 oe.1
      simp [flatP, adB, wordsP, this]
    | wb t b c =>
      have := (lw_ne (w := s) (v := t)).2.1 od.1 oe.1
      simp [flatP, adB, wordsP, this]
  | wn s a n =>
    cases e with
    | cond a d => exact oe.elim
    | w1 t b =>
      have := (lw_ne (w := t) (v := s)).1 oe.1 od.1
      simp [flatP, adB, wordsP, this.symm]
    | wn t b m =>
      have hw := Pt.wos_iff od.2.2.1 oe.2.2.1
      have hl : (n.wos.map fun x => (("worth", [Sum.inl x]) : Itm)).length = (m.wos.map fun x => (("worth", [Sum.inl x]) : Itm)).length := by simp [Pt.wos]
      simp only [flatP, adB, wordsP, ptsP, pB, List.cons_append, List.cons.injEq, Prod.mk.injEq, and_true]
      constructor
      · rintro ⟨⟨rfl, rfl⟩, h⟩
        obtain ⟨h1, h2⟩ := List.append_inj h hl
        have h3 : n.wos = m.wos := (List.map_inj_right fun a b e => by cases e; rfl).mp h1
        refine ⟨?_, h2⟩
        simp [hw.mp h3]
      · rintro ⟨h1, rfl⟩
        simp at h1
        obtain ⟨rfl, rfl, h3⟩ := h1
        refine ⟨⟨rfl, rfl⟩, ?_⟩
        rw [hw.mpr h3]
    | wb t b c =>
      have := (lw_ne (w := s) (v := t)).2.2.1 od.1 oe.1
      simp [flatP, adB, wordsP, this]
  | wb s a c =>
    cases e with
    | cond a d => exact oe.elim
    | w1 t b =>
      have := (lw_ne (w := t) (v := s)).2.1 oe.1 od.1
      simp [flatP, adB, wordsP, this.symm]
    | wn t b n =>
      have := (lw_ne (w := t) (v := s)).2.2.1 oe.1 od.1
      simp [flatP, adB, wordsP, this.symm]
    | wb t b c2 => simp [flatP, adB, wordsP, ptsP, pB, and_assoc]
theorem flat_dec {P : Ky → Prop} {w : Nat} {d e : Pd} (od : d.ok P (NP w)) (oe : e.ok P (NP w)) {X Y : List Itm} : flatP d ++ X = flatP e ++ Y ↔ adB d e = true ∧ X = Y := by
  have ne : ∀ {d : Pd}, d.lone P (NP w) → ∀ {a : Ky} {e' : Pd} {X Y : List Itm}, ¬ (flatP d ++ X = flatP (.cond a e') ++ Y) ∧ adB d (.cond a e') = false ∧ adB (.cond a e') d = false := fun {d} o a e' X Y => by
    have lw := fun s => lw_ne (w := s) (v := s)
    cases d with
    | cond a d => exact o.elim
    | w1 s b => have := (lw s).2.2.2.1 o.1; simp [flatP, adB, wordsP, this, this.symm]
    | wn s b n => have := (lw s).2.2.2.2.1 o.1; simp [flatP, adB, wordsP, this, this.symm]
    | wb s b c => have := (lw s).2.2.2.2.2 o.1; simp [flatP, adB, wordsP, this, this.symm]
  cases d with
  | cond a d =>
    cases e with
    | cond b e =>
      have h := flat_dec_lone od.2 oe.2 (X := X) (Y := Y)
      have hp : adB (.cond a d) (.cond b e) = (decide (a = b) && adB d e) := by
        rw [Bool.eq_iff_iff]
        simp [adB, wordsP, ptsP, pB]
        constructor <;> (rintro ⟨h1, h2, h3⟩; exact ⟨h2, h1, h3⟩)
      rw [hp]
      simp only [flatP, List.cons_append, List.cons.injEq, Prod.mk.injEq, and_true, true_and, Bool.and_eq_true, decide_eq_true_eq, h]
      simp [and_assoc]
    | w1 s b => have := ne (d := .w1 s b) oe (a := a) (e' := d) (X := Y) (Y := X); rw [this.2.2]; simp; exact fun h => (this.1 h.symm).elim
    | wn s b n => have := ne (d := .wn s b n) oe (a := a) (e' := d) (X := Y) (Y := X); rw [this.2.2]; simp; exact fun h => (this.1 h.symm).elim
    | wb s b c => have := ne (d := .wb s b c) oe (a := a) (e' := d) (X := Y) (Y := X); rw [this.2.2]; simp; exact fun h => (this.1 h.symm).elim
  | w1 s b =>
    cases e with
    | cond a e => have := ne (d := .w1 s b) od (a := a) (e' := e) (X := X) (Y := Y); rw [this.2.1]; simp; exact fun h => (this.1 h).elim
    | w1 t c => exact flat_dec_lone (P := P) (w := w) (d := .w1 s b) (e := .w1 t c) od oe
    | wn t c n => exact flat_dec_lone (P := P) (w := w) (d := .w1 s b) (e := .wn t c n) od oe
    | wb t c n => exact flat_dec_lone (P := P) (w := w) (d := .w1 s b) (e := .wb t c n) od oe
  | wn s b m =>
    cases e with
    | cond a e => have := ne (d := .wn s b m) od (a := a) (e' := e) (X := X) (Y := Y); rw [this.2.1]; simp; exact fun h => (this.1 h).elim
    | w1 t c => exact flat_dec_lone (P := P) (w := w) (d := .wn s b m) (e := .w1 t c) od oe
    | wn t c n => exact flat_dec_lone (P := P) (w := w) (d := .wn s b m) (e := .wn t c n) od oe
    | wb t c n => exact flat_dec_lone (P := P) (w := w) (d := .wn s b m) (e := .wb t c n) od oe
  | wb s b m =>
    cases e with
    | cond a e => have := ne (d := .wb s b m) od (a := a) (e' := e) (X := X) (Y := Y); rw [this.2.1]; simp; exact fun h => (this.1 h).elim
    | w1 t c => exact flat_dec_lone (P := P) (w := w) (d := .wb s b m) (e := .w1 t c) od oe
    | wn t c n => exact flat_dec_lone (P := P) (w := w) (d := .wb s b m) (e := .wn t c n) od oe
    | wb t c n => exact flat_dec_lone (P := P) (w := w) (d := .wb s b m) (e := .wb t c n) od oe
/-- patterns that are alike -/
def alikeB (ds es : List Pd) : Bool := decide (ds.length = es.length) && (ds.zip es).all fun p => adB p.1 p.2
theorem alike_flat {P : Ky → Prop} {w : Nat} : ∀ {ds es : List Pd}, (∀ d ∈ ds, d.ok P (NP w)) → (∀ d ∈ es, d.ok P (NP w)) → ds.length = es.length → (flatsP ds = flatsP es ↔ (ds.zip es).all (fun p => adB p.1 p.2) = true)
  | [], [], _, _, _ => by simp [flatsP]
  | d :: ds, e :: es, o1, o2, hl => by
    have ih := alike_flat (ds := ds) (es := es) (fun x hx => o1 x (by simp [hx])) (fun x hx => o2 x (by simp [hx])) (by simpa using hl)
    have h := flat_dec (o1 d (by simp)) (o2 e (by simp)) (X := flatsP ds) (Y := flatsP es)
    rw [List.zip_cons_cons, List.all_cons, Bool.and_eq_true, ← ih]
    exact h
theorem adB_symm {d e : Pd} : adB d e = adB e d := by
  unfold adB
  congr 1
  · exact decide_eq_decide.mpr ⟨Eq.symm, Eq.symm⟩
  · have key : ∀ (a b : List PtK), (a.zip b).all (fun p => pB p.1 p.2) = (b.zip a).all fun p => pB p.1 p.2 := by
      intro a
      induction a with
      | nil => intro b; cases b <;> rfl
      | cons x a ih =>
        intro b
        cases b with
        | nil => rfl
        | cons y b =>
          rw [List.zip_cons_cons, List.zip_cons_cons, List.all_cons, List.all_cons, ih]
          congr 1
          cases x <;> cases y <;> first | rfl | exact decide_eq_decide.mpr ⟨Eq.symm, Eq.symm⟩
    exact key _ _
theorem alikeB_symm {ds es : List Pd} : alikeB ds es = alikeB es ds := by
  unfold alikeB
  congr 1
  · exact decide_eq_decide.mpr ⟨Eq.symm, Eq.symm⟩
  · induction ds generalizing es with
    | nil => cases es <;> rfl
    | cons x a ih =>
      cases es with
      | nil => rfl
      | cons y b => rw [List.zip_cons_cons, List.zip_cons_cons, List.all_cons, List.all_cons, ih, adB_symm]
end Pu

namespace Pu
open PySem PySem.Spec PyProof.Rows L2

/-! ### dicts told by a function -/
def tb (ks : List Ky) (f : Ky → D) : List (Ky × D) := ks.map fun k => (k, f k)
def up {α : Type} (f : Ky → α) (k : Ky) (d : α) : Ky → α := fun p => if p = k then d else f p
@[simp] theorem tb_len {ks : List Ky} {f : Ky → D} : (tb ks f).length = ks.length := by simp [tb]
theorem tb_get {k : Ky} {f : Ky → D} : ∀ {ks : List Ky}, k ∈ ks → dGet (tb ks f) k = some (f k)
  | [], h => by cases h
  | a :: ks, h => by
    by_cases e : a = k
    · subst e; simp [tb, dGet]
    · have h2 : k ∈ ks := (List.mem_cons.mp h).resolve_left fun z => e z.symm
      have := tb_get (f := f) h2
      simpa [tb, dGet, List.find?_cons, e] using this
theorem up_self {α : Type} {f : Ky → α} {k : Ky} : up f k (f k) = f := by
  funext p
  unfold up
  split
  · rename_i h; rw [h]
  · rfl
theorem tb_put {k : Ky} {d : D} {ks : List Ky} {f : Ky → D} (h : k ∈ ks) : dPut (tb ks f) k d = tb ks (up f k d) := by
  unfold dPut
  rw [if_pos]
  · unfold tb
    rw [List.map_map]
    refine List.map_congr_left fun p _ => ?_
    show (if p = k then (p, d) else (p, f p)) = (p, up f k d p)
    unfold up
    split <;> rfl
  · unfold tb
    rw [List.any_map]
    exact List.any_eq_true.mpr ⟨k, h, by simp⟩
theorem tb_new {k : Ky} {d : D} {ks : List Ky} {f : Ky → D} (h : k ∉ ks) : dPut (tb ks f) k d = tb (ks ++ [k]) (up f k d) := by
  unfold dPut
  rw [if_neg]
  · unfold tb
    rw [List.map_append]
    congr 1
    · refine List.map_congr_left fun p hp => ?_
      have : ¬ p = k := fun z => h (z ▸ hp)
      simp [up, this]
    · simp [up]
  · unfold tb
    rw [List.any_map]
    intro z
    obtain ⟨p, hp, e⟩ := List.any_eq_true.mp z
    have e : p = k := by simpa using e
    exact h (e ▸ hp)
theorem tb_mer {f : Ky → D} {ks : List Ky} (nd : ks.Nodup) : merD (tb ks f) = tb ks f := by
  have key : ∀ (js pre : List Ky), (pre ++ js).Nodup → (tb js f).foldl (fun acc p => dPut acc p.1 p.2) (tb pre f) = tb (pre ++ js) f := by
    intro js
    induction js with
    | nil => intro pre _; simp [tb]
    | cons k js ih =>
      intro pre nd
      have hk : k ∉ pre := fun z => by
        have := List.nodup_append.mp nd
        exact this.2.2 k z k (by simp) rfl
      show (tb js f).foldl (fun acc p => dPut acc p.1 p.2) (dPut (tb pre f) k (f k)) = _
      rw [tb_new hk, up_self, ih (pre ++ [k]) (by simpa using nd)]
      simp
  exact key ks [] (by simpa using nd)
theorem pairsD_tb {f : Ky → D} : ∀ {ks : List Ky}, pairsD (ks.map fun k => D.tup [kD k, f k]) = some (tb ks f)
  | [] => rfl
  | .inl i :: ks => by
    have := pairsD_tb (f := f) (ks := ks)
    rw [List.map_cons, kD, pairsD_i, this]; rfl
  | .inr i :: ks => by
    have := pairsD_tb (f := f) (ks := ks)
    rw [List.map_cons, kD, pairsD_s, this]; rfl
theorem cl_tb {n : Nat} {f : Ky → D} {ks : List Ky} (h : ∀ k ∈ ks, cl n (f k) = true) : clk n (tb ks f) = true := by
  induction ks with
  | nil => unfold tb clk; rfl
  | cons k ks ih =>
    have h1 := h k (by simp)
    have h2 := ih fun x hx => h x (by simp [hx])
    unfold tb at h2 ⊢
    rw [List.map_cons, clk, h1, h2]; rfl
/-- frozen: a fresh dict of pure values is given back -/
theorem fzF_mkd {F : Fn} {ds : List D} {xs : List (Ky × D)} {hh h' g : HH} {i : Nat} (e : F ds hh = .ok (.ref i) (h' ++ g)) (hl : h'.length = hh.length) (hp : h'.all (clO 0) = true) (hi : hh.length ≤ i) (hx : (h' ++ g)[i]? = some (.dic xs)) (hd : clk 0 xs = true) : fzF F ds hh = .ok (.dic xs) h' := by
  unfold fzF
  rw [e]
  dsimp only
  have t : (h' ++ g).take hh.length = h' := by rw [← hl, List.take_left']; rfl
  have z : Pu.fz (h' ++ g) hh.length 9 (.ref i) = .dic xs := by
    unfold Pu.fz
    rw [if_neg (by omega), hx]
    dsimp only
    rw [mapk_id_of (fz_pure 8) xs hd]
  rw [z, t, if_pos ⟨by rw [List.length_append]; omega, all_pure hp, by unfold cl; exact clk_pure xs hd⟩]
def FzD (h : HH) (Q : D → HH → Prop) (d : D) (h' : HH) : Prop := ∃ h1 g i xs, d = .ref i ∧ h' = h1 ++ g ∧ h1.length = h.length ∧ h1.all (clO 0) = true ∧ h.length ≤ i ∧ h'[i]? = some (.dic xs) ∧ clk 0 xs = true ∧ Q (.dic xs) h1
theorem wp_fD {F : Fn} {ds : List D} {h : HH} {Q : D → HH → Prop} (w : Wp (FzD h Q) noE (F ds h)) : Wp Q noE (fzF F ds h) := by
  obtain ⟨d, h', e, h1, g, i, xs, rfl, rfl, hl, hp, hi, hx, hd, q⟩ := wp_ex.mp w
  exact wp_of (fzF_mkd e hl hp hi hx hd) q
/-- the dict that stands last -/
theorem FzD.end {h h1 : HH} {Q : D → HH → Prop} {i : Nat} {xs : List (Ky × D)} (a : h1.length = h.length) (b : h1.all (clO 0) = true) (z : i = h.length) (c : clk 0 xs = true) (q : Q (.dic xs) h1) : FzD h Q (.ref i) (h1 ++ [.dic xs]) :=
  ⟨h1, [.dic xs], i, xs, rfl, rfl, a, b, by omega, get_end (by omega), c, q⟩

/-! ### sums over all that was held -/
def all12 : List Ky := nms4.map Sum.inr ++ all8
def fsum (F G : List Int) (t : Int) : List Int := List.zipWith (fun a b => a + t * b) F G
def dt : List Int → List Int → Int
  | a :: as, b :: bs => a * b + dt as bs
  | _, _ => 0
theorem dt_fsum {t : Int} : ∀ {c F G : List Int}, F.length = G.length → dt c (fsum F G t) = dt c F + t * dt c G
  | [], F, G, _ => by simp [dt]
  | c :: cs, [], [], _ => by simp [dt, fsum]
  | c :: cs, a :: F, b :: G, h => by
    have ih := dt_fsum (t := t) (c := cs) (F := F) (G := G) (by simpa using h)
    show c * (a + t * b) + dt cs (fsum F G t) = c * a + dt cs F + t * (c * b + dt cs G)
    rw [ih, Int.mul_add, Int.mul_add, Int.mul_left_comm c t b]
    omega
theorem fsum_len {t : Int} {F G : List Int} (h : F.length = G.length) : (fsum F G t).length = F.length := by
  unfold fsum; rw [List.length_zipWith]; omega
def ownF (k : Ky) : List Int := (List.range 13).map fun i => if i = 5 + pl8 k then 1 else 0
def numF (n : Pt) : List Int := n.fml ++ List.replicate 8 0
def frm (f : Ky → List Int) : Pd → Ky → List Int
  | .w1 w a => up f a (fsum (f a) (f a) (if w = "turn" then -2 else 1))
  | .wn w a n => up f a (if w = "put" then numF n else fsum (f a) (numF n) 1)
  | .wb w a b => up f a (if w = "copy" then f b else fsum (f a) (f b) (if w = "sum" then 1 else -1))
  | .cond _ _ => f
def vals (g : String → Int) (f : Ky → Int) : Pd → Ky → Int
  | .w1 w a => up f a (f a * (if w = "turn" then -1 else 2))
  | .wn w a n => up f a (n.wo g + f a * (if w = "more" then 1 else 0))
  | .wb w a b => up f a (if w = "copy" then f b else if w = "sum" then f a + f b else f a - f b)
  | .cond _ _ => f
/-- deeds without right, part, if -/
def pln (P : Ky → Prop) (N : Pt → Prop) : Pd → Prop
  | .w1 w a => (w = "turn" ∨ w = "left") ∧ P a
  | .wn w a n => (w = "put" ∨ w = "more") ∧ P a ∧ N n
  | .wb w a b => (w = "copy" ∨ w = "sum" ∨ w = "less") ∧ P a ∧ P b
  | .cond _ _ => False
theorem pln_lone {P : Ky → Prop} {N : Pt → Prop} {d : Pd} (h : pln P N d) : d.lone P N := by
  cases d with
  | w1 w a => exact ⟨h.1.elim .inl fun z => .inr (.inl z), h.2⟩
  | wn w a n => exact h
  | wb w a b => exact ⟨h.1.elim .inl fun z => z.elim (fun z => .inr (.inl z)) fun z => .inr (.inr (.inl z)), h.2⟩
  | cond a d => exact h
theorem pln_ok {P : Ky → Prop} {N : Pt → Prop} {d : Pd} (h : pln P N d) : d.ok P N := Pd.ok_lone (pln_lone h)
theorem pln_mono {P P' : Ky → Prop} {N N' : Pt → Prop} (hp : ∀ k, P k → P' k) (hn : ∀ n, N n → N' n) {d : Pd} (h : pln P N d) : pln P' N' d := by
  cases d with
  | w1 w a => exact ⟨h.1, hp _ h.2⟩
  | wn w a n => exact ⟨h.1, hp _ h.2.1, hn _ h.2.2⟩
  | wb w a b => exact ⟨h.1, hp _ h.2.1, hp _ h.2.2⟩
  | cond a d => exact h
theorem numF_len {n : Pt} : (numF n).length = 13 := by simp [numF, Pt.fml]
theorem ownF_len {k : Ky} : (ownF k).length = 13 := by simp [ownF]
def cc (G : Ky → Int) : List Int := 1 :: all12.map G
theorem dt_zeros : ∀ (n : Nat) (c : List Int), dt c (List.replicate n 0) = 0
  | 0, c => by cases c <;> rfl
  | n + 1, [] => rfl
  | n + 1, c :: cs => by simp [List.replicate_succ, dt, dt_zeros n cs]
theorem dt_num {G : Ky → Int} {n : Pt} (o : n.ok) : dt (cc G) (numF n) = n.wo fun s => G (.inr s) := by
  rw [Pt.wo_lin n o]
  have := dt_zeros 8 (all8.map G)
  simp [cc, all12, nms4, numF, Pt.fml, dt, - List.reduceReplicate, Int.mul_comm]
  rw [this]
  omega
theorem dt_own {G : Ky → Int} {k : Ky} (h : k ∈ all8) : dt (cc G) (ownF k) = G k := by
  rcases all8_cases h with rfl | rfl | rfl | rfl | rfl | rfl | rfl | rfl <;> simp [cc, all12, nms4, all8, ownF, pl8, dt, List.range, List.range.loop]
theorem frm_vals {G : Ky → Int} {f : Ky → Int} {F : Ky → List Int} (hF : ∀ k ∈ all8, (F k).length = 13 ∧ dt (cc G) (F k) = f k) {w : Nat} {d : Pd} (o : pln P8 (NP w) d) :
    ∀ k ∈ all8, (frm F d k).length = 13 ∧ dt (cc G) (frm F d k) = vals (fun s => G (.inr s)) f d k := by
  have key : ∀ {a : Ky} {L : List Int} {v : Int}, L.length = 13 → dt (cc G) L = v → ∀ k ∈ all8, (up F a L k).length = 13 ∧ dt (cc G) (up F a L k) = up f a v k := fun {a L v} h1 h2 k hk => by
    unfold up
    split
    · exact ⟨h1, h2⟩
    · exact hF k hk
  cases d with
  | cond a d => exact o.elim
  | w1 w a =>
    have ha := hF a o.2
    refine key (by rw [fsum_len rfl]; exact ha.1) ?_
    rw [dt_fsum rfl, ha.2]
    split <;> omega
  | wn w2 a n =>
    have ha := hF a o.2.1
    have on : NP w n := o.2.2
    have hn := dt_num (G := G) on.1
    rcases o.1 with rfl | rfl
    · exact key (by simp [numF_len]) (by simp [hn])
    · refine key (by simp [fsum_len (ha.1.trans numF_len.symm), ha.1]) ?_
      simp [dt_fsum (ha.1.trans numF_len.symm), ha.2, hn]
      omega
  | wb w2 a b =>
    have ha := hF a o.2.1
    have hb := hF b o.2.2
    rcases o.1 with rfl | rfl | rfl
    · exact key (by simp [hb.1]) (by simp [hb.2])
    · exact key (by simp [fsum_len (ha.1.trans hb.1.symm), ha.1]) (by simp [dt_fsum (ha.1.trans hb.1.symm), ha.2, hb.2])
    · refine key (by simp [fsum_len (ha.1.trans hb.1.symm), ha.1]) ?_
      simp [dt_fsum (ha.1.trans hb.1.symm), ha.2, hb.2]
      omega
def frms (F : Ky → List Int) (ds : List Pd) : Ky → List Int := ds.foldl frm F
def valss (g : String → Int) (f : Ky → Int) (ds : List Pd) : Ky → Int := ds.foldl (vals g) f
theorem frms_vals {G : Ky → Int} {w : Nat} : ∀ {ds : List Pd} {f : Ky → Int} {F : Ky → List Int}, (∀ k ∈ all8, (F k).length = 13 ∧ dt (cc G) (F k) = f k) → (∀ d ∈ ds, pln P8 (NP w) d) →
    ∀ k ∈ all8, (frms F ds k).length = 13 ∧ dt (cc G) (frms F ds k) = valss (fun s => G (.inr s)) f ds k
  | [], f, F, h, _ => h
  | d :: ds, f, F, h, o => frms_vals (ds := ds) (F := frm F d) (f := vals (fun s => G (.inr s)) f d) (frm_vals h (o d (by simp))) fun x hx => o x (by simp [hx])
abbrev FD (F : List Int) : D := .tup (F.map D.int)
def ind (o : Ky) (p : Ky) : Int := if p = o then 1 else 0
/-- a row of the law is the form -/
theorem row_eq {F : List Int} (h : F.length = 13) : dt (cc fun _ => 0) F :: all12.map (fun o => dt (cc (ind o)) F - dt (cc fun _ => 0) F) = F := by
  rcases F with _ | ⟨x0, _ | ⟨x1, _ | ⟨x2, _ | ⟨x3, _ | ⟨x4, _ | ⟨x5, _ | ⟨x6, _ | ⟨x7, _ | ⟨x8, _ | ⟨x9, _ | ⟨x10, _ | ⟨x11, _ | ⟨x12, _ | ⟨x13, F⟩⟩⟩⟩⟩⟩⟩⟩⟩⟩⟩⟩⟩⟩ <;> simp at h
  simp [cc, all12, nms4, all8, dt, ind]
  omega
end Pu

namespace Pu
open PySem PySem.Spec PyProof.Rows L2

/-! ### comprehensions within comprehensions -/
theorem lookup_relabel {x : Str} {env : Env} : ∀ {ns : List (Str × NameKind)} {k : NameKind}, List.lookup x ns = some k →
    List.lookup x (ns.map fun (n, k) => if (k == NameKind.free && env.scope.kind == ScopeKind.function && env.kindOf n == some NameKind.cell) = true then (n, NameKind.cell) else (n, k)) = some k ∨
    (k = .free ∧ List.lookup x (ns.map fun (n, k) => if (k == NameKind.free && env.scope.kind == ScopeKind.function && env.kindOf n == some NameKind.cell) = true then (n, NameKind.cell) else (n, k)) = some .cell)
  | [], _, h => by cases h
  | (n, j) :: ns, k, h => by
    rw [List.map_cons]
    by_cases e : x == n
    · have : j = k := by rw [List.lookup_cons, e] at h; simpa using h
      subst this
      dsimp only
      split
      · rename_i hc
        refine .inr ⟨?_, ?_⟩
        · rw [Bool.and_eq_true, Bool.and_eq_true] at hc
          cases j <;> first | rfl | exact absurd hc.1.1 (by decide)
        · rw [List.lookup_cons, e]
      · refine .inl ?_
        rw [List.lookup_cons, e]
    · have e : (x == n) = false := by simpa using e
      rw [List.lookup_cons, e] at h
      have ih := lookup_relabel (env := env) h
      dsimp only
      split
      · rw [List.lookup_cons, e]; exact ih
      · rw [List.lookup_cons, e]; exact ih
theorem blkOk_in {N : List Str} {scope1 scope2 : Scope} {env : Env} {own : List (Str × Nat)} (h : BlkOk N scope1 scope2 own) : BlkOk N (relabel scope1 env) scope2 own :=
  ⟨h.kind, h.uniq, h.ix, fun y m f => by
    rcases h.free y m f with z | z
    · rcases lookup_relabel (env := env) z with w | w
      · exact .inl w
      · exact .inl w.2
    · rcases lookup_relabel (env := env) z with w | w
      · exact .inr w
      · exact .inl w.2, h.own⟩
end Pu

namespace Pu
open PySem PySem.Spec PyProof.Rows L2

/-! ### xs.count(s), a list of texts; t.index(s), a tuple of texts -/
def mCount (d : D) (ds : List D) (h : HH) : R D := match itemsL h d, ds with
  | some xs, [.str z] => ofO (strsD xs) fun ss => .ok (.int (ss.count z : Nat)) h
  | _, _ => .stuck
def eTIdx (ss : List String) (f : Exs) : Ex := fun env h => (f env h).bind fun ds h1 => match ds with
  | [.str z] => ofO (ss.findIdx? fun y => decide (y = z)) fun n => .ok (.int (n : Nat)) h1
  | _ => .stuck
/-- xs.pop(i) -/
def mPopA (d : D) (ds : List D) (h : HH) : R D := match refL h d, ds with
  | some (i, xs), [.int j] => if 0 ≤ j ∧ j < xs.length ∧ xs.length ≤ sz then ofO (xs[j.toNat]?) fun y => .ok y (h.set i (.lst (xs.eraseIdx j.toNat))) else .stuck
  | _, _ => .stuck
theorem count_map {ss : List String} {z : String} : (ss.map Str.ofString).count (Str.ofString z) = ss.count z := by
  induction ss with
  | nil => rfl
  | cons a ss ih =>
    rw [List.map_cons, List.count_cons, List.count_cons, ih]
    by_cases e : a = z
    · subst e; simp
    · have : ¬ Str.ofString a = Str.ofString z := fun h => e (ofString_inj h)
      simp [e, this]
section
variable {X : Cx} {W : WX} {k : Nat}
theorem countIn_cnt (z : Str) : ∀ ys : List Str, countIn (PyData.str z) (ys.map PyData.str) = (ys.count z : Nat)
  | [] => rfl
  | y :: ys => by
    have ih := countIn_cnt z ys
    rw [List.map_cons, countIn, ih, List.count_cons]
    have e : same (PyData.str y) (PyData.str z) = (y == z) := by
      unfold same
      simp [PyData.eqv]
    rw [e]
    split <;> simp <;> omega
theorem mt_lcountS : MtR X "list.count" (fun x xs H Q => ∃ (p : Addr) (ys : List Str) (z : Str), x = .ref p ∧ xs = [.str z] ∧ SqL X.K H p (ys.map V.str) ∧ Q (.int (ys.count z : Nat)) H) := by
  intro pins s σ H x xs v us Q I rx rv q
  obtain ⟨p, ys, z, rfl, rfl, sq, q⟩ := q
  obtain ⟨its, r, pl, hz⟩ := I.list sq
  cases rx
  cases rv with
  | cons h r2 =>
  cases r2
  obtain ⟨t, rfl⟩ := h
  refine count_list_strs pl.isList (by simpa using r.strs) ?_
  refine ⟨V.int (countIn (PyData.str z) (ys.map PyData.str)), H, I.kept fun _ _ h => h, ⟨_, rfl⟩, ?_⟩
  rw [countIn_cnt]
  exact q
theorem m_count : MtR X "list.count" (rdM X mCount) := MtR.mono mt_lcountS fun x xs H Q q => by
  obtain ⟨T, h, d, ds, r, rv, rs, q⟩ := q
  obtain ⟨d', h', e, q⟩ := rdO_ok q
  unfold mCount at e
  split at e
  · rename_i ys z e0
    obtain ⟨ss, e2, e⟩ := ofO_ok e
    cases e
    obtain ⟨u, rfl, ru⟩ := rels_one rs
    rw [rel_str_iff] at ru
    subst ru
    obtain ⟨p, vs, rfl, s, rr⟩ := rel_itemsL r rv e0
    rw [rels_txts rr e2] at s
    refine ⟨p, _, _, rfl, rfl, s, ?_⟩
    rw [count_map]
    exact q T H _ Le.refl r (rel_int_iff.mpr rfl)
  · cases e
theorem m_popA : MtR X "list.pop" (rdM X mPopA) := MtR.mono mt_popAt fun x xs H Q q => by
  obtain ⟨T, h, d, ds, r, rv, rs, q⟩ := q
  obtain ⟨d', h', e, q⟩ := rdO_ok q
  unfold mPopA at e
  split at e
  · rename_i i ys j a
    split at e
    · rename_i hc
      obtain ⟨z, e2, e⟩ := ofO_ok e
      cases e
      obtain ⟨p, vs, rfl, hp, s, rr⟩ := rel_refL r rv a
      obtain ⟨w, rfl, rw'⟩ := rels_one rs
      rw [rel_int_iff] at rw'
      subst rw'
      obtain ⟨u, e3, ru⟩ := rels_get rr e2
      have hl := rels_length rr
      have rd' : rels X.K T H (ys.eraseIdx j.toNat) (vs.eraseIdx j.toNat) := by
        rw [List.eraseIdx_eq_take_drop_succ, List.eraseIdx_eq_take_drop_succ]
        exact rels_append (rels_take _ rr) (rels_drop _ rr)
      obtain ⟨w1, w2⟩ := wr_lst r hp s rd'
      have hz : ys.length ≤ 16777216 := hc.2.2
      refine ⟨p, vs, j, j.toNat, u, rfl, rfl, s, by omega, by omega, ?_, e3, q T _ _ w1 w2 (rel_mono w1 r.mut _ _ ru)⟩
      unfold seqIndex?
      have : ((decide (0 ≤ j) && decide (j < (vs.length : Int))) : Bool) = true := by
        rw [Bool.and_eq_true, decide_eq_true_eq, decide_eq_true_eq]
        omega
      simp only [if_neg (show ¬ j < 0 by omega), this, if_true]
    · cases e
  · cases e
theorem se_tidx {x : Str} {ss : List String} {e : Expr} {f : Exs} {p apos cpos : Pos} (c : Cn X.mg X.K x (.tup (ss.map D.str))) (hg : Gl X x) (ha : SA X W [e] f)
    (hdb : (x == ("__debug__" : Str)) = false := by decide)
    (hbase : attributeBase (.Name x p) "index" X.env (eval (.Name x p) X.env) = eval (.Name x p) X.env := by rfl)
    (hfew : ((backTo cpos (starEach [e] X.env)).all (fun x => !x.1) && (backToKw cpos (keywordEach [] X.env)).all (fun x => x.1.isSome)
      && decide (([e] : List Expr).length + ([] : List Keyword).length + (if ([] : List Keyword).isEmpty then 0 else 1) < 30)) = true := by rfl)
    (hline : (apos.endLine == cpos.line) = true := by rfl) (hs : starEach [e] X.env = (false, eval e X.env) :: starEach [] X.env := by rfl) (hplain : (backTo cpos (starEach [] X.env)).any (·.1) = false := by rfl) :
    SE X W (.Call (.Attribute (.Name x p) "index" apos) [e] [] cpos) (eTIdx ss f) := by
  obtain ⟨v, u, hm, r, hd, ht⟩ := c.ex
  obtain ⟨q, o, rfl, l, hc, hn⟩ := ht _ rfl
  refine PE.mono (pe_bm PySem.F.plainAttrs_tuple PySem.F.slot_tuple_index PySem.F.type_tuple_index mt_tup_index (pe_glob hg hm r hdb) ha.pa hbase hfew hline hs hplain) fun σ H Q hh => ?_
  obtain ⟨T, env, h, r1, r2, a⟩ := hh
  refine ⟨.inr (.inl ⟨rfl, o, l, hc, hn⟩), T, env, h, r1, r2, a.bind r1.mut fun ds h2 T2 H2 us _ l2 q2 rus a2 => ?_⟩
  revert a2
  split
  · rename_i z _
    intro a2
    obtain ⟨n, e3, a2⟩ := a2.ofO
    obtain ⟨w, rfl, ru⟩ := rels_one rus
    rw [rel_str_iff] at ru
    subst ru
    have hr := hd T2 H2
    unfold rel at hr
    obtain ⟨p2, vs, e4, sq, rr⟩ := hr
    cases e4
    rw [rels_txts rr (strsD_map _)] at sq
    obtain ⟨hn2, h5, h6⟩ := List.findIdx?_eq_some_iff_getElem.mp e3
    have h5 : ss[n] = z := of_decide_eq_true h5
    refine ⟨q, ss.map Str.ofString, Str.ofString z, n, rfl, rfl, sq.sq, ?_, fun m hm e => ?_, ?_⟩
    · rw [List.getElem?_map, List.getElem?_eq_getElem hn2, h5]; rfl
    · have hm2 : m < ss.length := by omega
      have h7 := h6 m hm
      rw [List.getElem?_map, List.getElem?_eq_getElem hm2] at e
      exact h7 (decide_eq_true (ofString_inj (Option.some.inj e)))
    · exact a2 T2 H2 _ Le.refl q2 (rel_int_iff.mpr rfl)
  · exact fun a2 => a2.elim
end
section
variable {f : Exs} {env : En} {h : HH} {q : D → HH → Prop} {e : String → HH → Prop}
@[simp ↓] theorem wp_eTIdx {ss : List String} : Wp q e (eTIdx ss f env h) ↔ Wp (fun ds h1 => match ds with | [.str z] => Wo (fun n => q (.int (n : Nat)) h1) (ss.findIdx? fun y => decide (y = z)) | _ => False) e (f env h) := by
  unfold eTIdx
  rw [wp_bind]
  refine wp_congr fun ds h1 => ?_
  split
  · exact wp_ofO
  · exact Iff.rfl
@[simp] theorem wp_mPopA {j : Nat} {i : Int} : Wp q e (mPopA (.ref j) [.int i] h) ↔ Wo (lsO fun xs => (0 ≤ i ∧ i < xs.length ∧ xs.length ≤ sz) ∧ Wo (fun z => q z (h.set j (.lst (xs.eraseIdx i.toNat)))) xs[i.toNat]?) h[j]? := by
  unfold mPopA
  rw [refL_eq]
  cases h[j]? with
  | none => exact Iff.rfl
  | some o =>
    cases o with
    | lst xs =>
      show Wp q e (if 0 ≤ i ∧ i < xs.length ∧ xs.length ≤ sz then ofO (xs[i.toNat]?) fun y => .ok y (h.set j (.lst (xs.eraseIdx i.toNat))) else .stuck) ↔ _
      by_cases hc : 0 ≤ i ∧ i < xs.length ∧ xs.length ≤ sz
      · rw [if_pos hc]
        exact Iff.trans wp_ofO ⟨fun w => ⟨hc, w⟩, fun w => w.2⟩
      · rw [if_neg hc]
        exact ⟨fun w => w.elim, fun w => hc w.1⟩
    | dic kvs => exact Iff.rfl
    | lkd kvs => exact Iff.rfl
@[simp] theorem wp_mCount {xs : List D} {z : String} : Wp q e (mCount (.lst xs) [.str z] h) ↔ Wo (fun ss => q (.int (ss.count z : Nat)) h) (strsD xs) := by
  unfold mCount
  exact wp_ofO
end
end Pu

namespace Pu
open PySem PySem.Spec PyProof.Rows L2

/-! ### zip of a tuple and a list; xs * n -/
def ItzM (K : PySem.W.Frag) (a b : Addr) (n m : Nat) : It :=
  ⟨fun i H => ∃ (xs ys : List V) (c y : V), SqT K H a xs ∧ xs.length = n ∧ SqL K H b ys ∧ ys.length = m ∧ xs[i]? = some c ∧ ys[i]? = some y,
    fun i H v H' => ∃ T c y, v = .ref T ∧ H T = none ∧ H' = upd H T (.tup [c, y]) ∧ (∀ xs, SqT K H a xs → xs[i]? = some c) ∧ ∀ ys, SqL K H b ys → ys[i]? = some y,
    fun i H => ∃ xs ys : List V, SqT K H a xs ∧ xs.length = n ∧ SqL K H b ys ∧ ys.length = m ∧ (n ≤ i ∨ m ≤ i)⟩
theorem turn_zipM {P : Program} {w : World} {K : PySem.W.Frag} {elts : List Expr} {kk : Nat} {tpos : Pos} {a b z TI TO i1 i2 : Addr} {n m : Nat} (D : ZipSep2 z TI TO i1 i2 [i1, a] [i2, b]) (hb1 : a ≠ i1) (hb2 : b ≠ i2) :
    Turn P w K (.Tuple elts kk tpos) (ItzM K a b n m) [z, TI, TO, i1, i2] z (fun i h => IsZip h z TI TO .none ∧ IsTupOf2 h TI (.ref i1) (.ref i2) ∧ (∃ x y, IsTupOf2 h TO x y) ∧ h.IsTupleIter i1 a i ∧ h.IsListIter i2 b i ∧ i ≤ n ∧ i ≤ m) where
  mem := by simp
  obj := fun i h st c hc => by
    obtain ⟨hz, hTI, ⟨x, y, hTO⟩, ⟨o1, e1, _, d1⟩, ⟨o2, e2, _, d2⟩, _⟩ := st
    have e' : c = z ∨ c = TI ∨ c = TO ∨ c = i1 ∨ c = i2 := by simpa using hc
    rcases e' with q | q | q | q | q
    · rw [q]; exact ⟨_, hz, fun v q => nomatch q⟩
    · rw [q]; exact ⟨_, hTI, fun v q => nomatch q⟩
    · rw [q]; exact ⟨_, hTO, fun v q => nomatch q⟩
    · rw [q]; exact ⟨o1, e1, fun v q => by rw [d1] at q; cases q⟩
    · rw [q]; exact ⟨o2, e2, fun v q => by rw [d2] at q; cases q⟩
  keep := fun i h h' st k => by
    obtain ⟨hz, hTI, ⟨x, y, hTO⟩, h1, h2, hl⟩ := st
    exact ⟨k z (by simp) _ hz, k TI (by simp) _ hTI, ⟨x, y, k TO (by simp) _ hTO⟩, h1.at fun o q => k i1 (by simp) o q, h2.at fun o q => k i2 (by simp) o q, hl⟩
  item := by
    intro X hP hw hK hc i pins s σ H E I hf st hg
    subst hP hw hK
    obtain ⟨hz, hTI, ⟨x0, y0, hTO⟩, h1, h2, hl1, hl2⟩ := st
    obtain ⟨xs, ys, c, y, hqx, hn, hqy, hm, hx, hy⟩ := hg
    obtain ⟨its1, rv1, p1, _⟩ := I.tuple hqx
    obtain ⟨its2, rv2, p2, _⟩ := I.list hqy
    have p2 := p2.isList
    obtain ⟨u1, hu1, ru1⟩ := rv1.get hx
    obtain ⟨u2, hu2, ru2⟩ := rv2.get hy
    have hzl : z < s.heap.objs.size := Heap.lt_size hz
    have hh : X.A.in1.handled = none := I.ok.hd hc
    have D1 := Draws.tuple (prog := X.prog) (w := X.w) hh i1 a hb1 its1.toArray
    have D2 := Draws.list (prog := X.prog) (w := X.w) hh i2 b hb2 its2.toArray
    have hi1 : i < its1.toArray.size := by
      have := (List.getElem?_eq_some_iff.mp hu1).1
      simpa using this
    have hi2 : i < its2.toArray.size := by
      have := (List.getElem?_eq_some_iff.mp hu2).1
      simpa using this
    refine wpAny_pyNext_zipD2_item D D1 D2 hz hTI hTO ⟨h1, p1⟩ ⟨h2, p2⟩ hi1 hi2 fun x1 x2 h' tk P1 P2 z' TO' st1 st2 hT hsz hk => ?_
    have e1 : x1 = u1 := by
      have h3 : its1[i]? = some x1 := by simpa using P1
      rw [hu1] at h3; exact (Option.some.inj h3).symm
    subst e1
    have e2 : x2 = u2 := by
      have h3 : its2[i]? = some x2 := by simpa using P2
      rw [hu2] at h3; exact (Option.some.inj h3).symm
    subst e2
    refine ⟨_, rfl, wpAny_letOwnedTupleGo_zip (s := { s with heap := h', toks := tk }) z' fun h'' z'' sb => ?_⟩
    have hT2 : h''.get? s.heap.objs.size = some { cls := .type "tuple", data := .seq #[x1, x2] } := (sb.2 _ (Nat.ne_of_gt hzl)).trans hT
    have new : ObjOk X.prog X.w (upd H s.heap.objs.size (.tup [c, y])) h'' s.heap.objs.size (.tup [c, y]) :=
      ⟨by show 2 ≤ sizeLine; decide, [x1, x2], .cons ru1 (.cons ru2 .nil), ⟨_, hT2, rfl, _, rfl⟩⟩
    have I1 : Inv X pins σ (upd H s.heap.objs.size (.tup [c, y])) { s with heap := h'', toks := tk } :=
      I.turnedNew (t' := tk) (ch := [z, TI, TO, i1, i2]) (fun c o hb q => (sb.2 c (fun q' => hb (by simp [q']))).trans (hk c o (fun q' => hb (by simp [q'])) (fun q' => hb (by simp [q'])) (fun q' => hb (by simp [q'])) (fun q' => hb (by simp [q'])) q)) hf (Nat.le_refl _) new
    have i1z : i1 ≠ z := fun e => D.zf1 (by rw [← e]; simp)
    have i2z : i2 ≠ z := fun e => D.zf2 (by rw [← e]; simp)
    refine ⟨.ref s.heap.objs.size, _, I1, rfl, ⟨_, c, y, rfl, I.hok.fresh (Nat.le_refl _), rfl, fun l hl => by rw [I.tuple_inj hl hqx]; exact hx, fun l hl => by rw [I.list_inj hl hqy]; exact hy⟩, ⟨z'', ?_, ⟨x1, x2, ?_⟩, ?_, ?_, ?_, ?_⟩, fun c hcm => ?_⟩
    · exact (sb.2 _ D.TIz).trans (hk _ _ D.TIz D.TITO D.TIi1 D.TIi2 hTI)
    · exact (sb.2 _ D.TOz).trans TO'
    · exact st1.1.at fun o q => (sb.2 _ i1z).trans q
    · exact st2.1.at fun o q => (sb.2 _ i2z).trans q
    · have := rv1.length
      simp at hi1
      omega
    · have := rv2.length
      simp at hi2
      omega
    · have hlt : c < s.heap.objs.size := by
        have e' : c = z ∨ c = TI ∨ c = TO ∨ c = i1 ∨ c = i2 := by simpa using hcm
        rcases e' with q | q | q | q | q
        · rw [q]; exact hzl
        · rw [q]; exact Heap.lt_size hTI
        · rw [q]; exact Heap.lt_size hTO
        · rw [q]; obtain ⟨_, e1, _⟩ := h1; exact Heap.lt_size e1
        · rw [q]; obtain ⟨_, e2, _⟩ := h2; exact Heap.lt_size e2
      rw [upd_ne (Nat.ne_of_lt hlt)]
      exact (hf c hcm).1
  done := by
    intro X hP hw hK hc i pins s σ H E I hf st hg
    subst hP hw hK
    obtain ⟨hz, hTI, ⟨x0, y0, hTO⟩, h1, h2, hl1, hl2⟩ := st
    obtain ⟨xs, ys, hqx, hn, hqy, hm, hend⟩ := hg
    obtain ⟨its1, rv1, p1, _⟩ := I.tuple hqx
    obtain ⟨its2, rv2, p2, _⟩ := I.list hqy
    have p2 := p2.isList
    have l1 := rv1.length
    have l2 := rv2.length
    have hh : X.A.in1.handled = none := I.ok.hd hc
    have D1 := Draws.tuple (prog := X.prog) (w := X.w) hh i1 a hb1 its1.toArray
    have D2 := Draws.list (prog := X.prog) (w := X.w) hh i2 b hb2 its2.toArray
    exact wpAny_pyNext_zipD2_end D D1 D2 hz hTI hTO ⟨h1, p1⟩ ⟨h2, p2⟩ (by simp; omega) (by simp; omega) (by simp; omega) fun h' tk hk => ⟨rfl, I.turnedL (t' := tk) (ch := [z, TI, TO, i1, i2]) (fun c o hb q =>
      hk c o (fun q' => hb (by simp [q'])) (fun q' => hb (by simp [q'])) (fun q' => hb (by simp [q'])) (fun q' => hb (by simp [q'])) q) hf⟩
  self := fun A i s Q E st h => wpAny_pyIter_zip st.1 h
def iZipM (K : PySem.W.Frag) (ta : TA) : TI := fun σ H R => ta σ H fun vs H1 => ∃ a b xs ys, vs = [.ref a, .ref b] ∧ SqT K H1 a xs ∧ SqL K H1 b ys ∧ R (ItzM K a b xs.length ys.length) H1
theorem pi_zipM {X : Cx} {e e2 : Expr} {ta : TA} {p pos tpos : Pos} {elts : List Expr} {kk : Nat} (hg : Gl X "zip") (hm : X.mg "zip" = none) (ha : PA X [e, e2] ta)
    (hs : starEach [e, e2] X.env = (false, eval e X.env) :: starEach [e2] X.env := by rfl) (hpl : (backTo pos (starEach [e2] X.env)).any (·.1) = false := by rfl) :
    PI X (.Tuple elts kk tpos) (.Call (.Name "zip" p) [e, e2] [] pos) (iZipM X.K ta) := by
  refine ⟨fun pins s σ H R I h => ?_⟩
  refine Call_ (ld_blt I hg hm PyProof.Rows.boot_zip (PyProof.Rows.callWith_type1 (thn (ha.run pos pins s σ H _ I h) fun us s1 ⟨vs, H1, I1, r1, q1⟩ => ?_) hs hpl))
  obtain ⟨a, b, xs, ys, ex, hqx, hqy, q⟩ := q1
  subst ex
  cases r1 with
  | cons r rr =>
    cases rr with
    | cons r' rr =>
      cases rr
      cases r
      cases r'
      have fresh5 : ∀ c, c ∈ [s1.heap.objs.size + 4, s1.heap.objs.size + 2, s1.heap.objs.size + 3, s1.heap.objs.size, s1.heap.objs.size + 1] → FpOk X pins H1 c := fun c hcm => by
        have e' : c = s1.heap.objs.size + 4 ∨ c = s1.heap.objs.size + 2 ∨ c = s1.heap.objs.size + 3 ∨ c = s1.heap.objs.size ∨ c = s1.heap.objs.size + 1 := by simpa using hcm
        have hle : s1.heap.objs.size ≤ c := by
          rcases e' with z | z | z | z | z
          · rw [z]; exact Nat.le_add_right _ _
          · rw [z]; exact Nat.le_add_right _ _
          · rw [z]; exact Nat.le_add_right _ _
          · rw [z]; exact Nat.le_refl _
          · rw [z]; exact Nat.le_add_right _ _
        exact I1.fpOk hle (I1.hok.fresh hle)
      obtain ⟨its1, rv1, p1, _⟩ := I1.tuple hqx
      obtain ⟨its2, rv2, p2, _⟩ := I1.list hqy
      have p2 := p2.isList
      have hal : a < s1.heap.objs.size := by obtain ⟨_, q, _⟩ := id p1; exact Heap.lt_size q
      have hbl : b < s1.heap.objs.size := by obtain ⟨_, q, _⟩ := id p2; exact Heap.lt_size q
      refine zip_begins2 (begins_tuple a its1.toArray) (begins_list b its2.toArray) p1 p2 fun h' hz hTI hTO h1 h2 hsz hk => wpAny_pyIter_zip hz ?_
      have I2 : Inv X pins σ H1 { s1 with heap := h' } := I1.kept (t' := s1.toks) hk
      exact ⟨s1.heap.objs.size + 4, [s1.heap.objs.size + 4, s1.heap.objs.size + 2, s1.heap.objs.size + 3, s1.heap.objs.size, s1.heap.objs.size + 1], _, _, H1, rfl, I2,
        turn_zipM (zip_sep2 (fp1 := [a]) (fp2 := [b]) (fun c h => by rw [List.mem_singleton.mp h]; exact hal) (fun c h => by rw [List.mem_singleton.mp h]; exact hbl)) (Nat.ne_of_lt hal) (Nat.ne_of_lt (Nat.lt_succ_of_lt hbl)),
        ⟨hz, hTI, ⟨_, _, hTO⟩, ⟨_, h1, rfl, rfl⟩, ⟨_, h2, rfl, rfl⟩, Nat.zero_le _, Nat.zero_le _⟩, fresh5, q⟩
def iZipY (f : Exs) : Ei := fun env h => match f env h with
  | .ok [.tup xs, .lst ys] h1 => .ok ⟨zipD xs ys, []⟩ h1
  | _ => iZipX f env h
def zpY (h : HH) (ds : List D) : Option IT := match ds with
  | [.tup xs, .lst ys] => some ⟨zipD xs ys, []⟩
  | ds => zpX h ds
def opMulY (a b : D) (h : HH) : R D := match a, b with
  | .lst xs, .int k => if 0 ≤ k ∧ k ≤ 1000 ∧ xs.length ≤ 1000 then .ok (.lst (List.replicate k.toNat xs).flatten) h else .stuck
  | a, b => opMulX a b h
section
variable {X : Cx} {W : WX}
theorem wk_zipM {K : PySem.W.Frag} {a b : Addr} {n m : Nat} : Walk (ItzM K a b n m) (min n m) (fun H => (∃ vs, vs.length = n ∧ SqT K H a vs) ∧ ∃ vs, vs.length = m ∧ SqL K H b vs)
    (fun i H v H' => ∃ T x y, v = .ref T ∧ H T = none ∧ H' = upd H T (.tup [x, y]) ∧ (∀ xs, SqT K H a xs → xs[i]? = some x) ∧ ∀ ys, SqL K H b ys → ys[i]? = some y) :=
  ⟨fun i _ hi ⟨⟨vs, e, q⟩, ws, e', q'⟩ => ⟨vs, ws, vs[i]'(by omega), ws[i]'(by omega), q, e, q', e', List.getElem?_eq_getElem _, List.getElem?_eq_getElem _⟩,
    fun _ ⟨⟨vs, e, q⟩, ws, e', q'⟩ => ⟨vs, ws, q, e, q', e', by omega⟩, fun _ _ _ _ _ _ y => y⟩
theorem si_zipY {e1 e2 : Expr} {f : Exs} {p pos tpos : Pos} {elts : List Expr} {kk : Nat} (hg : Gl X "zip") (hm : X.mg "zip" = none) (ha : SA X W [e1, e2] f)
    (hs : starEach [e1, e2] X.env = (false, eval e1 X.env) :: starEach [e2] X.env := by rfl) (hpl : (backTo pos (starEach [e2] X.env)).any (·.1) = false := by rfl) :
    SI X W (.Tuple elts kk tpos) (.Call (.Name "zip" p) [e1, e2] [] pos) (iZipY f) := PI.or2 (pi_zipM hg hm ha.pa hs hpl) (si_zipX hg hm ha hs hpl) fun σ H QR hh => by
  obtain ⟨T, env, h, r1, r2, a⟩ := hh
  by_cases key : ∃ xs ys h1, f env h = .ok [.tup xs, .lst ys] h1
  · obtain ⟨xs, ys, h1, e⟩ := key
    left
    refine ⟨T, env, h, r1, r2, ?_⟩
    have e2 : iZipY f env h = (f env h).bind fun ds h1 => .ok ⟨zipD xs ys, []⟩ h1 := by unfold iZipY; rw [e]; rfl
    rw [e2] at a
    refine a.bind r1.mut fun ds h2 T1 H1 vs e' l1 q1 rvs a1 => ?_
    rw [e] at e'
    cases e'
    obtain ⟨v, u, rfl, rv, ru⟩ := rels_two rvs
    obtain ⟨p1, rfl, s1⟩ := tup_stay q1 rv
    obtain ⟨p2, rfl, s2⟩ := itemsL_stay q1 ru (xs := ys) rfl
    obtain ⟨vs1, t1, w1⟩ := s1 T1 H1 Le.refl
    obtain ⟨vs2, t2, w2⟩ := s2 T1 H1 _ Le.refl q1 rfl
    have hl1 : vs1.length = xs.length := rels_length w1
    have hl2 : vs2.length = ys.length := rels_length w2
    refine ⟨p1, p2, vs1, vs2, rfl, t1, t2, After.done a1 q1 ?_⟩
    refine ⟨_, _, by rw [zipD_len, ← hl1, ← hl2]; exact wk_zipM, fun T3 H3 h3 l3 r3 hc => ?_, fun i H3 x H' hi y T3 h3 l3 r3 hc => ?_⟩
    · obtain ⟨ws1, t1, r1⟩ := s1 T3 H3 l3
      obtain ⟨ws2, t2, r2⟩ := s2 T3 H3 h3 l3 r3 rfl
      exact ⟨⟨ws1, by rw [rels_length r1, hl1], t1⟩, ws2, by rw [rels_length r2, hl2], t2⟩
    · obtain ⟨ws1, t1, w1⟩ := s1 T3 H3 l3
      obtain ⟨ws2, t2, w2⟩ := s2 T3 H3 h3 l3 r3 rfl
      obtain ⟨T', x', y', rfl, hp, rfl, y1, y2⟩ := y
      obtain ⟨d1, g1, k1⟩ := rels_back w1 (y1 _ t1)
      obtain ⟨d2, g2, k2⟩ := rels_back w2 (y2 _ t2)
      obtain ⟨z1, z2, z3⟩ := Le.tup r3 hp (rels_cons k1 (rels_cons k2 rels_nil)) rfl
      exact ⟨_, zipD_get g1 g2, z1, z2, z3⟩
  · right
    have e2 : iZipY f env h = iZipX f env h := by
      unfold iZipY
      split
      · rename_i e; exact absurd ⟨_, _, _, e⟩ key
      · rfl
    exact ⟨T, env, h, r1, r2, by rw [← e2]; exact a⟩
theorem o_mulY : OpR X (binaryOp .Mult) (rdO X opMulY) := OpR.mono (op_rep.or o_mulX) fun x y H Q q => by
  obtain ⟨T, h, a, b, r, ra, rb, q⟩ := q
  by_cases hc : ∃ xs k, a = .lst xs ∧ b = .int k
  · obtain ⟨xs, k, rfl, rfl⟩ := hc
    obtain ⟨d, h', e, q⟩ := rdO_ok q
    unfold opMulY at e
    dsimp only at e
    split at e
    · rename_i hz
      cases e
      unfold rel at ra
      obtain ⟨p, vs, rfl, s, n, rv⟩ := ra
      have hl := rels_length rv
      have hm : vs.length * k.toNat ≤ 1000 * 1000 := Nat.mul_le_mul (by omega) (by omega)
      refine .inl ⟨p, k, vs, rfl, rel_int_iff.mp rb, s, by omega, by omega, by rw [sizeLine_eq]; omega, fun p2 hp => ?_⟩
      exact q T (upd H p2 (.lst (List.replicate k.toNat vs).flatten)) _ (Le.new hp) (r.new hp) (rel_lst upd_same (r.mut.free hp) (rels_mono (Le.new hp) r.mut _ _ (rels_rep rv _)))
    · cases e
  · have e2 : opMulY a b h = opMulX a b h := by
      unfold opMulY
      split
      · rename_i xs k; exact absurd ⟨_, _, rfl, rfl⟩ hc
      · rfl
    rw [e2] at q
    exact .inr ⟨T, h, _, _, r, ra, rb, q⟩
end
section
variable {f : Exs} {env : En} {h : HH} {q : D → HH → Prop} {e : String → HH → Prop}
@[simp ↓] theorem wp_iZipY {qi : IT → HH → Prop} : Wp qi e (iZipY f env h) ↔ Wp (fun ds h1 => Wo (fun x => qi x h1) (zpY h1 ds)) e (f env h) := by
  unfold iZipY
  split
  · rename_i xs ys h1 e1
    rw [e1]; rfl
  · rename_i hc
    rw [wp_iZipX]
    cases e1 : f env h with
    | ok ds h1 =>
      have : zpY h1 ds = zpX h1 ds := by
        unfold zpY
        split
        · exact absurd e1 (hc _ _ _)
        · rfl
      show Wo _ (zpX h1 ds) ↔ Wo _ (zpY h1 ds)
      rw [this]
    | exc c h1 => exact Iff.rfl
    | stuck => exact Iff.rfl
@[simp] theorem zpY_tl {xs ys : List D} : zpY h [.tup xs, .lst ys] = some ⟨zipD xs ys, []⟩ := rfl
@[simp] theorem zpY_tt {xs ys : List D} : zpY h [.tup xs, .tup ys] = some ⟨zipD xs ys, []⟩ := rfl
@[simp] theorem zpY_ll {xs ys : List D} : zpY h [.lst xs, .lst ys] = some ⟨zipD xs ys, []⟩ := rfl
@[simp] theorem zpY_st {s : String} {ys : List D} : zpY h [.str s, .tup ys] = some ⟨zipD (chsD s) ys, []⟩ := rfl
@[simp] theorem wp_mulYI {i j : Int} : Wp q e (opMulY (.int i) (.int j) h) ↔ Wp q e (opMul (.int i) (.int j) h) := Iff.rfl
@[simp] theorem wp_mulYT {xs : List D} {j : Int} : Wp q e (opMulY (.tup xs) (.int j) h) ↔ Wp q e (opMulX (.tup xs) (.int j) h) := Iff.rfl
@[simp] theorem wp_mulYL {xs : List D} {k : Int} : Wp q e (opMulY (.lst xs) (.int k) h) ↔ (0 ≤ k ∧ k ≤ 1000 ∧ xs.length ≤ 1000) ∧ q (.lst (List.replicate k.toNat xs).flatten) h := by
  show Wp q e (if 0 ≤ k ∧ k ≤ 1000 ∧ xs.length ≤ 1000 then .ok (.lst (List.replicate k.toNat xs).flatten) h else .stuck) ↔ _
  split
  · rename_i hz; exact ⟨fun w => ⟨hz, w⟩, fun w => w.2⟩
  · rename_i hz; exact ⟨fun w => w.elim, fun w => hz w.1⟩
end
end Pu

namespace Pu
open PySem PySem.Spec PyProof.Rows L2

/-! ### a caught exception, tracked from its catching on -/
theorem ext_ok {P : Program} {w : World} {H : Hp} {h : Heap} {a : Addr} {C : Value} {oe : Obj} {vs : Array Value} (e : h.get? a = some oe) (z : Zc C none oe) (d : oe.data = .fields vs) : ObjOk P w H h a (ExT C a) :=
  ⟨⟨oe, vs, e, z, d⟩, ⟨oe, e⟩, fun _ _ ⟨o, v, q, r⟩ k => ⟨o, v, k o q, r⟩⟩
section
variable {X : Cx} {pins : List (Addr × Obj)} {σ σ2 : L2.St} {H : Hp} {s sI : Shared} {a : Addr}
theorem inv_track {o : HO} (I : Inv X pins σ H s) (J : Inv X pins σ2 H sI) (hn : sI.heap.get? a = none) (na : H a = none) (new : ObjOk X.prog X.w (upd H a o) s.heap a o) (hx : ∀ b, b ∉ X.ex) : Inv X pins σ (upd H a o) s := by
  have ne : ∀ b u, sI.heap.get? b = some u → b ≠ a := fun b u e z => by rw [z, hn] at e; cases e
  have neK : ∀ b u, H b = some u → b ≠ a := fun b u e z => by rw [z, na] at e; cases e
  refine ⟨I.ok, I.os, I.bare, ⟨I.base.keep, I.base.slot, fun b u e n hb => ?_, I.base.there, fun b xs e => ?_, fun b u xs e => ?_, fun b ps e => ?_⟩, I.loc, I.cell, ?_, fun y c e => ?_, fun p hp => ?_, fun b u e => ?_, I.len⟩
  · obtain ⟨u', q⟩ := J.base.there b u e hb
    rw [upd_ne (ne b _ q)]
    exact I.base.free b u e n hb
  · have q := I.base.tups b xs e
    rw [upd_ne (neK b _ q)]; exact q
  · have q := I.base.frzs b u xs e
    rw [upd_ne (neK b _ q)]; exact q
  · obtain ⟨m, q⟩ := I.base.tbls b ps e
    exact ⟨m, by rw [upd_ne (neK b _ q)]; exact q⟩
  · obtain ⟨m, ⟨o', es, ep, ho, _⟩, _⟩ := id J.loc
    rw [upd_ne (ne _ _ ho)]
    exact I.free
  · obtain ⟨v, o', ho, _⟩ := J.cell y c e
    rw [upd_ne (ne _ _ ho)]
    exact I.freeC y c e
  · obtain ⟨e1, n1, n2, n3, n4⟩ := I.pin p hp
    obtain ⟨e2, _⟩ := J.pin p hp
    exact ⟨e1, by rw [upd_ne (ne _ _ e2)]; exact n1, n2, n3, n4⟩
  · by_cases hb : b = a
    · subst hb
      rw [upd_same] at e
      cases e
      exact new
    · rw [upd_ne hb] at e
      exact (I.hok b u e).stay (fun c v _ q => q) (fun c q => by rw [upd_ne (neK c _ q)]; exact q) fun c xs q => by rw [upd_ne (neK c _ q)]; exact q
theorem inv_suite (I : Inv X pins σ H s) (a : Addr) : Inv (X.suite a (X.pn ++ pins)) [] σ H s :=
  ⟨I.ok.suite _ _, I.os, I.bare, I.base, I.loc, I.cell, I.free, I.freeC, fun p hp => I.pin p (by rw [List.append_nil] at hp; exact hp), I.hok, I.len⟩
theorem inv_unsuite {pn' : List (Addr × Obj)} (I : Inv (X.suite a (X.pn ++ pins)) pn' σ H s) (ok : X.Ok) : Inv X pins σ H s :=
  ⟨ok, I.os, I.bare, I.base, I.loc, I.cell, I.free, I.freeC, fun p hp => I.pin p (List.mem_append_left _ hp), I.hok, I.len⟩
end
/-- slot i held the exception as the clause's own name, slot j is the name that keeps it -/
def heldAt (i j : Nat) (σ : L2.St) (a : Addr) : L2.St := ((σ.set i (some (.ref a))).set j (some (.ref a))).set i none
/-- what a try with one clause that but keeps what it caught wishes of an exception of its body -/
def wHold (K : PySem.W.Frag) (c : Value) (i j : Nat) (Wout : WX) (D : Ends) : WX := fun cls d σ H =>
  ∃ b, PySem.W.exmOne K cls c = some b ∧ (b = true → d = none ∧ ∀ a, H a = none → D.nx (heldAt i j σ a) (upd H a (ExT cls a))) ∧ (b = false → Wout cls d σ H)
abbrev keepS (n y : Str) (np yp ap : Pos) : Stmt := .Assign [.Name y yp] (.Name n np) ap
abbrev keepH (x n y : Str) (xp np yp ap hp : Pos) : ExceptHandler := .ExceptHandler (some (.Name x xp)) (some n) [keepS n y np yp ap] hp
/-- an exception's address is no frame's -/
theorem fly_off {B h : Heap} {l : List Env} {a : Addr} {Z : Obj → Prop} (f : HandSPX.FlyingZ B l a Z h) : a ∉ frs l := fun hm => by
  obtain ⟨oe, vs, g, _, hd⟩ := f.there
  obtain ⟨_, o', g', hn⟩ := f.2.2.1.mem hm
  cases g.symm.trans g'
  exact hn _ hd
/-- the names' places -/
structure HoldN (X : Cx) (i j : Nat) (n y : Str) : Prop where
  st : X.stack = X.env :: X.outer
  fr : X.env.frame = some X.env.locals
  ex : X.ex = []
  nd : X.N.Nodup
  i_ : X.N[i]? = some n
  n_ : X.env.kindOf n = some .local
  j_ : X.N[j]? = some y
  y_ : X.env.kindOf y = some .local
  d1 : (n == ("__debug__" : Str)) = false
  d2 : (n == ("__classdict__" : Str)) = false
section
variable {X : Cx} {x n y : Str} {c : Value} {i j : Nat} {np yp ap xp hp : Pos} {pins : List (Addr × Obj)} {σ : L2.St} {H : Hp} {s : Shared} {a : Addr} {D : Ends}
/-- the suite: what was caught is kept, the clause's name goes -/
theorem hold_suite {E1 E2 : Value → Shared → Prop} (N : HoldN X i j n y) (hsw : swapsWith (.Name n np) (some (.Name y yp)) ap.line X.env = pure false) (I : Inv X pins σ H s) (q : D.nx (heldAt i j σ a) H) :
    wpAny (model X.prog X.w) (X.A.mark (some (.ref a))) (storeName X.env n (.ref a)) (fun _ s1 => wpAny (model X.prog X.w) (X.A.mark (some (.ref a))) (execs [keepS n y np yp ap] X.env)
      (fun f s2 => wpAny (model X.prog X.w) X.A (do bindName X.env n .none; unbindBehindTheSuite X.env n hp) (fun _ s3 => SP X pins D f s3) X.xe s2) E2 s1) E1 s := by
  let Y : Cx := X.suite a (X.pn ++ pins)
  have here : (σ.set i (some (V.ref a)))[i]? = some (some (V.ref a)) := List.getElem?_set_self (by rw [I.len]; exact (List.getElem?_eq_some_iff.mp N.i_).1)
  have asg := ps_set (X := Y) (i := j) (pos := ap) N.nd N.j_ (.inl N.y_) (pe_var (X := Y) (i := i) N.i_ (.inl N.n_) N.d1 N.d2) hsw (.inr N.y_)
  refine wpAny_mono (store_ok (X := Y) (v := .ref a) (Q := fun _ s1 => wpAny (model X.prog X.w) (X.A.mark (some (.ref a))) (execs [keepS n y np yp ap] X.env)
      (fun f s2 => wpAny (model X.prog X.w) X.A (do bindName X.env n .none; unbindBehindTheSuite X.env n hp) (fun _ s3 => SP X pins D f s3) X.xe s2) E2 s1) (inv_suite I a) N.nd N.i_ (.inl N.n_) rfl (fun s1 I1 => ?_) (.inr N.n_)) (fun _ _ z => z) fun _ _ z => z
  have run := (pss_one asg).run [] s1 _ _ { nx := fun τ G => τ = (σ.set i (some (V.ref a))).set j (some (.ref a)) ∧ G = H, rt := fun _ _ => False } I1 ⟨_, here, rfl, rfl⟩
  refine wpAny_mono run (fun f s2 e => ?_) fun _ _ z => z.elim
  match f, e with
  | .next, ⟨τ, G, I2, e1, e2⟩ =>
    subst e1 e2
    exact gone_ok (inv_unsuite I2 I.ok) N.nd N.i_ N.n_ fun s3 I3 => ⟨_, _, I3, q⟩
  | .brk, ⟨_, _, _, z⟩ => exact z.elim
  | .cont, ⟨_, _, _, z⟩ => exact z.elim
  | .ret _, ⟨_, _, _, _, _, z⟩ => exact z.elim
/-- another class: it flies on -/
theorem hold_pass {Wout : WX} {B : Heap} {sI : Shared} {cls : Value} {d : Option Addr} (N : HoldN X i j n y) (tk : Takes X Wout) (J : Inv X pins σ H sI) (nb : ∀ b o, sI.heap.get? b = some o → b ∉ frs X.stack → B.get? b = some o)
    (fl : HandSPX.FlyingZ B X.stack a (Zc cls d) s.heap) (up : sI.heap.UpToSlots s.heap) (na : H a = none) (os : s.os = sI.os) (ag : AllBare s.gens) (w : Wout cls d σ H) :
    wpAny (model X.prog X.w) X.A (handleBy (.ref a) X.env []) (SP X pins D) X.xe s := by
  have away : wpAny (model X.prog X.w) X.A (setFlight (.ref a) X.env.frame) (fun _ s4 => wpAny (model X.prog X.w) X.A (throw (.ref a) : Sem Flow) (SP X pins D) X.xe s4) X.xe s := by
    rw [N.fr]
    exact HandSPX.setFlight_upZ fl fun h4 held more => wpAny_throw (tk _ _ ⟨a, B, sI, pins, σ, H, cls, d, rfl, J, nb, up.trans more, .inr (.inr held), na, os, ag, w⟩)
  obtain ⟨_, vs, T, _, _, g, _, hv, h1, _⟩ := fl.2.2.2
  have nn : (Value.ref T == Value.none) = false := rfl
  refine wpAny_handleBy_nil ?_
  unfold PySem.passOn
  refine wpAny_bind (wpAny_field g hv h1 ?_)
  rw [nn, if_neg Bool.false_ne_true]
  first
    | exact wpAny_bind (wpAny_pure (wpAny_bind away))
    | exact wpAny_bind away
/-- the clause at work, from where the exception has landed in this frame -/
theorem hold_clause {Wout : WX} {B : Heap} {sI : Shared} {cls : Value} {d : Option Addr} (N : HoldN X i j n y) (hc : Names X x c) (hsw : swapsWith (.Name n np) (some (.Name y yp)) ap.line X.env = pure false) (tk : Takes X Wout) (J : Inv X pins σ H sI)
    (nb : ∀ b o, sI.heap.get? b = some o → b ∉ frs X.stack → B.get? b = some o) (fl : HandSPX.FlyingZ B X.stack a (Zc cls d) s.heap) (up : sI.heap.UpToSlots s.heap) (na : H a = none) (os : s.os = sI.os) (ag : AllBare s.gens) (w : wHold X.K c i j Wout D cls d σ H) :
    wpAny (model X.prog X.w) X.A (handleBy (.ref a) X.env [keepH x n y xp np yp ap hp]) (SP X pins D) X.xe s := by
  have off := fly_off fl
  have nL : a ≠ X.env.locals := fun z => off (by rw [N.st]; exact List.mem_filterMap.mpr ⟨_, List.mem_cons_self, by rw [N.fr, z]⟩)
  have new : sI.heap.get? a = none := Option.eq_none_iff_forall_ne_some.mpr fun o q => by
    cases fl.2.1.symm.trans (nb a o q off)
  have land : ∀ {h4 : Heap}, HandSPX.FlyingZ B X.stack a (Zc cls d) h4 → s.heap.UpToSlots h4 → Inv X pins σ H { s with heap := h4 } := fun f u => J.landed nb f.1 (up.trans u) os ag
  have I0 : Inv X pins σ H s := J.landed nb fl.1 up os ag
  obtain ⟨b, e, yes, no⟩ := w
  obtain ⟨o3, _, g3, z3, _⟩ := fl.there
  have type : PySem.W.Looks (model X.prog X.w) s.heap (typeOf (.ref a)) cls := fun A Q E s1 k q => wpAny_typeOf_ref (k _ _ g3) (by rw [z3.1]; exact q)
  have look := PySem.W.exm_one (M := model X.prog X.w) I0.kIn type e
  have named : ∀ {Q : Value → Shared → Prop} {E : Value → Shared → Prop}, Q c s → wpAny (model X.prog X.w) (X.A.mark (some (.ref a))) (eval (.Name x xp) X.env) Q E s := fun q =>
    match hc with
    | ⟨g, db, .inl m⟩ => ld_glob (X := X.suite a (X.pn ++ pins)) (inv_suite I0 a) g m q db
    | ⟨g, db, .inr ⟨m, v, nn⟩⟩ => ld_blt (X := X.suite a (X.pn ++ pins)) (inv_suite I0 a) g m v q nn db
  refine wpAny_handleBy_cons (codeAny_handlers_test (named (look.here ?_))) (fun z => nomatch z)
  cases b
  · exact hold_pass N tk J nb fl up na os ag (no rfl)
  · obtain ⟨hd, q⟩ := yes rfl
    subst hd
    rw [N.st] at fl
    refine codeAny_handlers_suite_as (HandSPX.lands_againZ fl fun h4 f4 u4 => ?_)
    obtain ⟨o4, _, g4, z4, v4⟩ := f4.there
    exact hold_suite N hsw (inv_track (land (by rw [N.st]; exact f4) u4) J new na (ext_ok g4 z4 v4) fun b z => by rw [N.ex] at z; exact nomatch z) (q a na)
theorem ps_try_hold {body : List Stmt} {pos : Pos} {tb : WX → TS} {Wout : WX} (N : HoldN X i j n y) (hc : Names X x c) (hsw : swapsWith (.Name n np) (some (.Name y yp)) ap.line X.env = pure false) (tk : Takes X Wout)
    (hb : ∀ (W : WX) (pn : List (Addr × Obj)) (xe : Value → Shared → Prop), Takes (X.tr pn xe) W → PassesOwn (model X.prog X.w) X.A X.env xe → PSs (X.tr pn xe) body (tb W)) :
    PS X (.Try body [keepH x n y xp np yp ap hp] [] [] pos) (fun D σ H => tb (wHold X.K c i j Wout D) D σ H) :=
  ⟨fun pins s σ H D I w => wpAny_Try_except (wpAny_mono ((hb (wHold X.K c i j Wout D) (X.pn ++ pins) _ (fun u s1 air => by
      obtain ⟨a, B, sI, p', τ, G, cls, d, rfl, J', nb, up, sky, na, os, ag, q⟩ := air
      have sky : Sky B (X.env :: X.outer) a (Zc cls d) X.env.locals s1.heap := by rw [← N.st]; exact sky
      refine Sky.land Zc.steady (by rw [I.ok.frames, N.st]) N.fr sky fun h3 f3 u3 => ?_
      exact hold_clause (s := { s1 with heap := h3 }) N hc hsw tk (J'.ofTry I.ok) nb (by rw [N.st]; exact f3) (up.trans u3) na os ag q) PassesOwn.looking).run [] s σ H D (I.toTry _) w)
    (fun f s1 e => match f, e with
      | .next, ⟨_, _, J, q⟩ => wpAny_execs_nil ⟨_, _, J.ofTry I.ok, q⟩
      | .brk, ⟨_, _, J, q⟩ => ⟨_, _, J.ofTry I.ok, q⟩
      | .cont, ⟨_, _, J, q⟩ => ⟨_, _, J.ofTry I.ok, q⟩
      | .ret _, ⟨_, _, _, J, r, q⟩ => ⟨_, _, _, J.ofTry I.ok, r, q⟩) fun _ _ z => z)⟩
end
end Pu

namespace Pu
open PySem PySem.Spec PyProof.Rows L2

/-! ### raise; try: .. except X as n: y = n; isinstance of what was caught -/
def subX (c n : String) : Bool := decide (c = n) || (decide (n = "RuleError") || decide (n = "ValueError"))
/-- an own class of exceptions -/
structure Xc (mg : Str → Option Value) (K : PySem.W.Frag) (c : String) (C : Addr) : Prop where
  gC : mg (Str.ofString c) = some (.ref C)
  nC : PySem.W.nsIn K mainGlobals (Str.ofString c) = some (some (.ref C))
  xC : PySem.W.excIn K C [.type "ValueError", .type "Exception", .type "BaseException", .type "object"] "ValueError.__new__" = true
  kC : PySem.W.keepIn K (.ref C) = true
  tC : PySem.W.typeIn K (.ref C) = some (.type "type")
  is : ExcC K C
def Xs (mg : Str → Option Value) (K : PySem.W.Frag) (R : Addr) (cs : List String) : Prop := mg (Str.ofString "RuleError") = some (.ref R) ∧ ∀ c ∈ cs, ∃ C, Xc mg K c C ∧ PySem.W.exmOne K (.ref C) (.ref R) = some true
structure Xn (mg : Str → Option Value) (K : PySem.W.Frag) (cs : List String) (n : String) (v : V) (cv : Value) : Prop where
  cls : ClsV v cv
  at_ : mg (Str.ofString n) = some cv ∨ (mg (Str.ofString n) = none ∧ bootBuiltins (Str.ofString n) = some cv)
  no : PySem.W.kitOne K (.type "NoneType") cv = some false
  ys : ∀ c ∈ cs, ∀ A, PySem.W.nsIn K mainGlobals (Str.ofString c) = some (some (.ref A)) → PySem.W.kitOne K (.ref A) cv = some (subX c n)
def sRaise (c : String) : Sx := fun env h => .exc c env h
def sTry (i j : Nat) (cs : List String) (b : Sx) : Sx := fun env h => match b env h with
  | .exc c env' h' => if c ∈ cs then .next ((env'.set j (some (.xc c))).set i none) h' else .stuck
  | r => r
def eIsX (cs ns : List String) (f : Ex) : Ex := fun env h => (f env h).bind fun d h1 => match d with
  | .xc c => if c ∈ cs then .ok (.bl (ns.any (subX c))) h1 else .stuck
  | .non => .ok (.bl false) h1
  | _ => .stuck
theorem relE_unset {K : PySem.W.Frag} {T : Tk} {H : Hp} {env : En} {σ : L2.St} (e : relE K T H env σ) (i : Nat) : relE K T H (env.set i none) (σ.set i none) := by
  refine ⟨by rw [List.length_set, List.length_set]; exact e.1, fun j d h => ?_⟩
  by_cases hj : i = j
  · subst hj
    by_cases hl : i < env.length
    · rw [List.getElem?_set_self hl] at h; cases h
    · rw [List.getElem?_eq_none (by rw [List.length_set]; omega)] at h; cases h
  · rw [List.getElem?_set_ne hj] at h ⊢
    exact e.2 j d h
theorem relE_gone {K : PySem.W.Frag} {T : Tk} {H : Hp} {env : En} {σ : L2.St} {i : Nat} {v : V} (e : relE K T H env (σ.set i (some v))) : relE K T H (env.set i none) (σ.set i none) := by
  have := relE_unset e i
  rwa [List.set_set] at this
section
variable {X : Cx} {W : WX} {k : Nat}
theorem ss_raise (C : Cok X W k) {c : String} {A : Addr} {x y : Str} {j : Nat} {p p2 pos pos2 : Pos} (f : Xc X.mg X.K c A) (hg : Gl X x) (hx : x = Str.ofString c := by rfl) (hdb : (x == ("__debug__" : Str)) = false := by decide) :
    SS X W (.Raise (some (.Call (.Name x p) [.Constant (.str y) j p2] [] pos)) none pos2) (sRaise c) := PS.mono (ps_raise C.calm C.tk (pmk_own PySem.F.excBase_ValueError f.xC (by rw [hx]; exact f.gC) f.kC (raises_own f.is.hs f.tC) hg hdb)) fun E σ H hh => by
  obtain ⟨T, env, h, r1, r2, a⟩ := hh
  exact a _ T H σ f.gC Le.refl r1 r2
theorem ss_try {cs : List String} {R : Addr} {x n y : Str} {i j : Nat} {body : List Stmt} {np np2 yp ap pos pos' : Pos} {f : Sx} (C : Cok X W k) (hN : X.N.Nodup) (F : Xs X.mg X.K R cs) (hg : Gl X x) (hi : X.N[i]? = some n) (hln : X.env.kindOf n = some .local) (hj : X.N[j]? = some y) (hly : X.env.kindOf y = some .local)
    (hb : ∀ (W : WX) (pn : List (Addr × Obj)) (xe : Value → Shared → Prop), Cok (X.tr pn xe) W k → SB (X.tr pn xe) W body f)
    (hx : x = Str.ofString "RuleError" := by rfl) (hs : X.stack = X.env :: X.outer := by rfl) (hf : X.env.frame = some X.env.locals := by rfl) (hex : X.ex = [] := by rfl) (hdb : (x == ("__debug__" : Str)) = false := by decide)
    (hd1 : (n == ("__debug__" : Str)) = false := by decide) (hd2 : (n == ("__classdict__" : Str)) = false := by decide) (hsw : swapsWith (.Name n np2) (some (.Name y yp)) ap.line X.env = pure false := by rfl) :
    SS X W (.Try body [.ExceptHandler (some (.Name x np)) (some n) [.Assign [.Name y yp] (.Name n np2) ap] pos'] [] [] pos) (sTry i j cs f) :=
  PS.mono (ps_try_hold (X := X) (c := .ref R) (tb := fun W' => rdSt X W' f) (Wout := W) ⟨hs, hf, hex, hN, hi, hln, hj, hly, hd1, hd2⟩ ⟨hg, hdb, .inl (by rw [hx]; exact F.1)⟩ hsw C.tk fun W' pn xe tk po => hb W' pn xe ⟨C.calm, tk, po, C.hr, C.gd⟩) fun E σ H hh => by
    obtain ⟨T, env, h, r1, r2, a⟩ := hh
    refine ⟨T, env, h, r1, r2, ?_⟩
    revert a
    unfold sTry
    cases f env h with
    | next env' h' => exact fun a => a
    | ret d h' => exact fun a => a
    | brk env' h' => exact fun a => a
    | cont env' h' => exact fun a => a
    | stuck => exact fun a => a
    | exc c env' h' =>
      dsimp only
      split
      · rename_i hc
        intro a C' T' H' σ' hm l rr re
        obtain ⟨A, xc, em⟩ := F.2 c hc
        have e := hm.symm.trans xc.gC
        cases e
        refine ⟨true, em, fun _ => ⟨rfl, fun b hbn => ?_⟩, fun z => by cases z⟩
        refine a T' (upd H' b (ExT (.ref A) b)) _ (l.trans r1.mut (Le.new hbn)) (rr.new hbn) ?_
        unfold heldAt
        have e1 := relE_mono (Le.new (o := ExT (.ref A) b) hbn) rr.mut re
        have rv : rel X.K T' (upd H' b (ExT (.ref A) b)) (.xc c) (.ref b) := by
          unfold rel
          exact ⟨b, .ref A, rfl, xc.nC, upd_same⟩
        have e2 := relE_set (relE_unset e1 i) rv j
        by_cases hij : i = j
        · subst hij
          have e3 := relE_unset e2 i
          simp only [List.set_set] at e3 ⊢
          exact e3
        · have e3 := relE_unset e2 i
          rw [List.set_comm _ _ hij] at e3
          rw [List.set_comm (l := σ') _ _ hij] at e3
          simp only [List.set_set] at e3
          rw [List.set_comm (l := σ') _ _ hij]
          simp only [List.set_set]
          exact e3
      · exact fun a => a.elim
/-- isinstance(e, c), e a caught exception -/
def rIsX (K : PySem.W.Frag) : List V → Hp → VK → Prop := fun xs H Q => ∃ (a A : Addr) (c : V) (cv : Value) (b : Bool), xs = [.ref a, c] ∧ H a = some (ExT (.ref A) a) ∧ ExcC K A ∧ ClsV c cv ∧ PySem.W.kitOne K (.ref A) cv = some b ∧ Q (.bl b) H
def rIsXT (K : PySem.W.Frag) : List V → Hp → VK → Prop := fun xs H Q => ∃ (a A tp : Addr) (cs : List V) (us : List Value) (b : Bool), xs = [.ref a, .ref tp] ∧ H tp = some (.tup cs) ∧ Paired ClsV cs us ∧ H a = some (ExT (.ref A) a) ∧ ExcC K A ∧ PySem.W.kitAny K (.ref A) us = some b ∧ Q (.bl b) H
theorem inst_of {pins : List (Addr × Obj)} {σ : L2.St} {H : Hp} {s : Shared} {a A : Addr} (I : Inv X pins σ H s) (e : H a = some (ExT (.ref A) a)) : ∃ oe, PySem.W.InstAt s.heap a oe A none := by
  obtain ⟨⟨oe, vs, hget, hz, hv⟩, _, _⟩ := (show ObjOk X.prog X.w H s.heap a (ExT (.ref A) a) from I.hok a _ e)
  obtain ⟨oc, od, oda, osl⟩ := oe
  obtain ⟨h1, h2⟩ := hz
  dsimp only at h1 h2 hv
  subst h1 h2 hv
  exact ⟨_, hget, rfl, rfl, trivial⟩
theorem call_isX : CallR X (.builtin "isinstance") (rIsX X.K) := by
  intro pins s σ H xs us Q I r h
  obtain ⟨a, A, c, cv, b, rfl, he, C, k, e, q⟩ := h
  obtain ⟨u1, u2, rfl, r1, r2⟩ := vals2 r
  cases (show u1 = Value.ref a from r1)
  have e2 := k.eq r2
  subst e2
  obtain ⟨oe, J⟩ := inst_of I he
  exact PySem.W.kia_one (PySem.W.handS_kitx_exc C.hg C.hk C.hs C.hd C.ha C.hn C.ht C.hm) I.kIn J e (fun z => nomatch z) fun tk => ⟨.bl b, H, I.tok tk, rfl, q⟩
theorem call_isXT : CallR X (.builtin "isinstance") (rIsXT X.K) := by
  intro pins s σ H xs us Q I r h
  obtain ⟨a, A, tp, cs, ws, b, rfl, hT, k, he, C, e, q⟩ := h
  obtain ⟨u1, u2, rfl, r1, r2⟩ := vals2 r
  cases (show u1 = Value.ref a from r1)
  cases (show u2 = Value.ref tp from r2)
  obtain ⟨oe, J⟩ := inst_of I he
  obtain ⟨_, its, rv, o, h1, h2, n, h3⟩ := (show ObjOk X.prog X.w H s.heap tp (.tup cs) from I.hok tp _ hT)
  have e3 := ClsV.all k rv
  subst e3
  obtain ⟨oc, od, dt, sl⟩ := o
  simp only at h2 h3
  subst h2 h3
  exact PySem.W.kia_tup (PySem.W.handS_kitx_exc C.hg C.hk C.hs C.hd C.ha C.hn C.ht C.hm) I.kIn J h1 e (fun z => nomatch z) fun tk => ⟨.bl b, H, I.tok tk, rfl, q⟩
theorem clsV_rel {v : V} {u : Value} (k : ClsV v u) : RelV v u := by cases k <;> rfl
theorem pe_cls {cs : List String} {n : String} {v : V} {cv : Value} {x : Str} {p : Pos} (N : Xn X.mg X.K cs n v cv) (hg : Gl X x) (hx : x = Str.ofString n := by rfl) (hn : x ≠ "__name__" := by decide) (hdb : (x == ("__debug__" : Str)) = false := by decide) : PE X (.Name x p) (tC v) := by
  rcases N.at_ with h | ⟨h1, h2⟩
  · exact pe_glob hg (by rw [hx]; exact h) (clsV_rel N.cls) hdb
  · exact pe_bltn hg (by rw [hx]; exact h1) (by rw [hx]; exact h2) (clsV_rel N.cls) hn hdb
/-- class names, one behind the other -/
def Xl (X : Cx) (cs : List String) (es : List Expr) (ns : List String) : Prop := ∃ vs us, PA X es (fun _ H Q => Q vs H) ∧ Paired ClsV vs us ∧ PySem.W.kitAny X.K (.type "NoneType") us = some false ∧
  (∀ c ∈ cs, ∀ A, PySem.W.nsIn X.K mainGlobals (Str.ofString c) = some (some (.ref A)) → PySem.W.kitAny X.K (.ref A) us = some (ns.any (subX c))) ∧ vs.length ≤ es.length
theorem xl_nil {cs : List String} : Xl X cs [] [] := ⟨[], [], PA.mono pa_nil fun _ _ _ h => h, .nil, rfl, fun _ _ _ _ => rfl, Nat.le_refl _⟩
theorem xl_cons {cs : List String} {n : String} {v : V} {cv : Value} {x : Str} {p : Pos} {es : List Expr} {ns : List String} (N : Xn X.mg X.K cs n v cv) (hg : Gl X x) (r : Xl X cs es ns) (hx : x = Str.ofString n := by rfl) (hn : x ≠ "__name__" := by decide) (hdb : (x == ("__debug__" : Str)) = false := by decide)
    (hs : starEach (.Name x p :: es) X.env = (false, eval (.Name x p) X.env) :: starEach es X.env := by rfl) : Xl X cs (.Name x p :: es) (n :: ns) := by
  obtain ⟨vs, us, pa, pd, k0, k1, hl⟩ := r
  refine ⟨v :: vs, cv :: us, PA.mono (pa_cons (pe_cls N hg hx hn hdb) pa hs) fun _ _ _ h => h, .cons N.cls pd, ?_, fun c hc A hA => ?_, by simp; omega⟩
  · exact kitAny_cons N.no (fun _ => k0) fun z => by cases z
  · have h1 := N.ys c hc A hA
    rw [List.any_cons]
    refine kitAny_cons h1 (fun z => ?_) fun z => by rw [z]; rfl
    rw [z, Bool.false_or]
    exact k1 c hc A hA
theorem se_isX {cs : List String} {R : Addr} {x n : Str} {nm : String} {v : V} {cv : Value} {e : Expr} {f : Ex} {p p2 pos : Pos} (F : Xs X.mg X.K R cs) (hg : Gl X x) (hm : X.mg x = none) (hv : bootBuiltins x = some (.builtin "isinstance")) (he : SE X W e f) (N : Xn X.mg X.K cs nm v cv) (hgn : Gl X n)
    (hx : n = Str.ofString nm := by rfl) (hn1 : n ≠ "__name__" := by decide) (hdb1 : (n == ("__debug__" : Str)) = false := by decide) (hn : x ≠ "__name__" := by decide) (hdb : (x == ("__debug__" : Str)) = false := by decide)
    (hs1 : starEach [e, .Name n p2] X.env = (false, eval e X.env) :: starEach [.Name n p2] X.env := by rfl) (hs2 : starEach [.Name n p2] X.env = (false, eval (.Name n p2) X.env) :: starEach [] X.env := by rfl) (hpl : (backTo pos (starEach [.Name n p2] X.env)).any (·.1) = false := by rfl) :
    SE X W (.Call (.Name x p) [e, .Name n p2] [] pos) (eIsX cs [nm] f) :=
  PE.mono (pe_callB (call_isX.or call_isi) hg hm hv (pa_cons he (pa_cons (pe_cls N hgn hx hn1 hdb1) pa_nil hs2) hs1) hn hdb hs1 hpl) fun σ H Q hh => by
    obtain ⟨T, env, h, r1, r2, a⟩ := hh
    refine ⟨T, env, h, r1, r2, a.bind r1.mut fun d h2 T2 H2 u _ l2 q2 ru a2 => ?_⟩
    revert a2
    split
    · rename_i c _
      split
      · rename_i hc
        intro a2
        obtain ⟨A, xc, _⟩ := F.2 c hc
        unfold rel at ru
        obtain ⟨b, C, rfl, e1, e2⟩ := ru
        rw [xc.nC] at e1
        cases e1
        refine .inl ⟨b, A, v, cv, _, rfl, e2, xc.is, N.cls, N.ys c hc A xc.nC, a2 T2 H2 _ Le.refl q2 (rel_bl_iff.mpr ?_)⟩
        simp
      · exact fun a2 => a2.elim
    · intro a2
      rw [rel_non_iff] at ru
      subst ru
      exact .inr ⟨.non, v, _, cv, false, rfl, N.cls, .base .non, N.no, a2 T2 H2 _ Le.refl q2 (rel_bl_iff.mpr rfl)⟩
    · exact fun a2 => a2.elim
theorem se_isXT {cs : List String} {R : Addr} {x : Str} {ns : List String} {es : List Expr} {e : Expr} {f : Ex} {x1} {p p2 pos : Pos} (F : Xs X.mg X.K R cs) (hg : Gl X x) (hm : X.mg x = none) (hv : bootBuiltins x = some (.builtin "isinstance")) (he : SE X W e f) (L : Xl X cs es ns)
    (hz : es.length ≤ 1000 := by decide) (hn : x ≠ "__name__" := by decide) (hdb : (x == ("__debug__" : Str)) = false := by decide)
    (hs1 : starEach [e, .Tuple es x1 p2] X.env = (false, eval e X.env) :: starEach [.Tuple es x1 p2] X.env := by rfl) (hs2 : starEach [.Tuple es x1 p2] X.env = (false, eval (.Tuple es x1 p2) X.env) :: starEach [] X.env := by rfl) (hpl : (backTo pos (starEach [.Tuple es x1 p2] X.env)).any (·.1) = false := by rfl) :
    SE X W (.Call (.Name x p) [e, .Tuple es x1 p2] [] pos) (eIsX cs ns f) := by
  obtain ⟨vs, us, pa, pd, k0, k1, hl⟩ := L
  refine PE.mono (pe_callB (call_isXT.or call_isiT) hg hm hv (pa_cons he (pa_cons (pe_tup pa) pa_nil hs2) hs1) hn hdb hs1 hpl) fun σ H Q hh => ?_
  obtain ⟨T, env, h, r1, r2, a⟩ := hh
  refine ⟨T, env, h, r1, r2, a.bind r1.mut fun d h2 T2 H2 u _ l2 q2 ru a2 => ?_⟩
  refine ⟨by rw [sizeLine_eq]; omega, fun tp htp => ?_⟩
  revert a2
  split
  · rename_i c _
    split
    · rename_i hc
      intro a2
      obtain ⟨A, xc, _⟩ := F.2 c hc
      unfold rel at ru
      obtain ⟨b, C, rfl, e1, e2⟩ := ru
      rw [xc.nC] at e1
      cases e1
      exact .inl ⟨b, A, tp, vs, us, _, rfl, upd_same, pd, by rw [upd_ne (ne_of_none e2 htp)]; exact e2, xc.is, k1 c hc A xc.nC, a2 T2 _ _ (Le.new htp) (q2.new htp) (rel_bl_iff.mpr rfl)⟩
    · exact fun a2 => a2.elim
  · intro a2
    rw [rel_non_iff] at ru
    subst ru
    exact .inr ⟨.non, tp, vs, _, us, false, rfl, upd_same, pd, .base .non, k0, a2 T2 _ _ (Le.new htp) (q2.new htp) (rel_bl_iff.mpr rfl)⟩
  · exact fun a2 => a2.elim
end
/-! ### facts of the classes -/
theorem xc_mk {K : PySem.W.Frag} {h : Heap} {mg : Str → Option Value} {c : String} {C : Addr} (X : K.In h) (G : h.Ns mainGlobals mg) (n : PySem.W.nsIn K mainGlobals (Str.ofString c) = some (some (.ref C)))
    (x : PySem.W.excIn K C [.type "ValueError", .type "Exception", .type "BaseException", .type "object"] "ValueError.__new__" = true) (k : PySem.W.keepIn K (.ref C) = true) (t : PySem.W.typeIn K (.ref C) = some (.type "type")) (is : ExcC K C) : Xc mg K c C :=
  ⟨PySem.W.mg_of X G n, n, x, k, t, is⟩
theorem xs_nil {mg : Str → Option Value} {K : PySem.W.Frag} {R : Addr} (h : mg (Str.ofString "RuleError") = some (.ref R)) : Xs mg K R [] := ⟨h, fun c hc => nomatch hc⟩
theorem xs_cons {mg : Str → Option Value} {K : PySem.W.Frag} {R C : Addr} {c : String} {cs : List String} (x : Xc mg K c C) (e : PySem.W.exmOne K (.ref C) (.ref R) = some true) (r : Xs mg K R cs) : Xs mg K R (c :: cs) := ⟨r.1, fun d hd => by
  rcases List.mem_cons.mp hd with rfl | hd
  · exact ⟨C, x, e⟩
  · exact r.2 d hd⟩
def Ys (K : PySem.W.Frag) (cs : List String) (n : String) (cv : Value) : Prop := ∀ c ∈ cs, ∀ A, PySem.W.nsIn K mainGlobals (Str.ofString c) = some (some (.ref A)) → PySem.W.kitOne K (.ref A) cv = some (subX c n)
theorem ys_nil {K : PySem.W.Frag} {n : String} {cv : Value} : Ys K [] n cv := fun c hc => nomatch hc
theorem ys_cons {K : PySem.W.Frag} {n c : String} {cv : Value} {C : Addr} {b : Bool} {cs : List String} (e : PySem.W.nsIn K mainGlobals (Str.ofString c) = some (some (.ref C))) (k : PySem.W.kitOne K (.ref C) cv = some b) (r : Ys K cs n cv) (hb : b = subX c n := by decide) : Ys K (c :: cs) n cv := fun d hd A hA => by
  rcases List.mem_cons.mp hd with rfl | hd
  · rw [e] at hA
    cases hA
    rw [← hb]; exact k
  · exact r d hd A hA
theorem kit_ref {K : PySem.W.Frag} {t : Value} {B : Addr} {b : Bool} (h1 : PySem.W.isClsIn K B = true) (h2 : PySem.W.typeIn K (.ref B) = some (.type "type")) (h3 : PySem.W.subIn K t (.ref B) = some b) (hn : b = false → (t == .ref B) = false) : PySem.W.kitOne K t (.ref B) = some b := by
  unfold PySem.W.kitOne
  split
  · rename_i h
    cases b with
    | true => rfl
    | false => rw [hn rfl] at h; cases h
  · show (if ((PySem.W.clsIn K B).isSome && PySem.W.typeIn K (.ref B) == some (.type "type")) = true then PySem.W.subIn K t (.ref B) else none) = some b
    have h1 : (PySem.W.clsIn K B).isSome = true := h1
    rw [h1, h2, if_pos (by rfl)]
    exact h3
theorem kit_val {K : PySem.W.Frag} {A : Addr} (h : PySem.W.subIn K (.ref A) (.type "ValueError") = some true) : PySem.W.kitOne K (.ref A) (.type "ValueError") = some true := by
  unfold PySem.W.kitOne
  rw [if_neg (fun z => by cases (beq_iff_eq.mp z))]
  show (if PySem.W.kitMeta "ValueError" = true then PySem.W.subIn K (.ref A) (.type "ValueError") else none) = some true
  rw [if_pos (by decide +kernel)]
  exact h
theorem xn_own {K : PySem.W.Frag} {h : Heap} {mg : Str → Option Value} {cs : List String} {n : String} {B : Addr} (X : K.In h) (G : h.Ns mainGlobals mg) (e : PySem.W.nsIn K mainGlobals (Str.ofString n) = some (some (.ref B))) (h1 : PySem.W.isClsIn K B = true) (h2 : PySem.W.typeIn K (.ref B) = some (.type "type"))
    (h3 : PySem.W.subIn K (.type "NoneType") (.ref B) = some false) (y : Ys K cs n (.ref B)) : Xn mg K cs n (.ref B) (.ref B) :=
  ⟨.own B, .inl (PySem.W.mg_of X G e), kit_ref h1 h2 h3 fun _ => rfl, y⟩
theorem xn_val {K : PySem.W.Frag} {h : Heap} {mg : Str → Option Value} {cs : List String} (X : K.In h) (G : h.Ns mainGlobals mg) (e : PySem.W.nsIn K mainGlobals (Str.ofString "ValueError") = some none) (y : Ys K cs "ValueError" (.type "ValueError")) : Xn mg K cs "ValueError" (.ty "ValueError") (.type "ValueError") :=
  ⟨.ty "ValueError", .inr ⟨PySem.W.mg_none_of X G e, rfl⟩, kit_ty (by decide +kernel), y⟩
theorem ref_ne {A B : Addr} (h : (A == B) = false) : (Value.ref A == Value.ref B) = false := by
  rw [Bool.eq_false_iff]
  intro z
  cases (beq_iff_eq.mp z)
  rw [beq_self_eq_true] at h
  cases h
/-! ### what these come to -/
def Wx (cs ns : List String) (q : D → HH → Prop) (d : D) (h : HH) : Prop := match d with
  | .xc c => c ∈ cs ∧ q (.bl (ns.any (subX c))) h
  | .non => q (.bl false) h
  | _ => False
section
variable {q : D → HH → Prop} {e : String → HH → Prop} {h : HH} {env : En} {f : Ex} {K : Ks} {cs ns : List String} {c : String} {i j k : Nat}
@[simp] theorem wx_xc : Wx cs ns q (.xc c) h ↔ c ∈ cs ∧ q (.bl (ns.any (subX c))) h := Iff.rfl
@[simp] theorem wx_non : Wx cs ns q .non h ↔ q (.bl false) h := Iff.rfl
@[simp ↓] theorem wp_eIsX : Wp q e (eIsX cs ns f env h) ↔ Wp (fun d h1 => Wx cs ns q d h1) e (f env h) := by
  unfold eIsX
  rw [wp_bind]
  refine wp_congr fun d h1 => ?_
  cases d with
  | xc c =>
    show Wp q e (if c ∈ cs then .ok (.bl (ns.any (subX c))) h1 else .stuck) ↔ _
    rw [wp_if]; rfl
  | _ => exact Iff.rfl
@[simp ↓] theorem wb_sRaise : Wb K (sRaise c env h) ↔ K.ex c h := Iff.rfl
@[simp ↓] theorem wb_sTrySet : Wb K (sTry i j cs (sSet k f) env h) ↔ Wp (fun d h1 => K.nx (env.set k (some d)) h1) (fun c h1 => c ∈ cs ∧ K.nx ((env.set j (some (.xc c))).set i none) h1) (f env h) := by
  unfold sTry sSet
  cases f env h with
  | ok d h1 => exact Iff.rfl
  | stuck => exact Iff.rfl
  | exc c h1 =>
    show Wb K (if c ∈ cs then .next ((env.set j (some (.xc c))).set i none) h1 else .stuck) ↔ c ∈ cs ∧ _
    rw [wb_ite]
    by_cases hc : c ∈ cs <;> simp [hc]
@[simp ↓] theorem wb_sTryEx : Wb K (sTry i j cs (sEx f) env h) ↔ Wp (fun _ h1 => K.nx env h1) (fun c h1 => c ∈ cs ∧ K.nx ((env.set j (some (.xc c))).set i none) h1) (f env h) := by
  unfold sTry sEx
  cases f env h with
  | ok d h1 => exact Iff.rfl
  | stuck => exact Iff.rfl
  | exc c h1 =>
    show Wb K (if c ∈ cs then .next ((env.set j (some (.xc c))).set i none) h1 else .stuck) ↔ c ∈ cs ∧ _
    rw [wb_ite]
    by_cases hc : c ∈ cs <;> simp [hc]
end
end Pu

namespace Pu
open PySem PySem.Spec PyProof.Rows L2

/-! ### fillings: names, what they stand for; deeds filled -/
def bxF (g : Ky → Int) : Ky → Int
  | .inl i => i
  | .inr s => g (.inr s)
abbrev gNm (g : Ky → Int) : String → Int := fun s => g (.inr s)
def fillP (g : Ky → Int) (top : Int) : Pd → Pd
  | .w1 w a => .w1 w (.inl (bxF g a))
  | .wn w a n => .wn w (.inl (bxF g a)) (.num (n.wo (gNm g) % top))
  | .wb w a b => .wb w (.inl (bxF g a)) (.inl (bxF g b))
  | .cond a d => .cond (.inl (bxF g a)) (fillP g top d)
/-- a filling as told: pairs -/
def filD (ks : List Ky) (g : Ky → Int) : D := .tup (ks.map fun k => .tup [kD k, .int (g k)])
/-- and as a dict -/
abbrev givD (ks : List Ky) (g : Ky → Int) : D := .dic (tb ks fun k => .int (g k))
theorem dict_filD {ks : List Ky} {g : Ky → Int} {h : HH} (nd : ks.Nodup) : dictX h [filD ks g] = some (tb ks fun k => .int (g k)) := by
  unfold filD
  rw [dictX_t, pairsD_tb, Option.map_some, tb_mer nd]
namespace Pt
theorem cf_b {s : String} : ∀ p : Pt, ok p → -(2 ^ ht p : Nat) ≤ cf s p ∧ cf s p ≤ (2 ^ ht p : Nat)
  | .num i, _ => by simp [cf, ht]
  | .nm t, _ => by
    simp only [cf, ht]
    split <;> simp
  | .bin w a b, o => by
    have h1 := cf_b (s := s) a o.2.1
    have h2 := cf_b (s := s) b o.2.2
    have h3 : 2 ^ ht a ≤ 2 ^ max (ht a) (ht b) := Nat.pow_le_pow_right (by decide) (by omega)
    have h4 : 2 ^ ht b ≤ 2 ^ max (ht a) (ht b) := Nat.pow_le_pow_right (by decide) (by omega)
    simp only [cf, ht, Nat.pow_succ]
    split <;> omega
theorem cf_names {s : String} : ∀ p : Pt, cf s p ≠ 0 → s ∈ names p
  | .num i, h => by simp [cf] at h
  | .nm t, h => by
    simp only [cf] at h
    split at h
    · rename_i e
      simp [names, e]
    · simp at h
  | .bin w a b, h => by
    simp only [cf] at h
    rw [names, List.mem_append]
    by_cases h1 : cf s a = 0
    · by_cases h2 : cf s b = 0
      · rw [h1, h2] at h
        split at h <;> simp at h
      · exact .inr (cf_names b h2)
    · exact .inl (cf_names a h1)
end Pt
/-- the deed's parts stand among the names -/
def ptIn (ks : List Ky) : PtK → Prop
  | .inl k => isSK k = true → k ∈ ks
  | .inr n => ∀ s ∈ n.names, Sum.inr s ∈ ks
def deedIn (ks : List Ky) (d : Pd) : Prop := ∀ p ∈ ptsP d, ptIn ks p
/-- written rows: boxes, numbers -/
def wrD : D → Bool
  | .int _ => true
  | .str _ => true
  | _ => false
end Pu

namespace Pu
open PySem PySem.Spec PyProof.Rows L2
open Builtin
section
variable {prog : Program} {w : World} {A : Around} {E : Value → Shared → Prop} {s : Shared}
theorem next_rg {it : Addr} {x left step : Int} {Q : Value → Shared → Prop} (hit : IsRangeIter s.heap it x left step) (hleft : 0 < left)
    (hQ : ∀ h', IsRangeIter h' it (x + step) (left - 1) step → Heap.SameBut it s.heap h' → Q (.int x s.toks) { s with heap := h', toks := s.toks + 1 }) :
    wpAny (model prog w) A (Builtin.SmallTypes.nextOf (.ref it)) Q E s := by
  have hT : s.TypeIs (.ref it) "range_iterator" := ⟨_, hit, rfl⟩
  unfold Builtin.SmallTypes.nextOf
  refine wpAny_bind (wpAny_callSpecial?_slot hT F.slot_range_iterator_next (call_meets F.slot_range_iterator_next hT F.entry_range_iterator_next (F.args_range_iterator_next_1 _) (AutoRange.range_iterator___next___range_iterator_1 it x left step (by omega)) ⟨hit, ?_⟩))
  exact wpAny_pure (hQ _ (Heap.get?_update_self _ (Heap.get?_update_self _ hit rfl) rfl) ((Heap.SameBut.update ..).trans (Heap.SameBut.update ..)))
theorem next_rg_end {it : Addr} {x left step : Int} {Q : Value → Shared → Prop} (hh : A.handled = none) (hit : IsRangeIter s.heap it x left step) (hleft : left ≤ 0)
    (hE : ∀ h' e, Heap.ExtBut it s.heap h' → (∃ o, h'.get? e = some o ∧ o.cls = .type "StopIteration") → E (.ref e) { s with heap := h' }) :
    wpAny (model prog w) A (Builtin.SmallTypes.nextOf (.ref it)) Q E s := by
  have hT : s.TypeIs (.ref it) "range_iterator" := ⟨_, hit, rfl⟩
  unfold Builtin.SmallTypes.nextOf
  refine wpAny_bind (wpAny_callSpecial?_slot hT F.slot_range_iterator_next (wpAny_call_entry F.slot_range_iterator_next hT F.entry_range_iterator_next ?_ (F.args_range_iterator_next_1 _)))
  unfold Builtin.«range_iterator.__next__»
  wp_walk
  unfold raiseNew
  refine wpAny_bind (wpAny_handled ?_)
  rw [show A.in1.handled = none from hh]
  refine wpAny_bind (wpAny_pure (wpAny_throw (hE _ _ ?_ ⟨_, Heap.get?_push_size _ rfl, rfl⟩)))
  exact ((Heap.ExtBut.refl it s.heap).push _).push _
end
theorem draws_rg {prog : Program} {w : World} {A : Around} (hh : A.handled = none) (it : Addr) (a c : Int) (n : Nat) :
    PySem.Draws prog w A it [it] n (fun i v => ∃ t, v = .int (a + (i : Nat) * c) t) (fun i h => IsRangeIter h it (a + (i : Nat) * c) ((n : Int) - (i : Nat)) c) where
  live := fun _ _ st => ⟨_, st⟩
  frame := fun _ _ _ st k => k it (by simp) _ st
  item := fun i s Q E hi st q => next_rg st (by omega) fun h' e sb => q _ h' _ ⟨_, rfl⟩ (by
    have e1 : a + ((i + 1 : Nat) : Int) * c = a + (i : Nat) * c + c := by
      rw [Int.natCast_add, Int.add_mul]
      simp [Int.add_assoc]
    have e2 : (n : Int) - ((i + 1 : Nat) : Int) = (n : Int) - (i : Nat) - 1 := by omega
    rw [e1, e2]
    exact e) sb
  done := fun s Q E st e => next_rg_end hh st (by omega) e
theorem begins_rg (r : Addr) (a b c : Int) (t u v : Tok) (hs : Builtin.Range.small a b c = true) : Begins (.ref r) { cls := .type "range_iterator", data := .fields #[rawInt a, rawInt (Builtin.Range.rangeSize a b c), rawInt c] } fun h => IsRange h r a b c t u v where
  iter := fun prog w A E s Q x h => wpAny_pyIter_range x hs h
  keeps := fun h h' x k => k _ _ x
  free := rfl
/-! ### zip of a tuple and a range -/
def ItzR (K : PySem.W.Frag) (a : Addr) (lo : Int) (n m : Nat) : It :=
  ⟨fun i H => ∃ (xs : List V) (c : V), SqT K H a xs ∧ xs.length = n ∧ xs[i]? = some c ∧ i < m,
    fun i H v H' => ∃ T c, v = .ref T ∧ H T = none ∧ H' = upd H T (.tup [c, .int (lo + (i : Nat))]) ∧ ∀ xs, SqT K H a xs → xs[i]? = some c,
    fun i H => ∃ xs : List V, SqT K H a xs ∧ xs.length = n ∧ (n ≤ i ∨ m ≤ i)⟩
theorem turn_zipR {P : Program} {w : World} {K : PySem.W.Frag} {elts : List Expr} {kk : Nat} {tpos : Pos} {a z TI TO i1 i2 : Addr} {lo : Int} {n m : Nat} (D : ZipSep2 z TI TO i1 i2 [i1, a] [i2]) (hb1 : a ≠ i1) :
    Turn P w K (.Tuple elts kk tpos) (ItzR K a lo n m) [z, TI, TO, i1, i2] z (fun i h => IsZip h z TI TO .none ∧ IsTupOf2 h TI (.ref i1) (.ref i2) ∧ (∃ x y, IsTupOf2 h TO x y) ∧ h.IsTupleIter i1 a i ∧ IsRangeIter h i2 (lo + (i : Nat) * 1) ((m : Int) - (i : Nat)) 1 ∧ i ≤ n ∧ i ≤ m) where
  mem := by simp
  obj := fun i h st c hc => by
    obtain ⟨hz, hTI, ⟨x, y, hTO⟩, ⟨o1, e1, _, d1⟩, h2, _⟩ := st
    have e' : c = z ∨ c = TI ∨ c = TO ∨ c = i1 ∨ c = i2 := by simpa using hc
    rcases e' with q | q | q | q | q
    · rw [q]; exact ⟨_, hz, fun v q => nomatch q⟩
    · rw [q]; exact ⟨_, hTI, fun v q => nomatch q⟩
    · rw [q]; exact ⟨_, hTO, fun v q => nomatch q⟩
    · rw [q]; exact ⟨o1, e1, fun v q => by rw [d1] at q; cases q⟩
    · rw [q]; exact ⟨_, h2, fun v q => nomatch q⟩
  keep := fun i h h' st k => by
    obtain ⟨hz, hTI, ⟨x, y, hTO⟩, h1, h2, hl⟩ := st
    exact ⟨k z (by simp) _ hz, k TI (by simp) _ hTI, ⟨x, y, k TO (by simp) _ hTO⟩, h1.at fun o q => k i1 (by simp) o q, k i2 (by simp) _ h2, hl⟩
  item := by
    intro X hP hw hK hc i pins s σ H E I hf st hg
    subst hP hw hK
    obtain ⟨hz, hTI, ⟨x0, y0, hTO⟩, h1, h2, hl1, hl2⟩ := st
    obtain ⟨xs, c, hqx, hn, hx, hm⟩ := hg
    obtain ⟨its1, rv1, p1, _⟩ := I.tuple hqx
    obtain ⟨u1, hu1, ru1⟩ := rv1.get hx
    have hzl : z < s.heap.objs.size := Heap.lt_size hz
    have hh : X.A.in1.handled = none := I.ok.hd hc
    have hi1 : i < its1.toArray.size := by
      have := (List.getElem?_eq_some_iff.mp hu1).1
      simpa using this
    refine wpAny_pyNext_zipD2_item D (Draws.tuple (prog := X.prog) (w := X.w) hh i1 a hb1 its1.toArray) (draws_rg (prog := X.prog) (w := X.w) hh i2 lo 1 m) hz hTI hTO ⟨h1, p1⟩ h2 hi1 hm fun x1 x2 h' tk P1 P2 z' TO' st1 st2 hT hsz hk => ?_
    have e1 : x1 = u1 := by
      have h3 : its1[i]? = some x1 := by simpa using P1
      rw [hu1] at h3; exact (Option.some.inj h3).symm
    subst e1
    obtain ⟨t, rfl⟩ := P2
    refine ⟨_, rfl, wpAny_letOwnedTupleGo_zip (s := { s with heap := h', toks := tk }) z' fun h'' z'' sb => ?_⟩
    have hT2 : h''.get? s.heap.objs.size = some { cls := .type "tuple", data := .seq #[x1, .int (lo + (i : Nat) * 1) t] } := (sb.2 _ (Nat.ne_of_gt hzl)).trans hT
    have new : ObjOk X.prog X.w (upd H s.heap.objs.size (.tup [c, .int (lo + (i : Nat))])) h'' s.heap.objs.size (.tup [c, .int (lo + (i : Nat))]) :=
      ⟨by show 2 ≤ sizeLine; decide, [x1, .int (lo + (i : Nat) * 1) t], .cons ru1 (.cons ⟨t, by rw [Int.mul_one]⟩ .nil), ⟨_, hT2, rfl, _, rfl⟩⟩
    have I1 : Inv X pins σ (upd H s.heap.objs.size (.tup [c, .int (lo + (i : Nat))])) { s with heap := h'', toks := tk } :=
      I.turnedNew (t' := tk) (ch := [z, TI, TO, i1, i2]) (fun c o hb q => (sb.2 c (fun q' => hb (by simp [q']))).trans (hk c o (fun q' => hb (by simp [q'])) (fun q' => hb (by simp [q'])) (fun q' => hb (by simp [q'])) (fun q' => hb (by simp [q'])) q)) hf (Nat.le_refl _) new
    have i1z : i1 ≠ z := fun e => D.zf1 (by rw [← e]; simp)
    have i2z : i2 ≠ z := fun e => D.zf2 (by rw [← e]; simp)
    refine ⟨.ref s.heap.objs.size, _, I1, rfl, ⟨_, c, rfl, I.hok.fresh (Nat.le_refl _), rfl, fun l hl => by rw [I.tuple_inj hl hqx]; exact hx⟩, ⟨z'', ?_, ⟨x1, .int (lo + (i : Nat) * 1) t, ?_⟩, ?_, ?_, ?_, hm⟩, fun c hcm => ?_⟩
    · exact (sb.2 _ D.TIz).trans (hk _ _ D.TIz D.TITO D.TIi1 D.TIi2 hTI)
    · exact (sb.2 _ D.TOz).trans TO'
    · exact st1.1.at fun o q => (sb.2 _ i1z).trans q
    · exact (sb.2 _ i2z).trans st2
    · have := rv1.length
      simp at hi1
      omega
    · have hlt : c < s.heap.objs.size := by
        have e' : c = z ∨ c = TI ∨ c = TO ∨ c = i1 ∨ c = i2 := by simpa using hcm
        rcases e' with q | q | q | q | q
        · rw [q]; exact hzl
        · rw [q]; exact Heap.lt_size hTI
        · rw [q]; exact Heap.lt_size hTO
        · rw [q]; obtain ⟨_, e1, _⟩ := h1; exact Heap.lt_size e1
        · rw [q]; exact Heap.lt_size h2
      rw [upd_ne (Nat.ne_of_lt hlt)]
      exact (hf c hcm).1
  done := by
    intro X hP hw hK hc i pins s σ H E I hf st hg
    subst hP hw hK
    obtain ⟨hz, hTI, ⟨x0, y0, hTO⟩, h1, h2, hl1, hl2⟩ := st
    obtain ⟨xs, hqx, hn, hend⟩ := hg
    obtain ⟨its1, rv1, p1, _⟩ := I.tuple hqx
    have l1 := rv1.length
    have hh : X.A.in1.handled = none := I.ok.hd hc
    exact wpAny_pyNext_zipD2_end D (Draws.tuple (prog := X.prog) (w := X.w) hh i1 a hb1 its1.toArray) (draws_rg (prog := X.prog) (w := X.w) hh i2 lo 1 m) hz hTI hTO ⟨h1, p1⟩ h2 (by simp; omega) (by omega) (by simp; omega) fun h' tk hk => ⟨rfl, I.turnedL (t' := tk) (ch := [z, TI, TO, i1, i2]) (fun c o hb q =>
      hk c o (fun q' => hb (by simp [q'])) (fun q' => hb (by simp [q'])) (fun q' => hb (by simp [q'])) (fun q' => hb (by simp [q'])) q) hf⟩
  self := fun A i s Q E st h => wpAny_pyIter_zip st.1 h
def iZipR0 (K : PySem.W.Frag) (ta : TA) : TI := fun σ H R => ta σ H fun vs H1 => ∃ a r xs lo hi, vs = [.ref a, .ref r] ∧ SqT K H1 a xs ∧ H1 r = some (.rng lo hi) ∧ (-(2 ^ 62) ≤ lo ∧ lo < 2 ^ 62 ∧ -(2 ^ 62) ≤ hi ∧ hi < 2 ^ 62) ∧ R (ItzR K a lo xs.length (hi - lo).toNat) H1
theorem pi_zipR {X : Cx} {e e2 : Expr} {ta : TA} {p pos tpos : Pos} {elts : List Expr} {kk : Nat} (hg : Gl X "zip") (hm : X.mg "zip" = none) (ha : PA X [e, e2] ta)
    (hs : starEach [e, e2] X.env = (false, eval e X.env) :: starEach [e2] X.env := by rfl) (hpl : (backTo pos (starEach [e2] X.env)).any (·.1) = false := by rfl) :
    PI X (.Tuple elts kk tpos) (.Call (.Name "zip" p) [e, e2] [] pos) (iZipR0 X.K ta) := by
  refine ⟨fun pins s σ H R I h => ?_⟩
  refine Call_ (ld_blt I hg hm PyProof.Rows.boot_zip (PyProof.Rows.callWith_type1 (thn (ha.run pos pins s σ H _ I h) fun us s1 ⟨vs, H1, I1, r1, q1⟩ => ?_) hs hpl))
  obtain ⟨a, r, xs, lo, hi, ex, hqx, hr, ⟨b1, b2, b3, b4⟩, q⟩ := q1
  subst ex
  cases r1 with
  | cons r1 rr =>
    cases rr with
    | cons r1' rr =>
      cases rr
      cases r1
      cases r1'
      have fresh5 : ∀ c, c ∈ [s1.heap.objs.size + 4, s1.heap.objs.size + 2, s1.heap.objs.size + 3, s1.heap.objs.size, s1.heap.objs.size + 1] → FpOk X pins H1 c := fun c hcm => by
        have e' : c = s1.heap.objs.size + 4 ∨ c = s1.heap.objs.size + 2 ∨ c = s1.heap.objs.size + 3 ∨ c = s1.heap.objs.size ∨ c = s1.heap.objs.size + 1 := by simpa using hcm
        have hle : s1.heap.objs.size ≤ c := by omega
        exact I1.fpOk hle (I1.hok.fresh hle)
      obtain ⟨its1, rv1, p1, _⟩ := I1.tuple hqx
      obtain ⟨t, u, v, ho⟩ := I1.hok r _ hr
      have hal : a < s1.heap.objs.size := by obtain ⟨_, q, _⟩ := id p1; exact Heap.lt_size q
      refine zip_begins2 (begins_tuple a its1.toArray) (begins_rg r lo hi 1 t u v (PySem.small_one b1 b2 b3 b4)) p1 ho fun h' hz hTI hTO h1 h2 hsz hk => wpAny_pyIter_zip hz ?_
      have I2 : Inv X pins σ H1 { s1 with heap := h' } := I1.kept (t' := s1.toks) hk
      refine ⟨s1.heap.objs.size + 4, [s1.heap.objs.size + 4, s1.heap.objs.size + 2, s1.heap.objs.size + 3, s1.heap.objs.size, s1.heap.objs.size + 1], _, _, H1, rfl, I2,
        turn_zipR (zip_sep2 (fp1 := [a]) (fp2 := []) (fun c h => by rw [List.mem_singleton.mp h]; exact hal) (fun c h => by cases h)) (Nat.ne_of_lt hal),
        ⟨hz, hTI, ⟨_, _, hTO⟩, ⟨_, h1, rfl, rfl⟩, ?_, Nat.zero_le _, Nat.zero_le _⟩, fresh5, q⟩
      rw [show lo + ((0 : Nat) : Int) * 1 = lo by simp, show (((hi - lo).toNat : Nat) : Int) - ((0 : Nat) : Int) = Builtin.Range.rangeSize lo hi 1 by rw [PyProof.Rows.rangeSize_nat]; simp]
      exact h2
def iZipR (f : Ex) (g : Exs) : Ei := fun env h => (f env h).bind fun d h1 => (g env h1).bind fun es h2 => match d, es with
  | .tup xs, [.int i, .int j] => if (inB i && inB j) = true then .ok ⟨zipD xs (intsL i (j - i).toNat), []⟩ h2 else .stuck
  | _, _ => .stuck
section
variable {X : Cx} {W : WX}
theorem wk_zipR {K : PySem.W.Frag} {a : Addr} {lo : Int} {n m : Nat} : Walk (ItzR K a lo n m) (min n m) (fun H => ∃ vs, vs.length = n ∧ SqT K H a vs)
    (fun i H v H' => ∃ T x, v = .ref T ∧ H T = none ∧ H' = upd H T (.tup [x, .int (lo + (i : Nat))]) ∧ ∀ xs, SqT K H a xs → xs[i]? = some x) :=
  ⟨fun i _ hi ⟨vs, e, q⟩ => ⟨vs, vs[i]'(by omega), q, e, List.getElem?_eq_getElem _, by omega⟩,
    fun _ ⟨vs, e, q⟩ => ⟨vs, q, e, by omega⟩, fun _ _ _ _ _ _ y => y⟩
theorem si_zipR {e1 a b : Expr} {f : Ex} {g : Exs} {p p2 pos pos2 tpos : Pos} {elts : List Expr} {kk : Nat} (hg : Gl X "zip") (hm : X.mg "zip" = none) (hg2 : Gl X "range") (hm2 : X.mg "range" = none) (he : SE X W e1 f) (ha : SA X W [a, b] g)
    (hs : starEach [e1, .Call (.Name "range" p2) [a, b] [] pos2] X.env = (false, eval e1 X.env) :: starEach [.Call (.Name "range" p2) [a, b] [] pos2] X.env := by rfl) (hpl : (backTo pos (starEach [.Call (.Name "range" p2) [a, b] [] pos2] X.env)).any (·.1) = false := by rfl)
    (hs1 : starEach [.Call (.Name "range" p2) [a, b] [] pos2] X.env = (false, eval (.Call (.Name "range" p2) [a, b] [] pos2) X.env) :: starEach [] X.env := by rfl)
    (hs2 : starEach [a, b] X.env = (false, eval a X.env) :: starEach [b] X.env := by rfl) (hpl2 : (backTo pos2 (starEach [b] X.env)).any (·.1) = false := by rfl) :
    SI X W (.Tuple elts kk tpos) (.Call (.Name "zip" p) [e1, .Call (.Name "range" p2) [a, b] [] pos2] [] pos) (iZipR f g) := by
  refine PI.mono (pi_zipR hg hm (pa_cons he (pa_cons (pe_callTy cr_range2 hg2 hm2 boot_range ha.pa (by decide) (by decide) hs2 hpl2) pa_nil hs1) hs) hs hpl) fun σ H R hh => ?_
  obtain ⟨T, env, h, r1, r2, A⟩ := hh
  refine ⟨T, env, h, r1, r2, A.bind r1.mut fun d h1 T1 H1 v e l1 q1 rv A1 => ?_⟩
  refine ⟨T1, env, h1, q1, relE_mono l1 r1.mut r2, A1.bind q1.mut fun ds h2 T2 H2 vs e' l2 q2 rvs A2 => ?_⟩
  split at A2
  · rename_i xs i j
    split at A2
    · rename_i hb
      rw [Bool.and_eq_true] at hb
      obtain ⟨v1, v2, rfl, w1, w2⟩ := rels_two rvs
      rw [rel_int_iff] at w1 w2
      subst w1 w2
      refine ⟨i, j, rfl, fun r hr => ?_⟩
      have A3 := A2.later (Le.new (o := .rng i j) hr) q2.mut
      have q3 := q2.new (o := .rng i j) hr
      have rv2 := rel_mono (l2.trans q1.mut (Le.new (o := .rng i j) hr)) q1.mut _ _ rv
      obtain ⟨p1, rfl, s1⟩ := tup_stay q3 rv2
      obtain ⟨vs1, t1, w3⟩ := s1 T2 _ Le.refl
      have hl1 : vs1.length = xs.length := rels_length w3
      refine ⟨p1, r, vs1, i, j, rfl, t1, upd_same, ⟨(inB_iff hb.1).1, (inB_iff hb.1).2, (inB_iff hb.2).1, (inB_iff hb.2).2⟩, A3.done q3 ?_⟩
      have hil : (intsL i (j - i).toNat).length = (j - i).toNat := by unfold intsL; simp
      refine ⟨_, _, by rw [zipD_len, ← hl1, hil]; exact wk_zipR, fun T3 H3 h3 l3 r3 hc => ?_, fun k H3 x H' hi y T3 h3 l3 r3 hc => ?_⟩
      · obtain ⟨ws1, t1, r1⟩ := s1 T3 H3 l3
        exact ⟨ws1, by rw [rels_length r1, hl1], t1⟩
      · obtain ⟨ws1, t1, w1⟩ := s1 T3 H3 l3
        obtain ⟨T', x', rfl, hp, rfl, y1⟩ := y
        obtain ⟨d1, g1, k1⟩ := rels_back w1 (y1 _ t1)
        rw [zipD_len, hil] at hi
        have g2 : (intsL i (j - i).toNat)[k]? = some (.int (i + (k : Nat))) := by
          unfold intsL
          rw [List.getElem?_map, List.getElem?_range (by omega)]
          rfl
        obtain ⟨z1, z2, z3⟩ := Le.tup r3 hp (rels_cons k1 (rels_cons (rel_int_iff.mpr rfl) rels_nil)) rfl
        exact ⟨_, zipD_get g1 g2, z1, z2, z3⟩
    · exact A2.elim
  · exact A2.elim
end
section
variable {f : Ex} {g : Exs} {env : En} {h : HH} {e : String → HH → Prop} {qi : IT → HH → Prop}
def zpR (d : D) (es : List D) : Option IT := match d, es with
  | .tup xs, [.int i, .int j] => if (inB i && inB j) = true then some ⟨zipD xs (intsL i (j - i).toNat), []⟩ else none
  | _, _ => none
@[simp ↓] theorem wp_iZipR : Wp qi e (iZipR f g env h) ↔ Wp (fun d h1 => Wp (fun es h2 => Wo (fun x => qi x h2) (zpR d es)) e (g env h1)) e (f env h) := by
  unfold iZipR
  rw [wp_bind]
  refine wp_congr fun d h1 => ?_
  rw [wp_bind]
  refine wp_congr fun es h2 => ?_
  unfold zpR
  split
  · split
    · exact Iff.rfl
    · exact Iff.rfl
  · exact Iff.rfl
end
end Pu

namespace Pu
open PySem PySem.Spec PyProof.Rows L2

/-! ### for k in d, d a dict that changes: it stands still while the loop runs -/
def unS (j : Nat) (kvs : List (Ky × D)) : S → S
  | .next env h => .next env (h.set j (.dic kvs))
  | .ret d h => .ret d (h.set j (.dic kvs))
  | .brk env h => .brk env (h.set j (.dic kvs))
  | .cont env h => .cont env (h.set j (.dic kvs))
  | .exc c env h => .exc c env h
  | .stuck => .stuck
def sForD (i : Nat) (g : Tg) (fb : Sx) : Sx := fun env h => match env[i]? with
  | some (some (.ref j)) => match h[j]? with
    | some (.dic kvs) => unS j kvs (forGo [] g fb (kvs.map fun p => kD p.1) env (h.set j (.lkd kvs)))
    | _ => .stuck
  | _ => .stuck
section
variable {K : PySem.W.Frag} {mg : Str → Option Value} {W : WX} {T T' : Tk} {H H' : Hp} {h : HH}
theorem Le.unlk {d : Addr} {od : Obj} {vs : List (Key × V)} (l : Le T (upd H d (.frz od (.dK vs))) T' H') (hd : H d = some (.dK vs)) (hl : d ∈ T.L) : Le T H T' (upd H' d (.dK vs)) := by
  have ne : ∀ a, a ≠ d → upd H d (.frz od (.dK vs)) a = H a := fun a n => upd_ne n
  have free : ∀ a, upd H d (.frz od (.dK vs)) a = none → H a = none := fun a e => by
    by_cases z : a = d
    · rw [z, upd_same] at e; cases e
    · rwa [ne a z] at e
  refine ⟨l.pre, l.more, fun a q => (l.fresh a q).imp id (free a), fun a q => (l.freshL a q).imp id (free a), fun a o e n ht => ?_, fun a ps e n => ?_, l.tq, fun a q xs e => ?_⟩
  · have z : a ≠ d := fun z => n (z ▸ hl)
    rw [upd_ne z]
    exact l.keep a o (by rw [ne a z]; exact e) n ht
  · have z : a ≠ d := fun z => n (z ▸ hl)
    rw [upd_ne z]
    exact l.kt a ps (by rw [ne a z]; exact e) n
  · have z : a ≠ d := fun z => by rw [z, hd] at e; cases e
    rw [upd_ne z]
    exact l.lk a q xs (by rw [ne a z]; exact e)
/-- the ends of what runs while d stands still -/
def lkE (d : Addr) (od : Obj) (u : HO) (D : Ends) : Ends :=
  ⟨fun σ' H' => H' d = some (.frz od u) ∧ D.nx σ' (upd H' d u), fun v H' => H' d = some (.frz od u) ∧ D.rt v (upd H' d u), fun σ' H' => H' d = some (.frz od u) ∧ D.bk σ' (upd H' d u), fun σ' H' => H' d = some (.frz od u) ∧ D.ct σ' (upd H' d u)⟩
theorem unS_after {E : Ends} {j : Nat} {kvs : List (Ky × D)} {s : S} {d : Addr} {od : Obj} {vs : List (Key × V)} (a : AfterS K mg W T H E (unS j kvs s)) (m : Mu T H) (hd : H d = some (.dK vs)) (hj : T.L[j]? = some d) (rk : relk K T H kvs vs) :
    AfterS K mg W T (upd H d (.frz od (.dK vs))) (lkE d od (.dK vs) E) s := by
  have hl : d ∈ T.L := List.mem_of_getElem? hj
  have st : ∀ {T' H'}, Le T (upd H d (.frz od (.dK vs))) T' H' → H' d = some (.frz od (.dK vs)) := fun l => l.lk d od vs upd_same
  have rh : ∀ {T' H' h'}, Le T (upd H d (.frz od (.dK vs))) T' H' → RelH K T' H' h' → RelH K T' (upd H' d (.dK vs)) (h'.set j (.dic kvs)) := fun l r =>
    r.wr (l.get hj) LD.dK ⟨vs, upd_same, relk_mono (l.unlk hd hl) m _ _ rk⟩
  have bl : ∀ {T' H' h'}, Le T (upd H d (.frz od (.dK vs))) T' H' → RelH K T' H' h' → T'.B d := fun l r => r.sub d (List.mem_of_getElem? (l.get hj))
  cases s with
  | next env h' => exact fun T' H' σ l r e => ⟨st l, a T' _ σ (l.unlk hd hl) (rh l r) (relE_bw r.mut (bl l r) e)⟩
  | brk env h' => exact fun T' H' σ l r e => ⟨st l, a T' _ σ (l.unlk hd hl) (rh l r) (relE_bw r.mut (bl l r) e)⟩
  | cont env h' => exact fun T' H' σ l r e => ⟨st l, a T' _ σ (l.unlk hd hl) (rh l r) (relE_bw r.mut (bl l r) e)⟩
  | ret x h' => exact fun T' H' v l r q => ⟨st l, a T' _ v (l.unlk hd hl) (rh l r) (rel_bw r.mut (bl l r) x v q)⟩
  | exc c env h' => exact fun C T' H' σ hm l r e => a C T' H' σ hm ((Le.wr hl (by intro _ _ z; rw [hd] at z; cases z)).trans m l) r e
  | stuck => exact a
theorem rel_kD (k : Ky) : rel K T H (kD k) (toV k) := by
  cases k with
  | inl i => exact rel_int_iff.mpr rfl
  | inr s => unfold kD rel; rfl
end
section
variable {X : Cx} {W : WX} {k : Nat}
theorem ss_forD (C : Cok X W k) {tg : Expr} {x : Str} {i : Nat} {body : List Stmt} {g : Tg} {fb : Sx} {vs : List Nat} {p pos : Pos} (hN : X.N[i]? = some x) (hv : Vis X.env.scope x) (hg : SG X tg vs g) (hb : SB X W body fb)
    (hs : ∀ y, foldedSetIterable (.Name x p) X.env y = pure y := by intro _; rfl) (hd : (x == ("__debug__" : Str)) = false := by decide) (hcd : (x == ("__classdict__" : Str)) = false := by decide) :
    SS X W (.For tg (.Name x p) body [] pos) (sForD i g fb) := PS.mono (ps_lock (ps_for C.po C.calm (pi_keys (pe_var hN hv hd hcd)) hg hb hs)) fun E σ H hh => by
  obtain ⟨T, env, h, r1, r2, a⟩ := hh
  unfold sForD at a
  split at a
  · rename_i j e1
    split at a
    · rename_i kvs e2
      obtain ⟨v, e3, q⟩ := r2.2 i _ e1
      unfold rel at q
      obtain ⟨d, rfl, hj⟩ := q
      obtain ⟨d', hj', ks, hd, rk⟩ := r1.at_ j _ e2
      rw [hj] at hj'
      cases hj'
      have hl : d ∈ T.L := List.mem_of_getElem? hj
      have nf : ∀ q xs, H d ≠ some (.frz q (.dK xs)) := by intro _ _ z; rw [hd] at z; cases z
      refine ⟨d, .dK ks, hd, trivial, fun od => ?_⟩
      have b := unS_after (od := od) a r1.mut hd hj rk
      have lw : Le T H T (upd H d (.frz od (.dK ks))) := Le.wr hl nf
      have rw1 : RelH X.K T (upd H d (.frz od (.dK ks))) (h.set j (.lkd kvs)) := r1.wr hj LD.lk ⟨ks, ⟨od, upd_same⟩, relk_mono lw r1.mut _ _ rk⟩
      have kl : (kvs.map fun p => kD p.1).length = ks.length := by rw [List.length_map, relk_length rk]
      refine ⟨.ref d, e3, d, od, rfl, .inl ⟨ks, upd_same, ?_⟩⟩
      refine for_it walk_keys (fun i σ H2 => ∃ T2 env2 h2, RelH X.K T2 H2 h2 ∧ relE X.K T2 H2 env2 σ ∧ Le T (upd H d (.frz od (.dK ks))) T2 H2 ∧ AfterS X.K X.mg W T2 H2 (lkE d od (.dK ks) E) (forGo [] g fb ((kvs.map fun p => kD p.1).drop i) env2 h2)) ?_ ?_ ?_ ?_
      · exact ⟨T, env, _, rw1, relE_mono lw r1.mut r2, Le.refl, by rw [List.drop_zero]; exact b⟩
      · rintro i σ H hi ⟨T2, env2, h2, r, e, l, a⟩
        exact l.lk d od ks upd_same
      · rintro i x σ H2 H3 hi ⟨T2, env2, h2, r, e, l, a⟩ ⟨rfl, k, v, hk, rfl⟩
        have hi2 : i < (kvs.map fun p => kD p.1).length := by rw [kl]; exact hi
        rw [List.drop_eq_getElem_cons hi2] at a
        unfold forGo at a
        rw [if_pos (show chkOk h2 [] = true from rfl)] at a
        obtain ⟨env1, e1, a⟩ := a.ofOS
        have hik : i < kvs.length := by rw [List.length_map] at hi2; exact hi2
        have ek : kV k = toV kvs[i].1 := by
          have := congrArg (fun l => l[i]?) (relk_keys rk)
          simp only [List.getElem?_map, hk, Option.map_some, List.getElem?_eq_getElem hik] at this
          exact Option.some.inj this
        have rd : rel X.K T2 H3 (kvs.map fun p => kD p.1)[i] (kV k) := by
          rw [List.getElem_map, ek]; exact rel_kD _
        refine ⟨T2, env2, h2, _, env1, r, e, rd, e1, fun σ' r3 _ => ⟨T2, env1, h2, r, r3, ?_⟩⟩
        revert a
        cases fb env1 h2 with
        | next env' h' => exact fun a T' H2 σ2 l4 r4 e4 => ⟨T', env', h', r4, e4, l.trans rw1.mut l4, AfterS.later (r := forGo [] g fb ((kvs.map fun p => kD p.1).drop (i + 1)) env' h') a l4 r.mut⟩
        | cont env' h' => exact fun a T' H2 σ2 l4 r4 e4 => ⟨T', env', h', r4, e4, l.trans rw1.mut l4, AfterS.later (r := forGo [] g fb ((kvs.map fun p => kD p.1).drop (i + 1)) env' h') a l4 r.mut⟩
        | brk env' h' => exact fun a => a
        | ret d h' => exact fun a => a
        | exc c env' h' => exact fun a => a
        | stuck => exact fun a => a
      · rintro σ H2 ⟨T2, env2, h2, r, e, l, a⟩
        rw [← kl, List.drop_length] at a
        unfold forGo at a
        rw [if_pos (show chkOk h2 [] = true from rfl)] at a
        exact a.next r e
    · exact a.elim
  · exact a.elim
end
/-! ### what it comes to -/
def Kun (j : Nat) (kvs : List (Ky × D)) (K : Ks) : Ks := ⟨fun env h => K.nx env (h.set j (.dic kvs)), fun d h => K.rt d (h.set j (.dic kvs)), fun env h => K.bk env (h.set j (.dic kvs)), fun env h => K.ct env (h.set j (.dic kvs)), K.ex⟩
theorem wb_unS {j : Nat} {kvs : List (Ky × D)} {K : Ks} {s : S} : Wb K (unS j kvs s) ↔ Wb (Kun j kvs K) s := by cases s <;> exact Iff.rfl
theorem wb_sForD {i j : Nat} {g : Tg} {fb : Sx} {env : En} {h : HH} {kvs : List (Ky × D)} {K : Ks} (e1 : env[i]? = some (some (.ref j))) (e2 : h[j]? = some (.dic kvs)) :
    Wb K (sForD i g fb env h) ↔ Wb (Kun j kvs K) (forGo [] g fb (kvs.map fun p => kD p.1) env (h.set j (.lkd kvs))) := by
  unfold sForD
  rw [e1]
  dsimp only
  rw [e2]
  exact wb_unS
/-- told behind, or an exception ahead of all that is made -/
theorem wp_fE {F : Fn} {ds : List D} {h : HH} {Q : D → HH → Prop} {E : String → HH → Prop} (hh : h.all (clO 0) = true) (w : Wp (FzP h Q) (fun c h' => h' = h ∧ E c h) (F ds h)) : Wp Q E (fzF F ds h) := by
  revert w
  unfold fzF
  cases F ds h with
  | ok d h' =>
    rintro ⟨h1, g, rfl, hl, hp, hd, q⟩
    have ht : (h1 ++ g).take h.length = h1 := by rw [List.take_append_of_le_length (by omega), ← hl, List.take_length]
    have w := wp_of (q := Q) (e := E) (fzF_pure (F := fun _ _ => .ok d (h1 ++ g)) (ds := ds) rfl hl hp hd) q
    unfold fzF at w
    exact w
  | exc c h' =>
    rintro ⟨rfl, q⟩
    dsimp only
    rw [if_pos ⟨Nat.le_refl _, by rw [List.take_length]; exact all_pure hh⟩, List.take_length]
    exact q
  | stuck => exact fun w => w
end Pu

namespace Pu
open PySem PySem.Spec PyProof.Rows L2

/-! ### len(set(xs)), xs unlike whole numbers -/
def eLenSet (f : Ex) : Ex := fun env h => (f env h).bind fun d h1 => ofO (itemsL h1 d) fun xs => ofO (intsD xs) fun ns => if ns.Nodup ∧ ns.length ≤ 4000 then .ok (.int (ns.length : Nat)) h1 else .stuck
section
variable {X : Cx} {W : WX} {k : Nat}
theorem se_lenSet (C : Cok X W k) {a : Expr} {f : Ex} {p p2 q pos : Pos} (hg : Gl X "len") (hm : X.mg "len" = none) (hg2 : Gl X "set") (hm2 : X.mg "set" = none) (ha : SE X W a f)
    (na : starEach [a] X.env = (false, eval a X.env) :: starEach [] X.env := by rfl) : SE X W (.Call (.Name "len" p) [.Call (.Name "set" p2) [a] [] q] [] pos) (eLenSet f) := PE.mono (RZ.pe_lenSetI hg hm hg2 hm2 ha C.calm na) fun σ H Q hh => by
  obtain ⟨T, env, h, r1, r2, a⟩ := hh
  refine ⟨T, env, h, r1, r2, a.bind r1.mut fun d h1 T1 H1 v _ l1 q1 rv a1 => ?_⟩
  obtain ⟨xs, e1, a1⟩ := a1.ofO
  obtain ⟨ns, e2, a1⟩ := a1.ofO
  split at a1
  · rename_i hc
    obtain ⟨l, rfl, s⟩ := itemsL_stay q1 rv e1
    obtain ⟨vs, t, w⟩ := s T1 H1 h1 Le.refl q1 (chkOk_self e1)
    have ev := rels_ints w e2
    subst ev
    exact ⟨l, ns, rfl, t, hc.1, hc.2, a1.done q1 (rel_int_iff.mpr rfl)⟩
  · exact a1.elim
end
section
variable {f : Ex} {env : En} {h : HH} {q : D → HH → Prop} {e : String → HH → Prop}
@[simp ↓] theorem wp_eLenSet : Wp q e (eLenSet f env h) ↔ Wp (fun d h1 => Wo (fun xs => Wo (fun ns => (ns.Nodup ∧ ns.length ≤ 4000) ∧ q (.int (ns.length : Nat)) h1) (intsD xs)) (itemsL h1 d)) e (f env h) := by
  unfold eLenSet
  rw [wp_bind]
  refine wp_congr fun d h1 => ?_
  exact wp_wo fun xs => wp_wo fun ns => wp_if
end
end Pu

namespace Pu
open PySem PySem.Spec PyProof.Rows L2

/-! ### list(zip(a, b)): the tuples that were given out stay -/
section
variable {prog : Program} {w : World} {A : Around} {E : Value → Shared → Prop} {s : Shared} {z TI TO i1 i2 T : Addr} {fp1 fp2 : List Addr} {n1 n2 i : Nat} {P1 P2 : Nat → Value → Prop} {St1 St2 : Nat → Heap → Prop} {f : Bool} {oT : Obj}
theorem held_next_item {Q : Value → Shared → Prop} (S : ZipSep2 z TI TO i1 i2 fp1 fp2) (D1 : PySem.Draws prog w A i1 fp1 n1 P1 St1) (D2 : PySem.Draws prog w A i2 fp2 n2 P2 St2)
    (hz : IsZipHeld s.heap z TI TO T f) (hT : s.heap.get? T = some oT) (hTI : IsTupOf2 s.heap TI (.ref i1) (.ref i2)) (st1 : St1 i s.heap) (st2 : St2 i s.heap) (hlt1 : i < n1) (hlt2 : i < n2)
    (hQ : ∀ x1 x2 h' tk, P1 i x1 → P2 i x2 → IsZipHeld h' z TI TO T true → St1 (i + 1) h' → St2 (i + 1) h' → IsTupOf2 h' s.heap.objs.size x1 x2 → h'.objs.size = s.heap.objs.size + 1 →
      (∀ c o, c ≠ z → c ≠ i1 → c ≠ i2 → s.heap.get? c = some o → h'.get? c = some o) → Q (.ref s.heap.objs.size) { s with heap := h', toks := tk }) :
    wpAny (model prog w) A (Builtin.«zip.__next__» ⟨[.ref z], []⟩) (fun fin s' => ∃ v, fin = .done (.ret v) ∧ Q v s') E s := by
  obtain ⟨hp, g, d, tk0, os⟩ := s
  show wpAny _ _ (field (.ref z) 2 >>= _) _ _ _
  refine wpAny_bind (wpAny_field hz rfl (x := .bool false) rfl ?_)
  show wpAny _ _ (field (.ref z) 3 >>= _) _ _ _
  refine wpAny_bind (wpAny_field hz rfl (x := .ref TI) rfl ?_)
  refine wpAny_bind (wpAny_seqItems hTI rfl ?_)
  show wpAny _ _ (Builtin.SmallTypes.ownedTupleIsFree (.ref z) >>= _) _ _ _
  refine wpAny_bind (wpAny_tupleHeld_zip hz hT fun g0 hz0 hs0 => ?_)
  replace hs0 : Heap.SameBut z hp g0 := hs0
  simp only [Bool.false_eq_true, if_false]
  refine wpAny_bind ?_
  rw [← Array.forIn_toList]
  simp only [List.forIn_cons, List.forIn_nil]
  refine wpAny_bind (wpAny_bind (wpAny_holding ?_))
  show wpAny _ _ (Builtin.SmallTypes.nextOf (.ref i1) >>= _) _ _ ⟨g0, g, d, tk0, os⟩
  refine wpAny_bind (D1.item i _ _ _ hlt1 (D1.over st1 hs0 S.zf1) fun x1 p1 tk1 hx1 sn1 hp1 => wpAny_pure ?_)
  replace hp1 : Heap.SameBut i1 g0 p1 := hp1
  refine wpAny_pure ?_
  refine wpAny_bind (wpAny_bind (wpAny_holding ?_))
  show wpAny _ _ (Builtin.SmallTypes.nextOf (.ref i2) >>= _) _ _ ⟨p1, g, d, tk1, os⟩
  refine wpAny_bind (D2.item i _ _ _ hlt2 (D2.over (D2.over st2 hs0 S.zf2) hp1 S.sep1_2) fun x2 p2 tk2 hx2 sn2 hp2 => wpAny_pure ?_)
  replace hp2 : Heap.SameBut i2 p1 p2 := hp2
  refine wpAny_pure (wpAny_pure ?_)
  show wpAny _ _ (newTuple [x1, x2] >>= _) _ _ _
  refine wpAny_bind (wpAny_newTuple ?_)
  have hsz : p2.objs.size = hp.objs.size := by rw [hp2.1, hp1.1, hs0.1]
  have hz3 : IsZipHeld p2 z TI TO T true := hp2.extBut _ _ S.zi2 (hp1.extBut _ _ S.zi1 hz0)
  have hk : ∀ c o, c ≠ z → c ≠ i1 → c ≠ i2 → hp.get? c = some o → p2.get? c = some o := fun c o c1 c2 c3 e => hp2.extBut _ _ c3 (hp1.extBut _ _ c2 (hs0.extBut _ _ c1 e))
  have sn1' : St1 (i + 1) p2 := D1.over sn1 hp2 S.sep2_1
  refine wpAny_pure ⟨_, rfl, ?_⟩
  show Q (.ref p2.objs.size) ⟨p2.push { cls := .type "tuple", data := .seq #[x1, x2] }, g, d, tk2, os⟩
  have hp' : IsTupOf2 (p2.push { cls := .type "tuple", data := .seq #[x1, x2] }) p2.objs.size x1 x2 := Heap.get?_push_size _ rfl
  have hz4 : (p2.push { cls := .type "tuple", data := .seq #[x1, x2] }).objs.size = p2.objs.size + 1 := Heap.size_push ..
  rw [hsz] at hp' hz4 ⊢
  exact hQ x1 x2 _ tk2 hx1 hx2 (Heap.get?_push_of_some _ hz3) (D1.frame _ _ _ sn1' fun b hb o e => Heap.get?_push_of_some _ e) (D2.frame _ _ _ sn2 fun b hb o e => Heap.get?_push_of_some _ e) hp' hz4 fun c o c1 c2 c3 e => Heap.get?_push_of_some _ (hk c o c1 c2 c3 e)
theorem held_next_end {Q : Fin → Shared → Prop} (S : ZipSep2 z TI TO i1 i2 fp1 fp2) (D1 : PySem.Draws prog w A i1 fp1 n1 P1 St1) (D2 : PySem.Draws prog w A i2 fp2 n2 P2 St2)
    (hz : IsZipHeld s.heap z TI TO T f) (hT : s.heap.get? T = some oT) (hTI : IsTupOf2 s.heap TI (.ref i1) (.ref i2)) (st1 : St1 i s.heap) (st2 : St2 i s.heap) (hle1 : i ≤ n1) (hle2 : i ≤ n2) (hend : i = n1 ∨ i = n2)
    (hE : ∀ h' tk e, (∀ c o, c ≠ z → c ≠ i1 → c ≠ i2 → s.heap.get? c = some o → h'.get? c = some o) → (∃ o, h'.get? e = some o ∧ o.cls = .type "StopIteration") → E (.ref e) { s with heap := h', toks := tk }) :
    wpAny (model prog w) A (Builtin.«zip.__next__» ⟨[.ref z], []⟩) Q E s := by
  obtain ⟨hp, g, d, tk0, os⟩ := s
  show wpAny _ _ (field (.ref z) 2 >>= _) _ _ _
  refine wpAny_bind (wpAny_field hz rfl (x := .bool false) rfl ?_)
  show wpAny _ _ (field (.ref z) 3 >>= _) _ _ _
  refine wpAny_bind (wpAny_field hz rfl (x := .ref TI) rfl ?_)
  refine wpAny_bind (wpAny_seqItems hTI rfl ?_)
  show wpAny _ _ (Builtin.SmallTypes.ownedTupleIsFree (.ref z) >>= _) _ _ _
  refine wpAny_bind (wpAny_tupleHeld_zip hz hT fun g0 hz0 hs0 => ?_)
  replace hs0 : Heap.SameBut z hp g0 := hs0
  simp only [Bool.false_eq_true, if_false]
  refine wpAny_bind ?_
  rw [← Array.forIn_toList]
  simp only [List.forIn_cons, List.forIn_nil]
  refine wpAny_bind (wpAny_bind (wpAny_holding ?_))
  show wpAny _ _ (Builtin.SmallTypes.nextOf (.ref i1) >>= _) _ _ ⟨g0, g, d, tk0, os⟩
  by_cases hlt1 : i < n1
  · refine wpAny_bind (D1.item i _ _ _ hlt1 (D1.over st1 hs0 S.zf1) fun x1 p1 tk1 hx1 sn1 hp1 => wpAny_pure ?_)
    replace hp1 : Heap.SameBut i1 g0 p1 := hp1
    refine wpAny_pure ?_
    have hi2 : i = n2 := by omega
    refine wpAny_bind (wpAny_bind (wpAny_holding ?_))
    show wpAny _ _ (Builtin.SmallTypes.nextOf (.ref i2) >>= _) _ _ ⟨p1, g, d, tk1, os⟩
    refine wpAny_bind (D2.done ⟨p1, g, d, tk1, os⟩ _ _ (by rw [← hi2]; exact (D2.over (D2.over st2 hs0 S.zf2) hp1 S.sep1_2)) fun q e hq he => ?_)
    replace hq : Heap.ExtBut i2 p1 q := hq
    exact hE q tk1 e (fun c o cz c1 c2 x => hq _ _ c2 (hp1.extBut _ _ c1 (hs0.extBut _ _ cz x))) he
  · have hi1 : i = n1 := by omega
    refine wpAny_bind (D1.done ⟨g0, g, d, tk0, os⟩ _ _ (by rw [← hi1]; exact (D1.over st1 hs0 S.zf1)) fun q e hq he => ?_)
    replace hq : Heap.ExtBut i1 g0 q := hq
    exact hE q tk0 e (fun c o cz c1 c2 x => hq _ _ c1 (hs0.extBut _ _ cz x)) he
theorem pyNext_held_item {Q : Option Value → Shared → Prop} (S : ZipSep2 z TI TO i1 i2 fp1 fp2) (D1 : PySem.Draws prog w A.in1 i1 fp1 n1 P1 St1) (D2 : PySem.Draws prog w A.in1 i2 fp2 n2 P2 St2)
    (hz : IsZipHeld s.heap z TI TO T f) (hT : s.heap.get? T = some oT) (hTI : IsTupOf2 s.heap TI (.ref i1) (.ref i2)) (st1 : St1 i s.heap) (st2 : St2 i s.heap) (hlt1 : i < n1) (hlt2 : i < n2)
    (hQ : ∀ x1 x2 h' tk, P1 i x1 → P2 i x2 → IsZipHeld h' z TI TO T true → St1 (i + 1) h' → St2 (i + 1) h' → IsTupOf2 h' s.heap.objs.size x1 x2 → h'.objs.size = s.heap.objs.size + 1 →
      (∀ c o, c ≠ z → c ≠ i1 → c ≠ i2 → s.heap.get? c = some o → h'.get? c = some o) → Q (some (.ref s.heap.objs.size)) { s with heap := h', toks := tk }) :
    wpAny (model prog w) A (pyNext (.ref z)) Q E s := by
  have hTy : s.TypeIs (.ref z) "zip" := ⟨_, hz, rfl⟩
  unfold pyNext
  exact wpAny_bind (wpAny_attempt (wpAny_callSpecial?_slot (name := Str.ofString "__next__") hTy F.slot_zip_next
    (wpAny_call_entry F.slot_zip_next hTy F.entry_zip_next
      (held_next_item S D1 D2 hz hT hTI st1 st2 hlt1 hlt2 fun x1 x2 h' tk y1 y2 b1 d1 d2 b5 b6 b7 => wpAny_pure (hQ x1 x2 h' tk y1 y2 b1 d1 d2 b5 b6 b7)) (F.args_zip_next_1 _))))
theorem pyNext_held_end {Q : Option Value → Shared → Prop} (S : ZipSep2 z TI TO i1 i2 fp1 fp2) (D1 : PySem.Draws prog w A.in1 i1 fp1 n1 P1 St1) (D2 : PySem.Draws prog w A.in1 i2 fp2 n2 P2 St2)
    (hz : IsZipHeld s.heap z TI TO T f) (hT : s.heap.get? T = some oT) (hTI : IsTupOf2 s.heap TI (.ref i1) (.ref i2)) (st1 : St1 i s.heap) (st2 : St2 i s.heap) (hle1 : i ≤ n1) (hle2 : i ≤ n2) (hend : i = n1 ∨ i = n2)
    (hQ : ∀ h' tk, (∀ c o, c ≠ z → c ≠ i1 → c ≠ i2 → s.heap.get? c = some o → h'.get? c = some o) → Q none { s with heap := h', toks := tk }) : wpAny (model prog w) A (pyNext (.ref z)) Q E s := by
  have hTy : s.TypeIs (.ref z) "zip" := ⟨_, hz, rfl⟩
  unfold pyNext
  refine wpAny_bind (wpAny_attempt (wpAny_callSpecial?_slot (name := Str.ofString "__next__") hTy F.slot_zip_next
    (wpAny_call_entry F.slot_zip_next hTy F.entry_zip_next (held_next_end S D1 D2 hz hT hTI st1 st2 hle1 hle2 hend fun h' tk e hk he => ?_) (F.args_zip_next_1 _))))
  obtain ⟨o, ho, hc⟩ := he
  refine wpAny_bind (wpAny_isInstance (T := "StopIteration") (b := true) ⟨o, ho, hc⟩ isSubtype_stop ?_)
  exact wpAny_pure (hQ _ _ hk)
/-- a zip, its tuples kept by others -/
structure ZSt (z TI TO i1 i2 : Addr) (St1 St2 : Nat → Heap → Prop) (L : Addr) (i : Nat) (h : Heap) : Prop where
  ti : IsTupOf2 h TI (.ref i1) (.ref i2)
  s1 : St1 i h
  s2 : St2 i h
  out : (IsZip h z TI TO .none ∧ ∃ a b, IsTupOf2 h TO a b) ∨ ∃ T f oT, IsZipHeld h z TI TO T f ∧ h.get? T = some oT ∧ T ≠ z ∧ T ≠ TO ∧ T ≠ i1 ∧ T ≠ i2 ∧ T ≠ L
theorem zst_item {L : Addr} {Q : Option Value → Shared → Prop} (S : ZipSep2 z TI TO i1 i2 fp1 fp2) (D1 : PySem.Draws prog w A.in1 i1 fp1 n1 P1 St1) (D2 : PySem.Draws prog w A.in1 i2 fp2 n2 P2 St2)
    (Z : ZSt z TI TO i1 i2 St1 St2 L i s.heap) (hL : L < s.heap.objs.size) (hlt1 : i < n1) (hlt2 : i < n2)
    (hQ : ∀ x1 x2 h' tk, P1 i x1 → P2 i x2 → ZSt z TI TO i1 i2 St1 St2 L (i + 1) h' → IsTupOf2 h' s.heap.objs.size x1 x2 → 
      (∀ c o, c ∉ [z, TO, i1, i2] → s.heap.get? c = some o → h'.get? c = some o) → Q (some (.ref s.heap.objs.size)) { s with heap := h', toks := tk }) :
    wpAny (model prog w) A (pyNext (.ref z)) Q E s := by
  have lt : ∀ {c o}, s.heap.get? c = some o → s.heap.objs.size ≠ c := fun e => Nat.ne_of_gt (Heap.lt_size e)
  have l1 : s.heap.objs.size ≠ i1 := by obtain ⟨_, e⟩ := D1.live _ _ Z.s1; exact lt e
  have l2 : s.heap.objs.size ≠ i2 := by obtain ⟨_, e⟩ := D2.live _ _ Z.s2; exact lt e
  rcases Z.out with ⟨hz, a, b, hTO⟩ | ⟨T, f, oT, hz, hT, r1, r2, r3, r4, r5⟩
  · refine wpAny_pyNext_zipD2_item S D1 D2 hz Z.ti hTO Z.s1 Z.s2 hlt1 hlt2 fun x1 x2 h' tk y1 y2 b1 b2 d1 d2 b5 b6 hk => ?_
    exact hQ x1 x2 h' tk y1 y2 ⟨hk _ _ S.TIz S.TITO S.TIi1 S.TIi2 Z.ti, d1, d2, .inr ⟨s.heap.objs.size, false, _, b1, b5, lt hz, lt hTO, l1, l2, Nat.ne_of_gt hL⟩⟩ b5
      fun c o hc e => hk c o (fun q => hc (by simp [q])) (fun q => hc (by simp [q])) (fun q => hc (by simp [q])) (fun q => hc (by simp [q])) e
  · refine pyNext_held_item S D1 D2 hz hT Z.ti Z.s1 Z.s2 hlt1 hlt2 fun x1 x2 h' tk y1 y2 b1 d1 d2 b5 b6 hk => ?_
    exact hQ x1 x2 h' tk y1 y2 ⟨hk _ _ S.TIz S.TIi1 S.TIi2 Z.ti, d1, d2, .inr ⟨T, true, oT, b1, hk _ _ r1 r3 r4 hT, r1, r2, r3, r4, r5⟩⟩ b5
      fun c o hc e => hk c o (fun q => hc (by simp [q])) (fun q => hc (by simp [q])) (fun q => hc (by simp [q])) e
theorem zst_end {L : Addr} {Q : Option Value → Shared → Prop} (S : ZipSep2 z TI TO i1 i2 fp1 fp2) (D1 : PySem.Draws prog w A.in1 i1 fp1 n1 P1 St1) (D2 : PySem.Draws prog w A.in1 i2 fp2 n2 P2 St2)
    (Z : ZSt z TI TO i1 i2 St1 St2 L i s.heap) (hle1 : i ≤ n1) (hle2 : i ≤ n2) (hend : i = n1 ∨ i = n2)
    (hQ : ∀ h' tk, (∀ c o, c ∉ [z, TO, i1, i2] → s.heap.get? c = some o → h'.get? c = some o) → Q none { s with heap := h', toks := tk }) : wpAny (model prog w) A (pyNext (.ref z)) Q E s := by
  rcases Z.out with ⟨hz, a, b, hTO⟩ | ⟨T, f, oT, hz, hT, r1, r2, r3, r4, r5⟩
  · exact wpAny_pyNext_zipD2_end S D1 D2 hz Z.ti hTO Z.s1 Z.s2 hle1 hle2 hend fun h' tk hk => hQ h' tk fun c o hc e => hk c o (fun q => hc (by simp [q])) (fun q => hc (by simp [q])) (fun q => hc (by simp [q])) (fun q => hc (by simp [q])) e
  · exact pyNext_held_end S D1 D2 hz hT Z.ti Z.s1 Z.s2 hle1 hle2 hend fun h' tk hk => hQ h' tk fun c o hc e => hk c o (fun q => hc (by simp [q])) (fun q => hc (by simp [q])) (fun q => hc (by simp [q])) e
theorem zst_frame {L : Addr} {h h' : Heap} (S : ZipSep2 z TI TO i1 i2 fp1 fp2) (D1 : PySem.Draws prog w A i1 fp1 n1 P1 St1) (D2 : PySem.Draws prog w A i2 fp2 n2 P2 St2) (Z : ZSt z TI TO i1 i2 St1 St2 L i h)
    (h1 : L ∉ fp1) (h2 : L ∉ fp2) (hz : L ≠ z) (hI : L ≠ TI) (hO : L ≠ TO) (hk : ∀ c o, c ≠ L → h.get? c = some o → h'.get? c = some o) : ZSt z TI TO i1 i2 St1 St2 L i h' := by
  refine ⟨hk _ _ hI.symm Z.ti, D1.frame _ _ _ Z.s1 fun b hb o e => hk b o (fun q => h1 (q ▸ hb)) e, D2.frame _ _ _ Z.s2 fun b hb o e => hk b o (fun q => h2 (q ▸ hb)) e, ?_⟩
  rcases Z.out with ⟨hz', a, b, hTO⟩ | ⟨T, f, oT, hz', hT, r1, r2, r3, r4, r5⟩
  · exact .inl ⟨hk _ _ hz.symm hz', a, b, hk _ _ hO.symm hTO⟩
  · exact .inr ⟨T, f, oT, hk _ _ hz.symm hz', hk _ _ r5 hT, r1, r2, r3, r4, r5⟩
end
end Pu

namespace Pu
open PySem PySem.Spec PyProof.Rows L2

/-! ### list(zip(a, b)), a and b tuples -/
theorem zip_no_len : typeLookup (.type "zip") "__len__" = pure none := am_miss_of_fast (by decide +kernel)
theorem zip_no_hint : typeLookup (.type "zip") "__length_hint__" = pure none := am_miss_of_fast (by decide +kernel)
/-- what was laid: tuples at as, all else as it was -/
def LayZ (H0 : Hp) (L : Addr) (xs ys : List V) (as : List Addr) (H : Hp) : Prop := (∀ b o, H0 b = some o → H b = some o) ∧
  ∀ (j : Nat) (T : Addr), as[j]? = some T → H0 T = none ∧ T ≠ L ∧ ∃ x y o, xs[j]? = some x ∧ ys[j]? = some y ∧ H T = some (.frz o (.tup [x, y])) ∧ o.dict = none
section
variable {X : Cx} {pins : List (Addr × Obj)} {σ : L2.St} {H0 : Hp} {A : Around} {R : Result → Shared → Prop} {z TI TO i1 i2 L : Addr} {fp1 fp2 : List Addr} {n1 n2 : Nat} {P1 P2 : Nat → Value → Prop} {St1 St2 : Nat → Heap → Prop} {xs ys : List V} {res : Value}
theorem loop_zip (S : ZipSep2 z TI TO i1 i2 fp1 fp2) (D1 : PySem.Draws X.prog X.w A.in1.in1 i1 fp1 n1 P1 St1) (D2 : PySem.Draws X.prog X.w A.in1.in1 i2 fp2 n2 P2 St2)
    (hv1 : ∀ i u, P1 i u → ∃ x, xs[i]? = some x ∧ RelV x u) (hv2 : ∀ i u, P2 i u → ∃ x, ys[i]? = some x ∧ RelV x u) (hn : min n1 n2 + 1 ≤ sizeLine)
    (L1 : L ∉ fp1) (L2 : L ∉ fp2) (Lz : L ≠ z) (LI : L ≠ TI) (LO : L ≠ TO)
    (hR : ∀ s' H' as', Inv X pins σ H' s' → H' L = some (.lst (as'.map V.ref)) → as'.length = min n1 n2 → LayZ H0 L xs ys as' H' → R (.ok (.ret res)) s') :
    ∀ (k i : Nat) (s : Shared) (Hc : Hp) (as : List Addr) (c : Nat), min n1 n2 - i = k → i ≤ min n1 n2 → ZSt z TI TO i1 i2 St1 St2 L i s.heap → Inv X pins σ Hc s → (∀ b ∈ [z, TO, i1, i2], FpOk X pins Hc b ∧ b < s.heap.objs.size ∧ b ≠ L) →
    Hc L = some (.lst (as.map V.ref)) → as.length = i → s.heap.get? L = some { cls := .type "list", data := .seq (as.map Value.ref).toArray c } → H0 L = none → LayZ H0 L xs ys as Hc →
    codeAny (model X.prog X.w) A (.builtin "list.extend.loop" ⟨[.ref L, .ref z, res], []⟩) R s := by
  intro k
  induction k with
  | zero =>
    intro i s Hc as c hk hi Z I hf hL hl hS h0 lay
    have hin : i = min n1 n2 := by omega
    refine codeAny_builtin F.entry_extend_loop ?_
    rw [Around.under_plainId F.plain_extend_loop _]
    show wpAny _ A.in1 (pyNext (.ref z) >>= _) _ _ s
    refine wpAny_bind (zst_end S D1 D2 Z (by omega) (by omega) (by omega) fun h' tk hk' => ?_)
    exact wpAny_pure (hR _ Hc as (I.turnedL (t' := tk) (ch := [z, TO, i1, i2]) hk' fun b hb => (hf b hb).1) hL (by omega) lay)
  | succ k ih =>
    intro i s Hc as c hk hi Z I hf hL hl hS h0 lay
    have hLs : L < s.heap.objs.size := Heap.lt_size hS
    refine codeAny_builtin F.entry_extend_loop ?_
    rw [Around.under_plainId F.plain_extend_loop _]
    show wpAny _ A.in1 (pyNext (.ref z) >>= _) _ _ s
    refine wpAny_bind (zst_item S D1 D2 Z hLs (by omega) (by omega) fun x1 x2 h' tk p1 p2 Z' hT hk' => ?_)
    obtain ⟨x, ex, rx⟩ := hv1 _ _ p1
    obtain ⟨y, ey, ry⟩ := hv2 _ _ p2
    have hTn : Hc s.heap.objs.size = none := I.hok.fresh (Nat.le_refl _)
    have hTL : s.heap.objs.size ≠ L := Nat.ne_of_gt hLs
    have I1 : Inv X pins σ (upd Hc s.heap.objs.size (.frz { cls := .type "tuple", data := .seq #[x1, x2] } (.tup [x, y]))) { s with heap := h', toks := tk } :=
      I.turnedNew (ch := [z, TO, i1, i2]) hk' (fun b hb => (hf b hb).1) (Nat.le_refl _) ⟨hT, by show 2 ≤ sizeLine; decide, [x1, x2], .cons rx (.cons ry .nil), ⟨_, hT, rfl, _, rfl⟩⟩
    have hLn : L ∉ [z, TO, i1, i2] := fun hm => (hf L hm).2.2 rfl
    have hS' := hk' L _ hLn hS
    have hL1 : (upd Hc s.heap.objs.size (.frz { cls := .type "tuple", data := .seq #[x1, x2] } (.tup [x, y]))) L = some (.lst (as.map V.ref)) := by rw [upd_ne hTL.symm]; exact hL
    have hz : ((as ++ [s.heap.objs.size]).map V.ref).length ≤ sizeLine := by simp; omega
    have hv : Vals ((as ++ [s.heap.objs.size]).map V.ref) ((as ++ [s.heap.objs.size]).map Value.ref) := by
      have : ∀ l : List Addr, Vals (l.map V.ref) (l.map Value.ref) := fun l => by
        induction l with
        | nil => exact .nil
        | cons a l ih => exact .cons rfl ih
      exact this _
    have hsz : h'.objs.size > s.heap.objs.size := Heap.lt_size hT
    have hpush : (as.map Value.ref).toArray.push (.ref s.heap.objs.size) = ((as ++ [s.heap.objs.size]).map Value.ref).toArray := by simp
    have I2 := I1.lset (t' := tk) (f := (·.push (.ref s.heap.objs.size))) hL1 hS' hpush hv hz
    obtain ⟨c2, hS2⟩ : ∃ c2, (h'.update L (Obj.mapSeq (·.push (.ref s.heap.objs.size)))).get? L = some { cls := .type "list", data := .seq ((as ++ [s.heap.objs.size]).map Value.ref).toArray c2 } := by
      rw [← hpush]
      exact ⟨_, PySem.IsL.update hS' _⟩
    show wpAny _ A.in1 (updateSeq L (·.push (.ref s.heap.objs.size)) >>= _) _ _ _
    refine wpAny_bind ?_
    refine wpAny_updateSeq hS' rfl (wpAny_pure ⟨plainId_quiet F.plain_extend_loop _, ih (i + 1) _ _ (as ++ [s.heap.objs.size]) c2 (by omega) (by omega) (zst_frame S D1 D2 Z' L1 L2 Lz LI LO fun b o hb e => (Heap.get?_update_other _ _ (Ne.symm hb)).trans e) I2 (fun b hb => ?_) upd_same (by simp; omega) hS2 h0 ⟨fun b o e => ?_, fun j T e => ?_⟩⟩) (by simp; omega) (by simp; omega)
    · obtain ⟨f1, f2, f3⟩ := hf b hb
      refine ⟨⟨?_, f1.2⟩, Nat.lt_of_lt_of_le (Nat.lt_trans f2 hsz) (by show h'.objs.size ≤ (h'.update L _).objs.size; rw [Heap.size_update]; exact Nat.le_refl _), f3⟩
      rw [upd_ne f3, upd_ne (Nat.ne_of_lt f2)]
      exact f1.1
    · have hb1 : b ≠ L := ne_of_none e h0
      have hb2 := lay.1 b o e
      rw [upd_ne hb1, upd_ne (ne_of_none hb2 hTn)]
      exact hb2
    · rcases Nat.lt_or_ge j as.length with hj | hj
      · rw [List.getElem?_append_left hj] at e
        obtain ⟨e1, e2, x', y', o, e3, e4, e5, e6⟩ := lay.2 j T e
        refine ⟨e1, e2, x', y', o, e3, e4, ?_, e6⟩
        rw [upd_ne e2, upd_ne (ne_of_none e5 hTn)]
        exact e5
      · have hji : j = as.length := by
          have := (List.getElem?_eq_some_iff.mp e).1
          simp at this
          omega
        rw [hji, List.getElem?_append_right (Nat.le_refl _)] at e
        simp at e
        subst e
        have h0T : H0 s.heap.objs.size = none := by
          cases q : H0 s.heap.objs.size with
          | none => rfl
          | some o => have := lay.1 _ _ q; rw [hTn] at this; cases this
        exact ⟨h0T, hTL, x, y, _, by rw [hji, hl]; exact ex, by rw [hji, hl]; exact ey, by rw [upd_ne hTL, upd_same], rfl⟩
end
section
variable {prog : Program} {w : World} {A : Around} {s : Shared} {R : Result → Shared → Prop} {z TI TO L : Addr}
theorem extend_zip (hz : IsZip s.heap z TI TO .none) (res : Value) (c₀ : Nat) (hSz : L ≠ z) (hS : s.heap.get? L = some { cls := .type "list", data := .seq #[] c₀ })
    (h : ∀ h' c, h'.get? L = some { cls := .type "list", data := .seq #[] c } → (∀ b o, b ≠ L → s.heap.get? b = some o → h'.get? b = some o) → codeAny (model prog w) A (.builtin "list.extend.loop" ⟨[.ref L, .ref z, res], []⟩) R { s with heap := h' }) :
    wpAny (model prog w) A.in1 (Builtin.List.listExtendWith (.ref L) (.ref z) res)
      (fun fin s' => match fin with | .done f => R (.ok f) s' | .again c' => c'.quiet = true ∧ codeAny (model prog w) A c' R s') (fun e s' => R (.error e) s') s := by
  have hT : s.TypeIs (.ref z) "zip" := ⟨_, hz, rfl⟩
  unfold Builtin.List.listExtendWith
  refine wpAny_bind (wpAny_typeOf hT ?_)
  have h1 : Builtin.List.listSameRef (.ref L) (.ref z) = false := by simp [Builtin.List.listSameRef, hSz]
  have h2 : (Value.type "zip" == Value.type "list") = false := by decide
  have h3 : (Value.type "zip" == Value.type "tuple") = false := by decide
  simp only [h1, h2, h3, Bool.or_false, Bool.false_eq_true, if_false]
  refine wpAny_bind (wpAny_pyIter_zip hz ?_)
  refine wpAny_bind (wpAny_holding ?_)
  unfold Builtin.List.listLengthHint
  refine wpAny_bind (wpAny_specialOf hT zip_no_len ?_)
  show wpAny _ A.in1 (specialOf (Value.ref z) (Str.ofString "__length_hint__") >>= _) _ _ _
  refine wpAny_bind (wpAny_specialOf hT zip_no_hint ?_)
  refine wpAny_pure ?_
  show wpAny _ A.in1 (rule "list.extend.makes-room" >>= fun _ => Builtin.List.listTouch (.ref L) >>= fun _ =>
    again (.builtin "list.extend.loop" ⟨[.ref L, .ref z, res], []⟩)) _ _ _
  refine wpAny_bind (wpAny_rule ?_)
  refine wpAny_bind ?_
  show wpAny _ A.in1 (updateSeq L (·.push .none) >>= fun _ => updateSeq L (·.pop)) _ _ _
  refine wpAny_bind (wpAny_updateSeq hS rfl ?_)
  have hS₂ := Heap.get?_update_self (Obj.mapSeq (·.push Value.none)) hS rfl
  refine wpAny_updateSeq (hz := by seq_fits) hS₂ rfl ?_
  have hS₃ := Heap.get?_update_self (Obj.mapSeq (·.pop)) hS₂ rfl
  have oth : ∀ b o, b ≠ L → s.heap.get? b = some o → ((s.heap.update L (Obj.mapSeq (·.push Value.none))).update L (Obj.mapSeq (·.pop))).get? b = some o :=
    fun b o hb e => (Heap.get?_update_other _ _ (Ne.symm hb)).trans ((Heap.get?_update_other _ _ (Ne.symm hb)).trans e)
  exact wpAny_pure ⟨plainId_quiet F.plain_extend_loop _, h _ _ hS₃ oth⟩
theorem init_zip (hz : IsZip s.heap z TI TO .none) (hSz : L ≠ z) (hS : s.heap.get? L = some { cls := .type "list", data := .seq #[] })
    (h : ∀ h' c, h'.get? L = some { cls := .type "list", data := .seq #[] c } → (∀ b o, b ≠ L → s.heap.get? b = some o → h'.get? b = some o) → codeAny (model prog w) A (.builtin "list.extend.loop" ⟨[.ref L, .ref z, .none], []⟩) R { s with heap := h' }) :
    wpAny (model prog w) A.in1 (Builtin.«list.__init__» ⟨[.ref L, .ref z], []⟩)
      (fun fin s' => match fin with | .done f => R (.ok f) s' | .again c' => c'.quiet = true ∧ codeAny (model prog w) A c' R s') (fun e s' => R (.error e) s') s := by
  show wpAny _ A.in1 (do let old ← Builtin.List.listItems (.ref L); Builtin.List.listUpdate (.ref L) (fun _ => #[]); letGo old.toList.reverse; Builtin.List.listExtendWith (.ref L) (.ref z) .none) _ _ s
  refine wpAny_bind ?_
  unfold Builtin.List.listItems
  refine wpAny_bind (wpAny_seqItems hS rfl (wpAny_pure ?_))
  show wpAny _ A.in1 (updateSeq L (fun _ => #[]) >>= fun _ => letGo (#[] : Array Value).toList.reverse >>= fun _ => Builtin.List.listExtendWith (.ref L) (.ref z) .none) _ _ s
  refine wpAny_bind (wpAny_updateSeq hS rfl ?_)
  have hS₂ := Heap.get?_update_self (Obj.mapSeq (fun _ => (#[] : Array Value))) hS rfl
  have oth : ∀ b o, b ≠ L → s.heap.get? b = some o → (s.heap.update L (Obj.mapSeq (fun _ => (#[] : Array Value)))).get? b = some o :=
    fun b o hb e => (Heap.get?_update_other _ _ (Ne.symm hb)).trans e
  refine wpAny_bind (wpAny_letGo ?_)
  exact extend_zip (s := { s with heap := _ }) (oth _ _ hSz.symm hz) .none _ hSz hS₂ fun h' c e k => h h' c e fun b o hb q => k b o hb (oth b o hb q)
end
section
variable {X : Cx} {pins : List (Addr × Obj)} {σ : L2.St} {H : Hp} {s : Shared}
/-- list of a zip that was just made over two tuples -/
theorem list_zip {a b : Addr} {xs ys : List V} {Q : VK} (I : Inv X pins σ H s) (hc : X.calm = true) (ha : SqT X.K H a xs) (hb : SqT X.K H b ys) (hn : min xs.length ys.length < sizeLine)
    (q : ∀ H' L as, LayZ H L xs ys as H' → H L = none → H' L = some (.lst (as.map V.ref)) → as.length = min xs.length ys.length → Q (.ref L) H') :
    wpAny (model X.prog X.w) X.A (call (.type "zip") [.ref a, .ref b]) (fun u s' => wpAny (model X.prog X.w) X.A (call (.type "list") [u]) (EP X pins σ Q) X.xe s') X.xe s := by
  obtain ⟨its1, rv1, p1, _⟩ := I.tuple ha
  obtain ⟨its2, rv2, p2, _⟩ := I.tuple hb
  have hal : a < s.heap.objs.size := by obtain ⟨_, q, _⟩ := id p1; exact Heap.lt_size q
  have hbl : b < s.heap.objs.size := by obtain ⟨_, q, _⟩ := id p2; exact Heap.lt_size q
  have rl1 := rv1.length
  have rl2 := rv2.length
  have gv : ∀ {zs : List V} {its : List Value}, Vals zs its → ∀ (i : Nat) (u : Value), its.toArray[i]? = some u → ∃ x, zs[i]? = some x ∧ RelV x u := fun {zs its} r i u e => by
    have e2 : its[i]? = some u := by simpa using e
    have hl := (List.getElem?_eq_some_iff.mp e2).1
    obtain ⟨x, hx⟩ : ∃ x, zs[i]? = some x := ⟨_, List.getElem?_eq_getElem (by rw [r.length]; exact hl)⟩
    obtain ⟨u', e3, rr⟩ := r.get hx
    rw [e2] at e3
    cases e3
    exact ⟨x, hx, rr⟩
  refine zip_begins2 (begins_tuple a its1.toArray) (begins_tuple b its2.toArray) p1 p2 fun h' hz hTI hTO h1 h2 hsz hk => ?_
  have hL : (h'.push { cls := .type "list", data := .seq #[] }).get? h'.objs.size = some { cls := .type "list", data := .seq #[] } := Heap.get?_push_size _ rfl
  have hh : X.A.in1.handled = none := I.ok.hd hc
  refine callType_codes (Q₁ := fun obj s₁ => obj = .ref h'.objs.size ∧ s₁ = { s with heap := h'.push { cls := .type "list", data := .seq #[] } }) F.called_list (F.typeCall_list_1 _) F.entry_list_init
    (code_list_new (s := { s with heap := h' }) _ ⟨rfl, rfl⟩) fun obj s₁ h₁ => ?_
  obtain ⟨rfl, rfl⟩ := h₁
  refine ⟨⟨_, hL, rfl⟩, F.args_list_init_2 _ _, ?_⟩
  have up : ∀ b o, h'.get? b = some o → (h'.push { cls := .type "list", data := .seq #[] }).get? b = some o := fun b o e => Heap.get?_push_of_some _ e
  have ne : ∀ k, k < 5 → h'.objs.size ≠ s.heap.objs.size + k := fun k hk z => by omega
  refine init_zip (A := X.A.in1) (s := { s with heap := h'.push { cls := .type "list", data := .seq #[] } }) (up _ _ hz) (ne 4 (by omega)) hL fun hl c hS oth => ?_
  have nb : ∀ {b : Addr} {o : Obj}, h'.get? b = some o → b ≠ h'.objs.size := fun e => Nat.ne_of_lt (Heap.lt_size e)
  have all : ∀ b o, h'.get? b = some o → hl.get? b = some o := fun b o e => oth b o (nb e) (up b o e)
  have fr : ∀ b, s.heap.objs.size ≤ b → H b = none := fun b hb => I.hok.fresh hb
  have I1 : Inv X pins σ (upd H h'.objs.size (.lst [])) { s with heap := hl } :=
    I.laid (t' := s.toks) (fun b o e => all b o (hk b o e)) (by omega) (show ObjOk X.prog X.w _ _ _ (.lst []) from ⟨Nat.zero_le _, [], c, .nil, hS⟩)
  have hLl : h'.objs.size < hl.objs.size := Heap.lt_size hS
  have D1 := PySem.Draws.tuple (prog := X.prog) (w := X.w) (A := X.A.in1.in1.in1) hh s.heap.objs.size a (Nat.ne_of_lt hal) its1.toArray
  have D2 := PySem.Draws.tuple (prog := X.prog) (w := X.w) (A := X.A.in1.in1.in1) hh (s.heap.objs.size + 1) b (Nat.ne_of_lt (Nat.lt_succ_of_lt hbl)) its2.toArray
  have sep := zip_sep2 (N := s.heap.objs.size) (fp1 := [a]) (fp2 := [b]) (fun c h => by rw [List.mem_singleton.mp h]; exact hal) (fun c h => by rw [List.mem_singleton.mp h]; exact hbl)
  refine loop_zip (X := X) (pins := pins) (σ := σ) (H0 := H) (xs := xs) (ys := ys) sep D1 D2 (gv rv1) (gv rv2) ?_ ?_ ?_ (ne 4 (by omega)) (ne 2 (by omega)) (ne 3 (by omega)) ?_ _ 0 _ (upd H h'.objs.size (.lst [])) [] c rfl (Nat.zero_le _) ?_ I1 ?_ upd_same rfl hS ?_ ?_
  · simp [← rl1, ← rl2]; omega
  · simp
    exact ⟨ne 0 (by omega), Nat.ne_of_gt (Nat.lt_of_lt_of_le hal (by omega))⟩
  · simp
    exact ⟨ne 1 (by omega), Nat.ne_of_gt (Nat.lt_of_lt_of_le hbl (by omega))⟩
  · intro s' H' as' I' e1 e2 lay
    exact ⟨rfl, .ref h'.objs.size, H', I', rfl, q H' _ as' lay (fr _ (by omega)) e1 (by simpa [rl1, rl2] using e2)⟩
  · refine ⟨all _ _ hTI, ⟨⟨_, all _ _ h1, rfl, rfl⟩, let ⟨o, e, r⟩ := p1; ⟨o, all _ _ (hk _ _ e), r⟩⟩, ⟨⟨_, all _ _ h2, rfl, rfl⟩, let ⟨o, e, r⟩ := p2; ⟨o, all _ _ (hk _ _ e), r⟩⟩, .inl ⟨all _ _ hz, _, _, all _ _ hTO⟩⟩
  · intro b' hb'
    have hb2 : s.heap.objs.size ≤ b' ∧ b' < h'.objs.size := by
      simp at hb'
      have g : ∀ k, k < 5 → s.heap.objs.size ≤ s.heap.objs.size + k ∧ s.heap.objs.size + k < h'.objs.size := fun k hk => ⟨Nat.le_add_right _ _, by omega⟩
      rcases hb' with z | z | z | z
      · rw [z]; exact g 4 (by omega)
      · rw [z]; exact g 3 (by omega)
      · rw [z]; exact g 0 (by omega)
      · rw [z]; exact g 1 (by omega)
    have hne : b' ≠ h'.objs.size := Nat.ne_of_lt hb2.2
    exact ⟨I.fpOk hb2.1 (by rw [upd_ne hne]; exact fr _ hb2.1), Nat.lt_trans hb2.2 hLl, hne⟩
  · exact fr _ (by omega)
  · exact ⟨fun b' o e => by rw [upd_ne (ne_of_none e (fr _ (by omega)))]; exact e, fun j T e => by simp at e⟩
end
end Pu

namespace Pu
open PySem PySem.Spec PyProof.Rows L2
section
variable {K : PySem.W.Frag} {T : Tk} {H H' : Hp} {h : HH}
theorem Le.ext (k : ∀ b o, H b = some o → H' b = some o) : Le T H T H' := ⟨⟨[], by simp⟩, fun _ h => h, fun _ h => .inl h, fun _ h => .inl h, fun a o e _ _ => k a o e, fun a ps e _ => ⟨ps, k _ _ e⟩, rfl, fun a q xs e => k _ _ e⟩
theorem RelH.ext (r : RelH K T H h) (k : ∀ b o, H b = some o → H' b = some o) : RelH K T H' h :=
  ⟨r.len, r.nd, fun i x e => by
    obtain ⟨a, e1, q⟩ := r.at_ i x e
    refine ⟨a, e1, relO_mono (Le.ext k) r.mut ?_ q⟩
    cases x with
    | lst ds => obtain ⟨vs, q, _⟩ := q; exact (k _ _ q).trans q.symm
    | dic ds => obtain ⟨vs, q, _⟩ := q; exact (k _ _ q).trans q.symm
    | lkd ds => obtain ⟨vs, ⟨_, q⟩, _⟩ := q; exact (k _ _ q).trans q.symm, r.sub, fun a ha => by
    obtain ⟨xs, z | ⟨ys, z | ⟨o', z⟩⟩⟩ := r.occ a ha
    · exact ⟨xs, .inl (k _ _ z)⟩
    · exact ⟨xs, .inr ⟨ys, .inl (k _ _ z)⟩⟩
    · exact ⟨xs, .inr ⟨ys, .inr ⟨o', k _ _ z⟩⟩⟩, r.tabs.ext k⟩
theorem rels_of_get : ∀ {ds : List D} {vs : List V}, vs.length = ds.length → (∀ (j : Nat) (d : D), ds[j]? = some d → ∃ v, vs[j]? = some v ∧ rel K T H d v) → rels K T H ds vs
  | [], [], _, _ => rels_nil
  | [], v :: vs, hl, _ => by simp at hl
  | d :: ds, [], hl, _ => by simp at hl
  | d :: ds, v :: vs, hl, hg => by
    obtain ⟨v', e, r⟩ := hg 0 d rfl
    simp at e
    subst e
    exact rels_cons r (rels_of_get (by simpa using hl) fun j d hd => by simpa using hg (j + 1) d (by simpa using hd))
end
section
variable {X : Cx} {W : WX} {k : Nat}
def tLstZip (K : PySem.W.Frag) (ta : TA) : TE := fun σ H Q => ta σ H fun vs H1 => ∃ a b xs ys, vs = [.ref a, .ref b] ∧ SqT K H1 a xs ∧ SqT K H1 b ys ∧ min xs.length ys.length < sizeLine ∧
  ∀ H' L as, LayZ H1 L xs ys as H' → H1 L = none → H' L = some (.lst (as.map V.ref)) → as.length = min xs.length ys.length → Q (.ref L) H'
theorem pe_listZip {e1 e2 : Expr} {ta : TA} {p p2 pos pos2 : Pos} (hc : X.calm = true) (hg : Gl X "list") (hm : X.mg "list" = none) (hg2 : Gl X "zip") (hm2 : X.mg "zip" = none) (ha : PA X [e1, e2] ta)
    (hs : starEach [e1, e2] X.env = (false, eval e1 X.env) :: starEach [e2] X.env := by rfl) (hpl : (backTo pos2 (starEach [e2] X.env)).any (·.1) = false := by rfl)
    (na : starEach [.Call (.Name "zip" p2) [e1, e2] [] pos2] X.env = (false, eval (.Call (.Name "zip" p2) [e1, e2] [] pos2) X.env) :: starEach [] X.env := by rfl) :
    PE X (.Call (.Name "list" p) [.Call (.Name "zip" p2) [e1, e2] [] pos2] [] pos) (tLstZip X.K ta) := by
  refine ⟨fun pins s σ H Q I h => ?_⟩
  have inner : wpAny (model X.prog X.w) X.A (eval (.Call (.Name "zip" p2) [e1, e2] [] pos2) X.env) (fun u s' => wpAny (model X.prog X.w) X.A (call (.type "list") [u]) (EP X pins σ Q) X.xe s') X.xe s := by
    refine Call_ (ld_blt I hg2 hm2 PyProof.Rows.boot_zip (PyProof.Rows.callWith_type1 (thn (ha.run pos2 pins s σ H _ I h) fun us s1 ⟨vs, H1, I1, r1, q1⟩ => ?_) hs hpl))
    obtain ⟨a, b, xs, ys, ex, hqx, hqy, hn, q⟩ := q1
    subst ex
    cases r1 with
    | cons r rr =>
      cases rr with
      | cons r' rr =>
        cases rr
        cases r
        cases r'
        exact list_zip I1 hc hqx hqy hn q
  exact Call_ (ld_blt I hg hm boot_list (PyProof.Rows.callWith_type1 (args_cons (thn inner fun u s1 q1 => args_nil q1) na) na))
def zpL (xs ys : List D) : List D := List.zipWith (fun x y => D.tup [x, y]) xs ys
def eListZip (f : Exs) : Ex := fun env h => (f env h).bind fun ds h1 => match ds with
  | [.tup xs, .tup ys] => if min xs.length ys.length ≤ 1000 then .ok (.lst (zpL xs ys)) h1 else .stuck
  | _ => .stuck
theorem se_listZip (C : Cok X W k) {e1 e2 : Expr} {f : Exs} {p p2 pos pos2 : Pos} (hg : Gl X "list") (hm : X.mg "list" = none) (hg2 : Gl X "zip") (hm2 : X.mg "zip" = none) (ha : SA X W [e1, e2] f)
    (hs : starEach [e1, e2] X.env = (false, eval e1 X.env) :: starEach [e2] X.env := by rfl) (hpl : (backTo pos2 (starEach [e2] X.env)).any (·.1) = false := by rfl)
    (na : starEach [.Call (.Name "zip" p2) [e1, e2] [] pos2] X.env = (false, eval (.Call (.Name "zip" p2) [e1, e2] [] pos2) X.env) :: starEach [] X.env := by rfl) :
    SE X W (.Call (.Name "list" p) [.Call (.Name "zip" p2) [e1, e2] [] pos2] [] pos) (eListZip f) := PE.mono (pe_listZip C.calm hg hm hg2 hm2 ha.pa hs hpl na) fun σ H Q hh => by
  obtain ⟨T, env, h, r1, r2, a⟩ := hh
  refine ⟨T, env, h, r1, r2, a.bind r1.mut fun ds h1 T1 H1 vs _ l1 q1 rvs a1 => ?_⟩
  split at a1
  · rename_i xs ys _
    split at a1
    · rename_i hle
      obtain ⟨v, u, rfl, rv, ru⟩ := rels_two rvs
      unfold rel at rv ru
      obtain ⟨p1, vs1, rfl, t1, w1⟩ := rv
      obtain ⟨p2, vs2, rfl, t2, w2⟩ := ru
      have hl1 : vs1.length = xs.length := rels_length w1
      have hl2 : vs2.length = ys.length := rels_length w2
      refine ⟨p1, p2, vs1, vs2, rfl, t1.sq, t2.sq, by rw [hl1, hl2, sizeLine_eq]; omega, fun H' L as lay hL hL' hlen => ?_⟩
      refine a1 T1 H' _ (Le.ext lay.1) (q1.ext lay.1) ?_
      unfold rel
      refine ⟨L, _, rfl, hL', q1.mut.free hL, rels_of_get ?_ fun j d hd => ?_⟩
      · unfold zpL
        rw [List.length_map, List.length_zipWith, hlen, hl1, hl2]
      · unfold zpL at hd
        rw [List.getElem?_zipWith_eq_some] at hd
        obtain ⟨x, y, hx, hy, rfl⟩ := hd
        have hjx := (List.getElem?_eq_some_iff.mp hx).1
        have hjy := (List.getElem?_eq_some_iff.mp hy).1
        obtain ⟨Tj, hT⟩ : ∃ Tj, as[j]? = some Tj := ⟨_, List.getElem?_eq_getElem (by omega)⟩
        obtain ⟨_, _, x', y', o, ex, ey, eT, ed⟩ := lay.2 j Tj hT
        obtain ⟨x2, ex2, rx⟩ := rels_get w1 hx
        obtain ⟨y2, ey2, ry⟩ := rels_get w2 hy
        rw [ex] at ex2
        rw [ey] at ey2
        cases ex2
        cases ey2
        refine ⟨.ref Tj, by rw [List.getElem?_map, hT]; rfl, ?_⟩
        unfold rel
        exact ⟨Tj, _, rfl, .inl ⟨o, eT, ed⟩, rels_cons (rel_mono (Le.ext lay.1) q1.mut _ _ rx) (rels_cons (rel_mono (Le.ext lay.1) q1.mut _ _ ry) rels_nil)⟩
    · exact a1.elim
  · exact a1.elim
end
section
variable {f : Exs} {env : En} {h : HH} {q : D → HH → Prop} {e : String → HH → Prop}
/-- two tuples, of which is asked -/
def lzD (p : D → Prop) : List D → Prop
  | [.tup xs, .tup ys] => min xs.length ys.length ≤ 1000 ∧ p (.lst (zpL xs ys))
  | _ => False
@[simp] theorem lzD_tt {p : D → Prop} {xs ys : List D} : lzD p [.tup xs, .tup ys] ↔ min xs.length ys.length ≤ 1000 ∧ p (.lst (zpL xs ys)) := Iff.rfl
@[simp ↓] theorem wp_eListZip : Wp q e (eListZip f env h) ↔ Wp (fun ds h1 => lzD (fun d => q d h1) ds) e (f env h) := by
  unfold eListZip
  rw [wp_bind]
  refine wp_congr fun ds h1 => ?_
  unfold lzD
  split
  · exact wp_if
  · exact Iff.rfl
end
end Pu

namespace Pu
open PySem PySem.Spec PyProof.Rows L2

/-! ### tuple(range(n)) -/
section
variable {X : Cx} {W : WX} {k : Nat}
def tTupRgK (te : L2.St → Hp → (Int → Int → Hp → Prop) → Prop) : TE := fun σ H Q => te σ H fun a b H1 => RgOk a b ∧ Made H1 (rgV a b) Q
theorem pe_tupRgK {e : Expr} {te : L2.St → Hp → (Int → Int → Hp → Prop) → Prop} {p pos : Pos} (hc : X.calm = true) (hg : Gl X "tuple") (hm : X.mg "tuple" = none) (he : PRg X e te) (na : starEach [e] X.env = (false, eval e X.env) :: starEach [] X.env := by rfl) : PE X (.Call (.Name "tuple" p) [e] [] pos) (tTupRgK te) := by
  refine ⟨fun pins s σ H Q I h => ?_⟩
  refine Call_ (ld_blt I hg hm boot_tuple (PyProof.Rows.callWith_type1 (args_cons (thn (he pins s σ H _ I h) fun x s1 ⟨r, a, b, t, u, v, H1, ex, hr, I1, ok, q⟩ => args_nil ?_) na) na))
  subst ex
  obtain ⟨b1, b2, b3, b4, b5⟩ := ok
  refine call_tuple_range (n := (b - a).toNat) (I1.ok.hd hc) hr (small_one b1 b2 b3 b4) (rangeSize_nat a b) b5 fun h' tk acc hk hi => ?_
  have I2 : Inv X pins σ H1 { s1 with heap := h', toks := tk } := I1.kept hk
  have m := made_ok I2 (vals_rg hi) (by rw [rgV_length, sizeLine_eq]; omega) q
  unfold tupO at m
  rw [Array.toArray_toList] at m
  exact m
def eTupRg (f : Ex) : Ex := fun env h => (f env h).bind fun d h1 => match d with
  | .int j => if 0 ≤ j ∧ j ≤ 16777216 then .ok (.tup (intsL 0 j.toNat)) h1 else .stuck
  | _ => .stuck
theorem se_tupRg1 {a : Expr} {f : Ex} {p p2 pos pos2 : Pos} (C : Cok X W k) (hg : Gl X "tuple") (hm : X.mg "tuple" = none) (hg2 : Gl X "range") (hm2 : X.mg "range" = none) (ha : SE X W a f)
    (na : starEach [a] X.env = (false, eval a X.env) :: starEach [] X.env := by rfl)
    (na2 : starEach [.Call (.Name "range" p2) [a] [] pos2] X.env = (false, eval (.Call (.Name "range" p2) [a] [] pos2) X.env) :: starEach [] X.env := by rfl) :
    SE X W (.Call (.Name "tuple" p) [.Call (.Name "range" p2) [a] [] pos2] [] pos) (eTupRg f) :=
  PE.mono (pe_tupRgK C.calm hg hm (prg_1 hg2 hm2 ha na) na2) fun σ H Q hh => by
    obtain ⟨T, env, h, r1, r2, a⟩ := hh
    refine ⟨T, env, h, r1, r2, a.bind r1.mut fun d h1 T1 H1 v _ l1 q1 rv a1 => ?_⟩
    cases d with
    | int j =>
      have a1 : After X.K X.mg W T1 H1 σ (rel X.K) Q (if 0 ≤ j ∧ j ≤ 16777216 then R.ok (.tup (intsL 0 j.toNat)) h1 else .stuck) := a1
      split at a1
      · refine ⟨j, rel_int_iff.mp rv, RgOk.of_le (by omega) (by omega) (by omega) (by omega), fun p o hp ho => ?_⟩
        refine a1 T1 (upd H1 p (.frz o (.tup (rgV 0 j)))) _ (Le.new hp) (q1.new hp) ?_
        unfold rel
        refine ⟨p, _, rfl, .inl ⟨o, upd_same, ho⟩, ?_⟩
        have := rels_rg (K := X.K) (T := T1) (H := upd H1 p (.frz o (.tup (rgV 0 j)))) 0 j
        rwa [Int.sub_zero] at this
      · exact a1.elim
    | _ => exact a1.elim
end
section
variable {f : Ex} {env : En} {h : HH} {q : D → HH → Prop} {e : String → HH → Prop}
def trD (p : D → Prop) : D → Prop
  | .int j => (0 ≤ j ∧ j ≤ 16777216) ∧ p (.tup (intsL 0 j.toNat))
  | _ => False
@[simp] theorem trD_i {p : D → Prop} {j : Int} : trD p (.int j) ↔ (0 ≤ j ∧ j ≤ 16777216) ∧ p (.tup (intsL 0 j.toNat)) := Iff.rfl
@[simp ↓] theorem wp_eTupRg : Wp q e (eTupRg f env h) ↔ Wp (fun d h1 => trD (fun d => q d h1) d) e (f env h) := by
  unfold eTupRg
  rw [wp_bind]
  refine wp_congr fun d h1 => ?_
  cases d with
  | int j => exact wp_if
  | _ => exact Iff.rfl
end
end Pu

namespace Pu
open PySem PySem.Spec PyProof.Rows L2

/-! ### zip of a list and a tuple -/
def ItzN (K : PySem.W.Frag) (a b : Addr) (n m : Nat) : It :=
  ⟨fun i H => ∃ (xs ys : List V) (c y : V), SqL K H a xs ∧ xs.length = n ∧ SqT K H b ys ∧ ys.length = m ∧ xs[i]? = some c ∧ ys[i]? = some y,
    fun i H v H' => ∃ T c y, v = .ref T ∧ H T = none ∧ H' = upd H T (.tup [c, y]) ∧ (∀ xs, SqL K H a xs → xs[i]? = some c) ∧ ∀ ys, SqT K H b ys → ys[i]? = some y,
    fun i H => ∃ xs ys : List V, SqL K H a xs ∧ xs.length = n ∧ SqT K H b ys ∧ ys.length = m ∧ (n ≤ i ∨ m ≤ i)⟩
theorem turn_zipN {P : Program} {w : World} {K : PySem.W.Frag} {elts : List Expr} {kk : Nat} {tpos : Pos} {a b z TI TO i1 i2 : Addr} {n m : Nat} (D : ZipSep2 z TI TO i1 i2 [i1, a] [i2, b]) (hb1 : a ≠ i1) (hb2 : b ≠ i2) :
    Turn P w K (.Tuple elts kk tpos) (ItzN K a b n m) [z, TI, TO, i1, i2] z (fun i h => IsZip h z TI TO .none ∧ IsTupOf2 h TI (.ref i1) (.ref i2) ∧ (∃ x y, IsTupOf2 h TO x y) ∧ h.IsListIter i1 a i ∧ h.IsTupleIter i2 b i ∧ i ≤ n ∧ i ≤ m) where
  mem := by simp
  obj := fun i h st c hc => by
    obtain ⟨hz, hTI, ⟨x, y, hTO⟩, ⟨o1, e1, _, d1⟩, ⟨o2, e2, _, d2⟩, _⟩ := st
    have e' : c = z ∨ c = TI ∨ c = TO ∨ c = i1 ∨ c = i2 := by simpa using hc
    rcases e' with q | q | q | q | q
    · rw [q]; exact ⟨_, hz, fun v q => nomatch q⟩
    · rw [q]; exact ⟨_, hTI, fun v q => nomatch q⟩
    · rw [q]; exact ⟨_, hTO, fun v q => nomatch q⟩
    · rw [q]; exact ⟨o1, e1, fun v q => by rw [d1] at q; cases q⟩
    · rw [q]; exact ⟨o2, e2, fun v q => by rw [d2] at q; cases q⟩
  keep := fun i h h' st k => by
    obtain ⟨hz, hTI, ⟨x, y, hTO⟩, h1, h2, hl⟩ := st
    exact ⟨k z (by simp) _ hz, k TI (by simp) _ hTI, ⟨x, y, k TO (by simp) _ hTO⟩, h1.at fun o q => k i1 (by simp) o q, h2.at fun o q => k i2 (by simp) o q, hl⟩
  item := by
    intro X hP hw hK hc i pins s σ H E I hf st hg
    subst hP hw hK
    obtain ⟨hz, hTI, ⟨x0, y0, hTO⟩, h1, h2, hl1, hl2⟩ := st
    obtain ⟨xs, ys, c, y, hqx, hn, hqy, hm, hx, hy⟩ := hg
    obtain ⟨its1, rv1, p1, _⟩ := I.list hqx
    obtain ⟨its2, rv2, p2, _⟩ := I.tuple hqy
    have p1 := p1.isList
    obtain ⟨u1, hu1, ru1⟩ := rv1.get hx
    obtain ⟨u2, hu2, ru2⟩ := rv2.get hy
    have hzl : z < s.heap.objs.size := Heap.lt_size hz
    have hh : X.A.in1.handled = none := I.ok.hd hc
    have D1 := Draws.list (prog := X.prog) (w := X.w) hh i1 a hb1 its1.toArray
    have D2 := Draws.tuple (prog := X.prog) (w := X.w) hh i2 b hb2 its2.toArray
    have hi1 : i < its1.toArray.size := by
      have := (List.getElem?_eq_some_iff.mp hu1).1
      simpa using this
    have hi2 : i < its2.toArray.size := by
      have := (List.getElem?_eq_some_iff.mp hu2).1
      simpa using this
    refine wpAny_pyNext_zipD2_item D D1 D2 hz hTI hTO ⟨h1, p1⟩ ⟨h2, p2⟩ hi1 hi2 fun x1 x2 h' tk P1 P2 z' TO' st1 st2 hT hsz hk => ?_
    have e1 : x1 = u1 := by
      have h3 : its1[i]? = some x1 := by simpa using P1
      rw [hu1] at h3; exact (Option.some.inj h3).symm
    subst e1
    have e2 : x2 = u2 := by
      have h3 : its2[i]? = some x2 := by simpa using P2
      rw [hu2] at h3; exact (Option.some.inj h3).symm
    subst e2
    refine ⟨_, rfl, wpAny_letOwnedTupleGo_zip (s := { s with heap := h', toks := tk }) z' fun h'' z'' sb => ?_⟩
    have hT2 : h''.get? s.heap.objs.size = some { cls := .type "tuple", data := .seq #[x1, x2] } := (sb.2 _ (Nat.ne_of_gt hzl)).trans hT
    have new : ObjOk X.prog X.w (upd H s.heap.objs.size (.tup [c, y])) h'' s.heap.objs.size (.tup [c, y]) :=
      ⟨by show 2 ≤ sizeLine; decide, [x1, x2], .cons ru1 (.cons ru2 .nil), ⟨_, hT2, rfl, _, rfl⟩⟩
    have I1 : Inv X pins σ (upd H s.heap.objs.size (.tup [c, y])) { s with heap := h'', toks := tk } :=
      I.turnedNew (t' := tk) (ch := [z, TI, TO, i1, i2]) (fun c o hb q => (sb.2 c (fun q' => hb (by simp [q']))).trans (hk c o (fun q' => hb (by simp [q'])) (fun q' => hb (by simp [q'])) (fun q' => hb (by simp [q'])) (fun q' => hb (by simp [q'])) q)) hf (Nat.le_refl _) new
    have i1z : i1 ≠ z := fun e => D.zf1 (by rw [← e]; simp)
    have i2z : i2 ≠ z := fun e => D.zf2 (by rw [← e]; simp)
    refine ⟨.ref s.heap.objs.size, _, I1, rfl, ⟨_, c, y, rfl, I.hok.fresh (Nat.le_refl _), rfl, fun l hl => by rw [I.list_inj hl hqx]; exact hx, fun l hl => by rw [I.tuple_inj hl hqy]; exact hy⟩, ⟨z'', ?_, ⟨x1, x2, ?_⟩, ?_, ?_, ?_, ?_⟩, fun c hcm => ?_⟩
    · exact (sb.2 _ D.TIz).trans (hk _ _ D.TIz D.TITO D.TIi1 D.TIi2 hTI)
    · exact (sb.2 _ D.TOz).trans TO'
    · exact st1.1.at fun o q => (sb.2 _ i1z).trans q
    · exact st2.1.at fun o q => (sb.2 _ i2z).trans q
    · have := rv1.length
      simp at hi1
      omega
    · have := rv2.length
      simp at hi2
      omega
    · have hlt : c < s.heap.objs.size := by
        have e' : c = z ∨ c = TI ∨ c = TO ∨ c = i1 ∨ c = i2 := by simpa using hcm
        rcases e' with q | q | q | q | q
        · rw [q]; exact hzl
        · rw [q]; exact Heap.lt_size hTI
        · rw [q]; exact Heap.lt_size hTO
        · rw [q]; obtain ⟨_, e1, _⟩ := h1; exact Heap.lt_size e1
        · rw [q]; obtain ⟨_, e2, _⟩ := h2; exact Heap.lt_size e2
      rw [upd_ne (Nat.ne_of_lt hlt)]
      exact (hf c hcm).1
  done := by
    intro X hP hw hK hc i pins s σ H E I hf st hg
    subst hP hw hK
    obtain ⟨hz, hTI, ⟨x0, y0, hTO⟩, h1, h2, hl1, hl2⟩ := st
    obtain ⟨xs, ys, hqx, hn, hqy, hm, hend⟩ := hg
    obtain ⟨its1, rv1, p1, _⟩ := I.list hqx
    obtain ⟨its2, rv2, p2, _⟩ := I.tuple hqy
    have p1 := p1.isList
    have l1 := rv1.length
    have l2 := rv2.length
    have hh : X.A.in1.handled = none := I.ok.hd hc
    have D1 := Draws.list (prog := X.prog) (w := X.w) hh i1 a hb1 its1.toArray
    have D2 := Draws.tuple (prog := X.prog) (w := X.w) hh i2 b hb2 its2.toArray
    exact wpAny_pyNext_zipD2_end D D1 D2 hz hTI hTO ⟨h1, p1⟩ ⟨h2, p2⟩ (by simp; omega) (by simp; omega) (by simp; omega) fun h' tk hk => ⟨rfl, I.turnedL (t' := tk) (ch := [z, TI, TO, i1, i2]) (fun c o hb q =>
      hk c o (fun q' => hb (by simp [q'])) (fun q' => hb (by simp [q'])) (fun q' => hb (by simp [q'])) (fun q' => hb (by simp [q'])) q) hf⟩
  self := fun A i s Q E st h => wpAny_pyIter_zip st.1 h
def iZipN (K : PySem.W.Frag) (ta : TA) : TI := fun σ H R => ta σ H fun vs H1 => ∃ a b xs ys, vs = [.ref a, .ref b] ∧ SqL K H1 a xs ∧ SqT K H1 b ys ∧ R (ItzN K a b xs.length ys.length) H1
theorem pi_zipN {X : Cx} {e e2 : Expr} {ta : TA} {p pos tpos : Pos} {elts : List Expr} {kk : Nat} (hg : Gl X "zip") (hm : X.mg "zip" = none) (ha : PA X [e, e2] ta)
    (hs : starEach [e, e2] X.env = (false, eval e X.env) :: starEach [e2] X.env := by rfl) (hpl : (backTo pos (starEach [e2] X.env)).any (·.1) = false := by rfl) :
    PI X (.Tuple elts kk tpos) (.Call (.Name "zip" p) [e, e2] [] pos) (iZipN X.K ta) := by
  refine ⟨fun pins s σ H R I h => ?_⟩
  refine Call_ (ld_blt I hg hm PyProof.Rows.boot_zip (PyProof.Rows.callWith_type1 (thn (ha.run pos pins s σ H _ I h) fun us s1 ⟨vs, H1, I1, r1, q1⟩ => ?_) hs hpl))
  obtain ⟨a, b, xs, ys, ex, hqx, hqy, q⟩ := q1
  subst ex
  cases r1 with
  | cons r rr =>
    cases rr with
    | cons r' rr =>
      cases rr
      cases r
      cases r'
      have fresh5 : ∀ c, c ∈ [s1.heap.objs.size + 4, s1.heap.objs.size + 2, s1.heap.objs.size + 3, s1.heap.objs.size, s1.heap.objs.size + 1] → FpOk X pins H1 c := fun c hcm => by
        have e' : c = s1.heap.objs.size + 4 ∨ c = s1.heap.objs.size + 2 ∨ c = s1.heap.objs.size + 3 ∨ c = s1.heap.objs.size ∨ c = s1.heap.objs.size + 1 := by simpa using hcm
        have hle : s1.heap.objs.size ≤ c := by
          rcases e' with z | z | z | z | z
          · rw [z]; exact Nat.le_add_right _ _
          · rw [z]; exact Nat.le_add_right _ _
          · rw [z]; exact Nat.le_add_right _ _
          · rw [z]; exact Nat.le_refl _
          · rw [z]; exact Nat.le_add_right _ _
        exact I1.fpOk hle (I1.hok.fresh hle)
      obtain ⟨its1, rv1, p1, _⟩ := I1.list hqx
      obtain ⟨its2, rv2, p2, _⟩ := I1.tuple hqy
      have p1 := p1.isList
      have hal : a < s1.heap.objs.size := by obtain ⟨_, q, _⟩ := id p1; exact Heap.lt_size q
      have hbl : b < s1.heap.objs.size := by obtain ⟨_, q, _⟩ := id p2; exact Heap.lt_size q
      refine zip_begins2 (begins_list a its1.toArray) (begins_tuple b its2.toArray) p1 p2 fun h' hz hTI hTO h1 h2 hsz hk => wpAny_pyIter_zip hz ?_
      have I2 : Inv X pins σ H1 { s1 with heap := h' } := I1.kept (t' := s1.toks) hk
      exact ⟨s1.heap.objs.size + 4, [s1.heap.objs.size + 4, s1.heap.objs.size + 2, s1.heap.objs.size + 3, s1.heap.objs.size, s1.heap.objs.size + 1], _, _, H1, rfl, I2,
        turn_zipN (zip_sep2 (fp1 := [a]) (fp2 := [b]) (fun c h => by rw [List.mem_singleton.mp h]; exact hal) (fun c h => by rw [List.mem_singleton.mp h]; exact hbl)) (Nat.ne_of_lt hal) (Nat.ne_of_lt (Nat.lt_succ_of_lt hbl)),
        ⟨hz, hTI, ⟨_, _, hTO⟩, ⟨_, h1, rfl, rfl⟩, ⟨_, h2, rfl, rfl⟩, Nat.zero_le _, Nat.zero_le _⟩, fresh5, q⟩
def iZipZ (f : Exs) : Ei := fun env h => match f env h with
  | .ok [.lst xs, .tup ys] h1 => .ok ⟨zipD xs ys, []⟩ h1
  | _ => iZipY f env h
def zpZ (h : HH) (ds : List D) : Option IT := match ds with
  | [.lst xs, .tup ys] => some ⟨zipD xs ys, []⟩
  | ds => zpY h ds
section
variable {X : Cx} {W : WX}
theorem wk_zipN {K : PySem.W.Frag} {a b : Addr} {n m : Nat} : Walk (ItzN K a b n m) (min n m) (fun H => (∃ vs, vs.length = n ∧ SqL K H a vs) ∧ ∃ vs, vs.length = m ∧ SqT K H b vs)
    (fun i H v H' => ∃ T x y, v = .ref T ∧ H T = none ∧ H' = upd H T (.tup [x, y]) ∧ (∀ xs, SqL K H a xs → xs[i]? = some x) ∧ ∀ ys, SqT K H b ys → ys[i]? = some y) :=
  ⟨fun i _ hi ⟨⟨vs, e, q⟩, ws, e', q'⟩ => ⟨vs, ws, vs[i]'(by omega), ws[i]'(by omega), q, e, q', e', List.getElem?_eq_getElem _, List.getElem?_eq_getElem _⟩,
    fun _ ⟨⟨vs, e, q⟩, ws, e', q'⟩ => ⟨vs, ws, q, e, q', e', by omega⟩, fun _ _ _ _ _ _ y => y⟩
theorem si_zipZ {e1 e2 : Expr} {f : Exs} {p pos tpos : Pos} {elts : List Expr} {kk : Nat} (hg : Gl X "zip") (hm : X.mg "zip" = none) (ha : SA X W [e1, e2] f)
    (hs : starEach [e1, e2] X.env = (false, eval e1 X.env) :: starEach [e2] X.env := by rfl) (hpl : (backTo pos (starEach [e2] X.env)).any (·.1) = false := by rfl) :
    SI X W (.Tuple elts kk tpos) (.Call (.Name "zip" p) [e1, e2] [] pos) (iZipZ f) := PI.or2 (pi_zipN hg hm ha.pa hs hpl) (si_zipY hg hm ha hs hpl) fun σ H QR hh => by
  obtain ⟨T, env, h, r1, r2, a⟩ := hh
  by_cases key : ∃ xs ys h1, f env h = .ok [.lst xs, .tup ys] h1
  · obtain ⟨xs, ys, h1, e⟩ := key
    left
    refine ⟨T, env, h, r1, r2, ?_⟩
    have e2 : iZipZ f env h = (f env h).bind fun ds h1 => .ok ⟨zipD xs ys, []⟩ h1 := by unfold iZipZ; rw [e]; rfl
    rw [e2] at a
    refine a.bind r1.mut fun ds h2 T1 H1 vs e' l1 q1 rvs a1 => ?_
    rw [e] at e'
    cases e'
    obtain ⟨v, u, rfl, rv, ru⟩ := rels_two rvs
    obtain ⟨p1, rfl, s1⟩ := itemsL_stay q1 rv (xs := xs) rfl
    obtain ⟨p2, rfl, s2⟩ := tup_stay q1 ru
    obtain ⟨vs1, t1, w1⟩ := s1 T1 H1 _ Le.refl q1 rfl
    obtain ⟨vs2, t2, w2⟩ := s2 T1 H1 Le.refl
    have hl1 : vs1.length = xs.length := rels_length w1
    have hl2 : vs2.length = ys.length := rels_length w2
    refine ⟨p1, p2, vs1, vs2, rfl, t1, t2, After.done a1 q1 ?_⟩
    refine ⟨_, _, by rw [zipD_len, ← hl1, ← hl2]; exact wk_zipN, fun T3 H3 h3 l3 r3 hc => ?_, fun i H3 x H' hi y T3 h3 l3 r3 hc => ?_⟩
    · obtain ⟨ws1, t1, r1⟩ := s1 T3 H3 h3 l3 r3 rfl
      obtain ⟨ws2, t2, r2⟩ := s2 T3 H3 l3
      exact ⟨⟨ws1, by rw [rels_length r1, hl1], t1⟩, ws2, by rw [rels_length r2, hl2], t2⟩
    · obtain ⟨ws1, t1, w1⟩ := s1 T3 H3 h3 l3 r3 rfl
      obtain ⟨ws2, t2, w2⟩ := s2 T3 H3 l3
      obtain ⟨T', x', y', rfl, hp, rfl, y1, y2⟩ := y
      obtain ⟨d1, g1, k1⟩ := rels_back w1 (y1 _ t1)
      obtain ⟨d2, g2, k2⟩ := rels_back w2 (y2 _ t2)
      obtain ⟨z1, z2, z3⟩ := Le.tup r3 hp (rels_cons k1 (rels_cons k2 rels_nil)) rfl
      exact ⟨_, zipD_get g1 g2, z1, z2, z3⟩
  · right
    have e2 : iZipZ f env h = iZipY f env h := by
      unfold iZipZ
      split
      · rename_i e; exact absurd ⟨_, _, _, e⟩ key
      · rfl
    exact ⟨T, env, h, r1, r2, by rw [← e2]; exact a⟩
end
section
variable {f : Exs} {env : En} {h : HH} {q : D → HH → Prop} {e : String → HH → Prop}
@[simp ↓] theorem wp_iZipZ {qi : IT → HH → Prop} : Wp qi e (iZipZ f env h) ↔ Wp (fun ds h1 => Wo (fun x => qi x h1) (zpZ h1 ds)) e (f env h) := by
  unfold iZipZ
  split
  · rename_i xs ys h1 e1
    rw [e1]; rfl
  · rename_i hc
    rw [wp_iZipY]
    cases e1 : f env h with
    | ok ds h1 =>
      have : zpZ h1 ds = zpY h1 ds := by
        unfold zpZ
        split
        · exact absurd e1 (hc _ _ _)
        · rfl
      show Wo _ (zpY h1 ds) ↔ Wo _ (zpZ h1 ds)
      rw [this]
    | exc c h1 => exact Iff.rfl
    | stuck => exact Iff.rfl
@[simp] theorem zpZ_lt {xs ys : List D} : zpZ h [.lst xs, .tup ys] = some ⟨zipD xs ys, []⟩ := rfl
@[simp] theorem zpZ_tl {xs ys : List D} : zpZ h [.tup xs, .lst ys] = some ⟨zipD xs ys, []⟩ := rfl
@[simp] theorem zpZ_tt {xs ys : List D} : zpZ h [.tup xs, .tup ys] = some ⟨zipD xs ys, []⟩ := rfl
@[simp] theorem zpZ_ll {xs ys : List D} : zpZ h [.lst xs, .lst ys] = some ⟨zipD xs ys, []⟩ := rfl
@[simp] theorem zpZ_st {s : String} {ys : List D} : zpZ h [.str s, .tup ys] = some ⟨zipD (chsD s) ys, []⟩ := rfl
end
end Pu

namespace Pu
open PySem PySem.Spec PyProof.Rows L2

/-! ### sorted of a tuple of ints -/
section
variable {prog : Program} {w : World} {A : Around} {E : Value → Shared → Prop} {s : Shared}
def colH (h : Heap) (vs : List Value) : Heap := (h.push (seqObj "list" #[] 0)).update h.objs.size (Obj.mapSeq (· ++ vs.toArray))
theorem colH_size {h : Heap} {vs : List Value} : (colH h vs).objs.size = h.objs.size + 1 := by
  unfold colH
  rw [Heap.size_update, size_push']
theorem colH_old {h : Heap} {vs : List Value} {b : Addr} {u : Obj} (e : h.get? b = some u) : (colH h vs).get? b = some u := by
  have hb : b < h.objs.size := Heap.lt_size e
  unfold colH
  rw [Heap.get?_update_ne _ _ _ _ (Nat.ne_of_lt hb), Heap.get?_push_ne _ _ _ (Nat.ne_of_lt hb)]
  exact e
theorem colT {p : Addr} {vs : List Value} {Q : List Value → Shared → Prop} (ht : IsTup s.heap p vs.toArray) (hsz : vs.length ≤ sizeLine) (h : Q vs { s with heap := colH s.heap vs }) :
    wpAny (model prog w) A (collect (.ref p)) Q E s := by
  obtain ⟨o, ho, hc, n, hd⟩ := ht
  obtain ⟨hp, g, d, tk, os⟩ := s
  have hz' : vs.toArray.size ≤ sizeLine := by rw [List.size_toArray]; exact hsz
  unfold collect
  refine wpAny_bind (wpAny_runValue (codeAny_builtin entry_proto_collect' ?_))
  refine wpAny_bind (wpAny_newList ?_)
  refine wpAny_pure ⟨Code.quiet_builtin _ (by decide +kernel), codeAny_builtin entry_list_iadd' ?_⟩
  have e1 : (hp.push (seqObj "list" #[] 0)).get? hp.objs.size = some (seqObj "list" #[] 0) := Heap.get?_push_size _ rfl
  have e2 := Heap.get?_update_self (Obj.mapSeq (· ++ vs.toArray)) e1 rfl
  have fin : wpAny (model prog w) A (load hp.objs.size >>= fun o => match o.data with
      | .seq xs _ => pure xs.toList
      | _ => unsupported "internal:collect") Q E ⟨colH hp vs, g, d, tk, os⟩ := by
    refine wpAny_bind (wpAny_load e2 ?_)
    refine wpAny_pure ?_
    show Q ((#[] : Array Value) ++ vs.toArray).toList _
    rw [show ((#[] : Array Value) ++ vs.toArray).toList = vs by simp]
    exact h
  refine wpAny_mono (wpAny_extend_seq (R := fun r t => r = .ok (.ret (.ref hp.objs.size)) ∧ t = ⟨colH hp vs, g, d, tk, os⟩) (s := ⟨hp.push (seqObj "list" #[] 0), g, d, tk, os⟩) hp.objs.size p _ 0 (.inr rfl) e1 (Heap.get?_push_of_some _ ho) hc hd ⟨rfl, rfl⟩ hz') (fun x t q => ?_) fun x t q => absurd q.1 (by simp)
  cases x with
  | done f =>
    obtain ⟨q1, rfl⟩ := q
    cases q1
    exact fin
  | again c => exact ⟨q.1, codeAny_mono q.2 fun r t' hr => by obtain ⟨rfl, rfl⟩ := hr; exact fin⟩
theorem sortedT {p : Addr} {vs : List Value} {ltv : Value → Value → Bool} {Q : Value → Shared → Prop} (O : SrtO.Swo ltv) (ht : IsTup s.heap p vs.toArray) (hz : vs.length ≤ sizeLine)
    (hS : 2 ≤ vs.length → ∀ (h₁ : Heap) (a : Addr), h₁.get? a = some (seqObj "list" vs.toArray 0) → SrtO.SortableO prog w A.in1.in1 { s with heap := h₁ } a vs ltv)
    (h : ∀ out : List Value, SrtO.Srtd ltv out → SrtO.Stb ltv out vs → Q (.ref (s.heap.objs.size + 1)) { s with heap := sortedAll s.heap vs out.toArray }) :
    wpAny (model prog w) A (call (.builtin "sorted") [.ref p]) Q E s := by
  obtain ⟨hp, g, d, tk, os⟩ := s
  refine Calls.call_function_entry kind_sorted plain_sorted entry_sorted (args_sorted1 _) ?_
  unfold Builtin.«sorted»
  refine wpAny_bind (m := checkCount "sorted" 1 1 _) (wpAny_pure ?_)
  refine wpAny_bind (colT ht hz ?_)
  refine wpAny_bind (wpAny_newList ?_ hz)
  have e1 : ((colH hp vs).push (seqObj "list" vs.toArray 0)).get? (hp.objs.size + 1) = some (seqObj "list" vs.toArray 0) := by
    rw [← colH_size (vs := vs)]
    exact Heap.get?_push_size _ rfl
  show wpAny _ _ _ _ _ ⟨(colH hp vs).push (seqObj "list" vs.toArray 0), g, d, tk, os⟩
  dsimp only
  rw [colH_size]
  exact wpAny_bind (wpAny_holding (wpAny_call_entry slot_list_sort ⟨_, e1, rfl⟩ entry_list_sort (SrtO.list_sort_ord O e1 hz (fun h2 => hS h2 _ _ e1) fun out q1 q2 => ⟨_, rfl, wpAny_pure ⟨_, rfl, h out q1 q2⟩⟩) (args_list_sort _)))
end
section
variable {X : Cx} {W : WX} {k : Nat}
theorem cr_sortedT : CallR X (.builtin "sorted") fun vs H Q => ∃ (a : Addr) (ns : List Int), vs = [V.ref a] ∧ SqT X.K H a (ns.map V.int) ∧
    ∀ (ns' : List Int) (p : Addr), ns'.Perm ns → ns'.Pairwise (· ≤ ·) → H p = none → Q (.ref p) (upd H p (.lst (ns'.map V.int))) := by
  intro pins s σ H vs us Q I r h
  obtain ⟨a, ns, rfl, hs, q⟩ := h
  obtain ⟨its, rv, ht, hz⟩ := I.tuple hs
  have hz2 : its.length ≤ sizeLine := by rw [← rv.length]; exact hz
  rw [Vals.ref1 r]
  have hi := rv.ints
  refine sortedT SrtO.swo_int ht hz2 (fun h2 _ _ _ => SrtO.ints_sortable hi h2) fun out h1 h2 => ?_
  obtain ⟨k1, k2, k3⟩ := SrtO.ints_out hi h1 h2
  obtain ⟨ep, e⟩ := PyProof.Rows.sortedAll_at s.heap its out.toArray
  have hl : ((out.map SrtO.iv).map V.int).length ≤ sizeLine := by
    rw [List.length_map] at hz ⊢
    rw [k2.length_eq]
    exact hz
  have hle : s.heap.objs.size ≤ s.heap.objs.size + 1 := Nat.le_succ _
  exact ⟨.ref _, upd H _ (.lst ((out.map SrtO.iv).map V.int)), I.laid (a := s.heap.objs.size + 1) (t' := s.toks) (fun _ _ e => PyProof.Rows.sortedAll_old e) hle ⟨hl, out, ep, vals_of_ints k1, e⟩, rfl, q _ _ k2 k3 (I.hok.fresh hle)⟩
def srtY (h : HH) : List D → Option (List D)
  | [.tup xs] => (intsD xs).map fun ns => (sortM ns).map D.int
  | _ => none
def fSortT (f : Exs) : Exs := fun env h => (f env h).bind fun ds h1 => ofO (srtY h1 ds) fun ys => .ok ys h1
theorem sf_sortT {e : Expr} {f : Exs} {p pos : Pos} (C : Cok X W k) (hg : Gl X "sorted") (hm : X.mg "sorted" = none) (ha : SA X W [e] f)
    (he : starEach [e] X.env = (false, eval e X.env) :: starEach [] X.env := by rfl) (hpl : (backTo pos (starEach [] X.env)).any (·.1) = false := by rfl) : SF X W (.Call (.Name "sorted" p) [e] [] pos) (fSortT f) :=
  PE.mono (pe_callB cr_sortedT hg hm boot_sorted ha.pa (by decide) (by decide) he hpl) fun σ H Q hh => by
    obtain ⟨T, env, h, r1, r2, a⟩ := hh
    refine ⟨T, env, h, r1, r2, a.bind0 fun ds h1 T1 H1 vs e l1 q1 rvs a1 => ?_⟩
    obtain ⟨ys, e1, a2⟩ := After.ofO a1
    unfold srtY at e1
    split at e1
    · rename_i xs
      obtain ⟨v, rfl, rv⟩ := rels_one rvs
      obtain ⟨b, hb, hs⟩ := tup_stay q1 rv
      subst hb
      obtain ⟨ws, sq, rr⟩ := hs T1 H1 Le.refl
      cases e2 : intsD xs with
      | none => rw [e2] at e1; cases e1
      | some ns =>
        rw [e2] at e1
        cases e1
        rw [rels_ints rr e2] at sq
        refine ⟨b, ns, rfl, sq, fun ns' p hp1 hp2 hp => ?_⟩
        have es : ns' = sortM ns := sortedM_ext hp2 (sortM_sorted ns) (hp1.trans (sortM_perm ns).symm)
        subst es
        exact a2 (T1.blk p) (upd H1 p (.lst ((sortM ns).map V.int))) _ (l1.trans r1.mut (Le.blk hp)) (q1.blk hp) ⟨p, _, rfl, upd_same, fun z => q1.mut.free hp (q1.sub p z), .inr rfl, l1.was q1.mut hp, rels_ofInts _⟩
    · cases e1
end
theorem srtY_ints {ns : List Int} {h : HH} : srtY h [.tup (ns.map D.int)] = some ((sortM ns).map D.int) := by
  unfold srtY
  dsimp only
  rw [intsD_map]
  rfl
@[simp ↓] theorem wp_fSortT {f : Exs} {env : En} {h : HH} {qs : List D → HH → Prop} {e : String → HH → Prop} : Wp qs e (fSortT f env h) ↔ Wp (fun ds h1 => Wo (fun ys => qs ys h1) (srtY h1 ds)) e (f env h) := by
  unfold fSortT
  rw [wp_bind]
  exact wp_congr fun d h1 => wp_ofO
end Pu

namespace Pu
open PySem PySem.Spec PyProof.Rows L2

/-! ### max of three whole numbers -/
section
variable {prog : Program} {w : World} {A : Around} {E : Value → Shared → Prop} {s : Shared}
theorem argsM3 (a b c : Value) : argsOk "max" ⟨[a, b, c], []⟩ := by unfold argsOk; kernel_rfl
theorem max3V {i j k : Int} {t u v : Tok} {Q : Value → Shared → Prop} (hh : A.handled = none)
    (h : ∀ (z : Value) h' tk, (∃ y, z = .int (max (max i j) k) y) → (∀ c o, s.heap.get? c = some o → h'.get? c = some o) → Q z { s with heap := h', toks := tk }) :
    wpAny (model prog w) A (call (.builtin "max") [.int i t, .int j u, .int k v]) Q E s := by
  obtain ⟨hp, g, d, tk0, os⟩ := s
  have nm : (toString "max" ++ toString ".loop" : String) = "max.loop" := by decide
  refine call_function_tree PySem.F.kind_max PySem.F.plain_max PySem.F.entry_max (argsM3 _ _ _) ?_
  have hb0 : Builtin.Builtins.bindParams "max" ["key", "default"] 0 ⟨[], []⟩ = pure [none, none] := rfl
  refine wpAny_bind (wpAny_of_eq hb0 ?_)
  refine wpAny_bind (wpAny_newTuple ?_)
  obtain ⟨ar, har⟩ : ∃ ar : Array (Int × Tok), ar = #[(i, t), (j, u), (k, v)] := ⟨_, rfl⟩
  have hit : (#[.int i t, .int j u, .int k v] : Array Value) = intItems ar := by rw [har]; simp [intItems]
  have n3 : (intItems ar).size = 3 := by rw [← hit]; rfl
  have hT : (hp.push (seqObj "tuple" #[.int i t, .int j u, .int k v] 0)).IsTuple hp.objs.size (intItems ar) := ⟨_, Heap.get?_push_size _ rfl, rfl, 0, by rw [← hit]⟩
  obtain ⟨p1, hp1⟩ : ∃ p1, p1 = hp.push (seqObj "tuple" #[.int i t, .int j u, .int k v] 0) := ⟨_, rfl⟩
  have z1 : p1.objs.size = hp.objs.size + 1 := by rw [hp1]; exact Heap.size_push ..
  have old : ∀ c o, hp.get? c = some o → p1.get? c = some o := fun c o e => by rw [hp1]; exact Heap.get?_push_of_some _ e
  rw [← hp1] at hT
  show wpAny _ A.in1 _ _ _ ⟨hp.push (seqObj "tuple" #[.int i t, .int j u, .int k v] 0), g, d, tk0, os⟩
  rw [← hp1]
  refine wpAny_bind (wpAny_pyIter_tuple (s := ⟨p1, g, d, tk0, os⟩) hT ?_)
  obtain ⟨p2, hp2⟩ : ∃ p2, p2 = p1.push { cls := .type "tuple_iterator", data := .fields #[.ref hp.objs.size, .int 0 0] } := ⟨_, rfl⟩
  have z2 : p2.objs.size = hp.objs.size + 2 := by rw [hp2, Heap.size_push, z1]
  have W := Walks.tuple (prog := prog) (w := w) (A := A.in1) hh p1.objs.size hp.objs.size (by rw [z1]; exact Nat.ne_of_lt (Nat.lt_succ_self _)) (intItems ar)
  have hst : p2.IsTupleIter p1.objs.size hp.objs.size 0 ∧ p2.IsTuple hp.objs.size (intItems ar) := by
    rw [hp2]
    exact ⟨⟨_, Heap.get?_push_size _ rfl, rfl, rfl⟩, hT.push _⟩
  dsimp only
  rw [← hp2]
  refine wpAny_bind (wpAny_newList ?_)
  rw [nm]
  obtain ⟨bt, hbt⟩ : ∃ bt : Nat → Nat → Bool, bt = fun i j => decide (numAt ar i > numAt ar j) := ⟨_, rfl⟩
  have hcmp : CmpOf prog w A.in1 .Gt (fun i v => (intItems ar)[i]? = some v) bt := by
    rw [hbt]
    exact CmpOf.ints_gt (numAt ar) fun _ _ => intItems_at
  have hS : p2.objs.size ∉ [p1.objs.size, hp.objs.size] := by
    intro m
    simp only [List.mem_cons, List.not_mem_nil, or_false] at m
    rw [z1, z2] at m
    rcases m with m | m
    · exact absurd m (Nat.succ_ne_self _)
    · exact absurd m (Nat.ne_of_gt (Nat.lt_of_lt_of_le (Nat.lt_succ_self _) (Nat.le_succ _)))
  refine wpAny_pure ⟨plainId_quiet PySem.F.plain_max_loop _, codeAny_max_loop_first W bt hcmp p2.objs.size hS (by omega) (W.frame _ _ _ hst fun b _ o e => Heap.get?_push_of_some _ e) (Heap.get?_push_size _ rfl) fun z h' tk hP hk => ?_⟩
  rw [n3] at hP
  refine h z h' tk ?_ fun c o e => hk c o (fun m => ?_) (fun m => ?_) (Heap.get?_push_of_some _ (by rw [hp2]; exact Heap.get?_push_of_some _ (old c o e)))
  · have n0 : numAt ar 0 = i := by rw [har]; rfl
    have n1 : numAt ar 1 = j := by rw [har]; rfl
    have n2 : numAt ar 2 = k := by rw [har]; rfl
    have a0 : (intItems ar)[0]? = some (.int i t) := by rw [← hit]; rfl
    have a1 : (intItems ar)[1]? = some (.int j u) := by rw [← hit]; rfl
    have a2 : (intItems ar)[2]? = some (.int k v) := by rw [← hit]; rfl
    have hP : (intItems ar)[argBest bt 2]? = some z := hP
    by_cases q1 : j > i
    · have e1 : argBest bt 1 = 1 := by
        show (if bt 1 0 then 1 else 0) = 1
        rw [hbt]; simp [n0, n1, q1]
      by_cases q2 : k > j
      · have e2 : argBest bt 2 = 2 := by
          show (if bt 2 (argBest bt 1) then 2 else argBest bt 1) = 2
          rw [e1, hbt]; simp [n2, n1, q2]
        rw [e2, a2] at hP
        cases hP
        exact ⟨v, by rw [show max (max i j) k = k by omega]⟩
      · have e2 : argBest bt 2 = 1 := by
          show (if bt 2 (argBest bt 1) then 2 else argBest bt 1) = 1
          rw [e1, hbt]; simp [n2, n1]; omega
        rw [e2, a1] at hP
        cases hP
        exact ⟨u, by rw [show max (max i j) k = j by omega]⟩
    · have e1 : argBest bt 1 = 0 := by
        show (if bt 1 0 then 1 else 0) = 0
        rw [hbt]; simp [n0, n1]; omega
      by_cases q2 : k > i
      · have e2 : argBest bt 2 = 2 := by
          show (if bt 2 (argBest bt 1) then 2 else argBest bt 1) = 2
          rw [e1, hbt]; simp [n2, n0, q2]
        rw [e2, a2] at hP
        cases hP
        exact ⟨v, by rw [show max (max i j) k = k by omega]⟩
      · have e2 : argBest bt 2 = 0 := by
          show (if bt 2 (argBest bt 1) then 2 else argBest bt 1) = 0
          rw [e1, hbt]; simp [n2, n0]; omega
        rw [e2, a0] at hP
        cases hP
        exact ⟨t, by rw [show max (max i j) k = i by omega]⟩
  · have lt := Heap.lt_size e
    rw [List.mem_singleton.mp m, z1] at lt
    exact Nat.lt_irrefl _ (Nat.lt_of_succ_lt lt)
  · have lt := Heap.lt_size e
    rw [m, z2] at lt
    exact Nat.lt_irrefl _ (Nat.lt_of_succ_lt (Nat.lt_of_succ_lt lt))
end
section
variable {X : Cx}
theorem call_max3 (hc : X.calm = true) : CallR X (.builtin "max") fun xs H Q => ∃ i j k, xs = [.int i, .int j, .int k] ∧ Q (.int (max (max i j) k)) H := by
  intro pins s σ H xs us Q I r h
  obtain ⟨i, j, k, rfl, q⟩ := h
  obtain ⟨u0, us, rfl, ⟨t, rfl⟩, r2⟩ : ∃ u us', us = u :: us' ∧ RelV (.int i) u ∧ Vals [.int j, .int k] us' := by
    cases r with
    | cons r1 r2 => exact ⟨_, _, rfl, r1, r2⟩
  obtain ⟨u1, u2, rfl, ⟨t1, rfl⟩, ⟨t2, rfl⟩⟩ := vals2 r2
  exact max3V (I.ok.hd hc) fun z h' tk hz kp => ⟨.int (max (max i j) k), H, I.kept kp, hz, q⟩
def cMax3 (ds : List D) (h : HH) : R D := match ds with
  | [.int i, .int j, .int k] => .ok (.int (max (max i j) k)) h
  | _ => .stuck
theorem c_max3 (hc : X.calm = true) : CallR X (.builtin "max") (rdC X cMax3) := CallR.mono (call_max3 hc) fun xs H Q q => by
  obtain ⟨T, h, ds, r, rs, q⟩ := q
  obtain ⟨d, h', e, q⟩ := rdO_ok q
  unfold cMax3 at e
  split at e
  · cases e
    unfold rels at rs
    obtain ⟨v, ws, rfl, rv, rs⟩ := rs
    obtain ⟨u, z, rfl, ru, rz⟩ := rels_two rs
    rw [rel_int_iff] at rv ru rz
    subst rv ru rz
    exact ⟨_, _, _, rfl, q T H _ Le.refl r (rel_int_iff.mpr rfl)⟩
  · cases e
end
@[simp] theorem wp_cMax3 {i j k : Int} {h : HH} {q : D → HH → Prop} {e : String → HH → Prop} : Wp q e (cMax3 [.int i, .int j, .int k] h) ↔ q (.int (max (max i j) k)) h := Iff.rfl
end Pu

namespace Pu
open PySem PySem.Spec PyProof.Rows L2

/-! ### list(zip(a, b)), a and b lists -/
section
variable {X : Cx} {pins : List (Addr × Obj)} {σ : L2.St} {H : Hp} {s : Shared}
/-- list of a zip that was just made over two lists -/
theorem list_zipL {a b : Addr} {xs ys : List V} {Q : VK} (I : Inv X pins σ H s) (hc : X.calm = true) (ha : SqL X.K H a xs) (hb : SqL X.K H b ys) (hn : min xs.length ys.length < sizeLine)
    (q : ∀ H' L as, LayZ H L xs ys as H' → H L = none → H' L = some (.lst (as.map V.ref)) → as.length = min xs.length ys.length → Q (.ref L) H') :
    wpAny (model X.prog X.w) X.A (call (.type "zip") [.ref a, .ref b]) (fun u s' => wpAny (model X.prog X.w) X.A (call (.type "list") [u]) (EP X pins σ Q) X.xe s') X.xe s := by
  obtain ⟨its1, rv1, p1, _⟩ := I.list ha
  obtain ⟨its2, rv2, p2, _⟩ := I.list hb
  replace p1 := p1.isList
  replace p2 := p2.isList
  have hal : a < s.heap.objs.size := by obtain ⟨_, q, _⟩ := id p1; exact Heap.lt_size q
  have hbl : b < s.heap.objs.size := by obtain ⟨_, q, _⟩ := id p2; exact Heap.lt_size q
  have rl1 := rv1.length
  have rl2 := rv2.length
  have gv : ∀ {zs : List V} {its : List Value}, Vals zs its → ∀ (i : Nat) (u : Value), its.toArray[i]? = some u → ∃ x, zs[i]? = some x ∧ RelV x u := fun {zs its} r i u e => by
    have e2 : its[i]? = some u := by simpa using e
    have hl := (List.getElem?_eq_some_iff.mp e2).1
    obtain ⟨x, hx⟩ : ∃ x, zs[i]? = some x := ⟨_, List.getElem?_eq_getElem (by rw [r.length]; exact hl)⟩
    obtain ⟨u', e3, rr⟩ := r.get hx
    rw [e2] at e3
    cases e3
    exact ⟨x, hx, rr⟩
  refine zip_begins2 (begins_list a its1.toArray) (begins_list b its2.toArray) p1 p2 fun h' hz hTI hTO h1 h2 hsz hk => ?_
  have hL : (h'.push { cls := .type "list", data := .seq #[] }).get? h'.objs.size = some { cls := .type "list", data := .seq #[] } := Heap.get?_push_size _ rfl
  have hh : X.A.in1.handled = none := I.ok.hd hc
  refine callType_codes (Q₁ := fun obj s₁ => obj = .ref h'.objs.size ∧ s₁ = { s with heap := h'.push { cls := .type "list", data := .seq #[] } }) F.called_list (F.typeCall_list_1 _) F.entry_list_init
    (code_list_new (s := { s with heap := h' }) _ ⟨rfl, rfl⟩) fun obj s₁ h₁ => ?_
  obtain ⟨rfl, rfl⟩ := h₁
  refine ⟨⟨_, hL, rfl⟩, F.args_list_init_2 _ _, ?_⟩
  have up : ∀ b o, h'.get? b = some o → (h'.push { cls := .type "list", data := .seq #[] }).get? b = some o := fun b o e => Heap.get?_push_of_some _ e
  have ne : ∀ k, k < 5 → h'.objs.size ≠ s.heap.objs.size + k := fun k hk z => by omega
  refine init_zip (A := X.A.in1) (s := { s with heap := h'.push { cls := .type "list", data := .seq #[] } }) (up _ _ hz) (ne 4 (by omega)) hL fun hl c hS oth => ?_
  have nb : ∀ {b : Addr} {o : Obj}, h'.get? b = some o → b ≠ h'.objs.size := fun e => Nat.ne_of_lt (Heap.lt_size e)
  have all : ∀ b o, h'.get? b = some o → hl.get? b = some o := fun b o e => oth b o (nb e) (up b o e)
  have fr : ∀ b, s.heap.objs.size ≤ b → H b = none := fun b hb => I.hok.fresh hb
  have I1 : Inv X pins σ (upd H h'.objs.size (.lst [])) { s with heap := hl } :=
    I.laid (t' := s.toks) (fun b o e => all b o (hk b o e)) (by omega) (show ObjOk X.prog X.w _ _ _ (.lst []) from ⟨Nat.zero_le _, [], c, .nil, hS⟩)
  have hLl : h'.objs.size < hl.objs.size := Heap.lt_size hS
  have D1 := PySem.Draws.list (prog := X.prog) (w := X.w) (A := X.A.in1.in1.in1) hh s.heap.objs.size a (Nat.ne_of_lt hal) its1.toArray
  have D2 := PySem.Draws.list (prog := X.prog) (w := X.w) (A := X.A.in1.in1.in1) hh (s.heap.objs.size + 1) b (Nat.ne_of_lt (Nat.lt_succ_of_lt hbl)) its2.toArray
  have sep := zip_sep2 (N := s.heap.objs.size) (fp1 := [a]) (fp2 := [b]) (fun c h => by rw [List.mem_singleton.mp h]; exact hal) (fun c h => by rw [List.mem_singleton.mp h]; exact hbl)
  refine loop_zip (X := X) (pins := pins) (σ := σ) (H0 := H) (xs := xs) (ys := ys) sep D1 D2 (gv rv1) (gv rv2) ?_ ?_ ?_ (ne 4 (by omega)) (ne 2 (by omega)) (ne 3 (by omega)) ?_ _ 0 _ (upd H h'.objs.size (.lst [])) [] c rfl (Nat.zero_le _) ?_ I1 ?_ upd_same rfl hS ?_ ?_
  · simp [← rl1, ← rl2]; omega
  · simp
    exact ⟨ne 0 (by omega), Nat.ne_of_gt (Nat.lt_of_lt_of_le hal (by omega))⟩
  · simp
    exact ⟨ne 1 (by omega), Nat.ne_of_gt (Nat.lt_of_lt_of_le hbl (by omega))⟩
  · intro s' H' as' I' e1 e2 lay
    exact ⟨rfl, .ref h'.objs.size, H', I', rfl, q H' _ as' lay (fr _ (by omega)) e1 (by simpa [rl1, rl2] using e2)⟩
  · refine ⟨all _ _ hTI, ⟨⟨_, all _ _ h1, rfl, rfl⟩, let ⟨o, e, r⟩ := p1; ⟨o, all _ _ (hk _ _ e), r⟩⟩, ⟨⟨_, all _ _ h2, rfl, rfl⟩, let ⟨o, e, r⟩ := p2; ⟨o, all _ _ (hk _ _ e), r⟩⟩, .inl ⟨all _ _ hz, _, _, all _ _ hTO⟩⟩
  · intro b' hb'
    have hb2 : s.heap.objs.size ≤ b' ∧ b' < h'.objs.size := by
      simp at hb'
      have g : ∀ k, k < 5 → s.heap.objs.size ≤ s.heap.objs.size + k ∧ s.heap.objs.size + k < h'.objs.size := fun k hk => ⟨Nat.le_add_right _ _, by omega⟩
      rcases hb' with z | z | z | z
      · rw [z]; exact g 4 (by omega)
      · rw [z]; exact g 3 (by omega)
      · rw [z]; exact g 0 (by omega)
      · rw [z]; exact g 1 (by omega)
    have hne : b' ≠ h'.objs.size := Nat.ne_of_lt hb2.2
    exact ⟨I.fpOk hb2.1 (by rw [upd_ne hne]; exact fr _ hb2.1), Nat.lt_trans hb2.2 hLl, hne⟩
  · exact fr _ (by omega)
  · exact ⟨fun b' o e => by rw [upd_ne (ne_of_none e (fr _ (by omega)))]; exact e, fun j T e => by simp at e⟩
end
section
variable {X : Cx} {W : WX} {k : Nat}
def tLstZipL (K : PySem.W.Frag) (ta : TA) : TE := fun σ H Q => ta σ H fun vs H1 => ∃ a b xs ys, vs = [.ref a, .ref b] ∧ SqL K H1 a xs ∧ SqL K H1 b ys ∧ min xs.length ys.length < sizeLine ∧
  ∀ H' L as, LayZ H1 L xs ys as H' → H1 L = none → H' L = some (.lst (as.map V.ref)) → as.length = min xs.length ys.length → Q (.ref L) H'
theorem pe_listZipL {e1 e2 : Expr} {ta : TA} {p p2 pos pos2 : Pos} (hc : X.calm = true) (hg : Gl X "list") (hm : X.mg "list" = none) (hg2 : Gl X "zip") (hm2 : X.mg "zip" = none) (ha : PA X [e1, e2] ta)
    (hs : starEach [e1, e2] X.env = (false, eval e1 X.env) :: starEach [e2] X.env := by rfl) (hpl : (backTo pos2 (starEach [e2] X.env)).any (·.1) = false := by rfl)
    (na : starEach [.Call (.Name "zip" p2) [e1, e2] [] pos2] X.env = (false, eval (.Call (.Name "zip" p2) [e1, e2] [] pos2) X.env) :: starEach [] X.env := by rfl) :
    PE X (.Call (.Name "list" p) [.Call (.Name "zip" p2) [e1, e2] [] pos2] [] pos) (tLstZipL X.K ta) := by
  refine ⟨fun pins s σ H Q I h => ?_⟩
  have inner : wpAny (model X.prog X.w) X.A (eval (.Call (.Name "zip" p2) [e1, e2] [] pos2) X.env) (fun u s' => wpAny (model X.prog X.w) X.A (call (.type "list") [u]) (EP X pins σ Q) X.xe s') X.xe s := by
    refine Call_ (ld_blt I hg2 hm2 PyProof.Rows.boot_zip (PyProof.Rows.callWith_type1 (thn (ha.run pos2 pins s σ H _ I h) fun us s1 ⟨vs, H1, I1, r1, q1⟩ => ?_) hs hpl))
    obtain ⟨a, b, xs, ys, ex, hqx, hqy, hn, q⟩ := q1
    subst ex
    cases r1 with
    | cons r rr =>
      cases rr with
      | cons r' rr =>
        cases rr
        cases r
        cases r'
        exact list_zipL I1 hc hqx hqy hn q
  exact Call_ (ld_blt I hg hm boot_list (PyProof.Rows.callWith_type1 (args_cons (thn inner fun u s1 q1 => args_nil q1) na) na))
def eListZipL (f : Exs) : Ex := fun env h => (f env h).bind fun ds h1 => match ds with
  | [d1, d2] => ofO (itemsL h1 d1) fun xs => ofO (itemsL h1 d2) fun ys => if min xs.length ys.length ≤ 1000 then .ok (.lst (zpL xs ys)) h1 else .stuck
  | _ => .stuck
theorem se_listZipL (C : Cok X W k) {e1 e2 : Expr} {f : Exs} {p p2 pos pos2 : Pos} (hg : Gl X "list") (hm : X.mg "list" = none) (hg2 : Gl X "zip") (hm2 : X.mg "zip" = none) (ha : SA X W [e1, e2] f)
    (hs : starEach [e1, e2] X.env = (false, eval e1 X.env) :: starEach [e2] X.env := by rfl) (hpl : (backTo pos2 (starEach [e2] X.env)).any (·.1) = false := by rfl)
    (na : starEach [.Call (.Name "zip" p2) [e1, e2] [] pos2] X.env = (false, eval (.Call (.Name "zip" p2) [e1, e2] [] pos2) X.env) :: starEach [] X.env := by rfl) :
    SE X W (.Call (.Name "list" p) [.Call (.Name "zip" p2) [e1, e2] [] pos2] [] pos) (eListZipL f) := PE.mono (pe_listZipL C.calm hg hm hg2 hm2 ha.pa hs hpl na) fun σ H Q hh => by
  obtain ⟨T, env, h, r1, r2, a⟩ := hh
  refine ⟨T, env, h, r1, r2, a.bind r1.mut fun ds h1 T1 H1 vs _ l1 q1 rvs a1 => ?_⟩
  split at a1
  · rename_i d1 d2 _
    obtain ⟨xs, ex, a1⟩ := After.ofO a1
    obtain ⟨ys, ey, a1⟩ := After.ofO a1
    split at a1
    · rename_i hle
      obtain ⟨v, u, rfl, rv, ru⟩ := rels_two rvs
      obtain ⟨p1, vs1, rfl, t1, w1⟩ := rel_itemsL q1 rv ex
      obtain ⟨p2, vs2, rfl, t2, w2⟩ := rel_itemsL q1 ru ey
      have hl1 : vs1.length = xs.length := rels_length w1
      have hl2 : vs2.length = ys.length := rels_length w2
      refine ⟨p1, p2, vs1, vs2, rfl, t1, t2, by rw [hl1, hl2, sizeLine_eq]; omega, fun H' L as lay hL hL' hlen => ?_⟩
      refine a1 T1 H' _ (Le.ext lay.1) (q1.ext lay.1) ?_
      unfold rel
      refine ⟨L, _, rfl, hL', q1.mut.free hL, rels_of_get ?_ fun j d hd => ?_⟩
      · unfold zpL
        rw [List.length_map, List.length_zipWith, hlen, hl1, hl2]
      · unfold zpL at hd
        rw [List.getElem?_zipWith_eq_some] at hd
        obtain ⟨x, y, hx, hy, rfl⟩ := hd
        have hjx := (List.getElem?_eq_some_iff.mp hx).1
        have hjy := (List.getElem?_eq_some_iff.mp hy).1
        obtain ⟨Tj, hT⟩ : ∃ Tj, as[j]? = some Tj := ⟨_, List.getElem?_eq_getElem (by omega)⟩
        obtain ⟨_, _, x', y', o, ex', ey', eT, ed⟩ := lay.2 j Tj hT
        obtain ⟨x2, ex2, rx⟩ := rels_get w1 hx
        obtain ⟨y2, ey2, ry⟩ := rels_get w2 hy
        rw [ex'] at ex2
        rw [ey'] at ey2
        cases ex2
        cases ey2
        refine ⟨.ref Tj, by rw [List.getElem?_map, hT]; rfl, ?_⟩
        unfold rel
        exact ⟨Tj, _, rfl, .inl ⟨o, eT, ed⟩, rels_cons (rel_mono (Le.ext lay.1) q1.mut _ _ rx) (rels_cons (rel_mono (Le.ext lay.1) q1.mut _ _ ry) rels_nil)⟩
    · exact a1.elim
  · exact a1.elim
end
section
variable {f : Exs} {env : En} {h : HH} {q : D → HH → Prop} {e : String → HH → Prop}
/-- two lists, of which is asked -/
def lzL (p : D → Prop) (h : HH) : List D → Prop
  | [d1, d2] => Wo (fun xs => Wo (fun ys => min xs.length ys.length ≤ 1000 ∧ p (.lst (zpL xs ys))) (itemsL h d2)) (itemsL h d1)
  | _ => False
@[simp] theorem lzL_tt {p : D → Prop} {d1 d2 : D} : lzL p h [d1, d2] ↔ Wo (fun xs => Wo (fun ys => min xs.length ys.length ≤ 1000 ∧ p (.lst (zpL xs ys))) (itemsL h d2)) (itemsL h d1) := Iff.rfl
@[simp ↓] theorem wp_eListZipL : Wp q e (eListZipL f env h) ↔ Wp (fun ds h1 => lzL (fun d => q d h1) h1 ds) e (f env h) := by
  unfold eListZipL
  rw [wp_bind]
  refine wp_congr fun ds h1 => ?_
  unfold lzL
  split
  · exact wp_wo fun xs => wp_wo fun ys => wp_if
  · exact Iff.rfl
end
end Pu

namespace Pu
open PySem PySem.Spec PyProof.Rows L2

/-! ### a dict that stands still while a statement runs, its keys walked -/
def sLock (i : Nat) (f : Sx) : Sx := fun env h => match env[i]? with
  | some (some (.ref j)) => match h[j]? with
    | some (.dic kvs) => unS j kvs (f env (h.set j (.lkd kvs)))
    | _ => .stuck
  | _ => .stuck
def iKeysL (i : Nat) : Ei := fun env h => match env[i]? with
  | some (some (.ref j)) => match h[j]? with
    | some (.lkd kvs) => .ok ⟨kvs.map fun p => kD p.1, []⟩ h
    | _ => .stuck
  | _ => .stuck
section
variable {X : Cx} {W : WX} {k : Nat}
theorem ss_lock {i : Nat} {st : Stmt} {f : Sx} (hs : SS X W st f) : SS X W st (sLock i f) := PS.mono (ps_lock hs) fun E σ H hh => by
  obtain ⟨T, env, h, r1, r2, a⟩ := hh
  unfold sLock at a
  split at a
  · rename_i j e1
    split at a
    · rename_i kvs e2
      obtain ⟨v, e3, q⟩ := r2.2 i _ e1
      unfold rel at q
      obtain ⟨d, rfl, hj⟩ := q
      obtain ⟨d', hj', ks, hd, rk⟩ := r1.at_ j _ e2
      rw [hj] at hj'
      cases hj'
      have hl : d ∈ T.L := List.mem_of_getElem? hj
      have nf : ∀ q xs, H d ≠ some (.frz q (.dK xs)) := by intro _ _ z; rw [hd] at z; cases z
      refine ⟨d, .dK ks, hd, trivial, fun od => ?_⟩
      have lw : Le T H T (upd H d (.frz od (.dK ks))) := Le.wr hl nf
      exact ⟨T, env, h.set j (.lkd kvs), r1.wr hj LD.lk ⟨ks, ⟨od, upd_same⟩, relk_mono lw r1.mut _ _ rk⟩, relE_mono lw r1.mut r2, unS_after (od := od) a r1.mut hd hj rk⟩
    · exact a.elim
  · exact a.elim
theorem si_keysL {tg : Expr} {x : Str} {i : Nat} {p : Pos} (hN : X.N[i]? = some x) (hv : Vis X.env.scope x)
    (hd : (x == ("__debug__" : Str)) = false := by decide) (hcd : (x == ("__classdict__" : Str)) = false := by decide) : SI X W tg (.Name x p) (iKeysL i) :=
  PI.mono (pi_keys (pe_var hN hv hd hcd)) fun σ H R hh => by
    obtain ⟨T, env, h, r1, r2, a⟩ := hh
    unfold iKeysL at a
    split at a
    · rename_i j e1
      split at a
      · rename_i kvs e2
        obtain ⟨v, e3, q⟩ := r2.2 i _ e1
        unfold rel at q
        obtain ⟨d, rfl, hj⟩ := q
        obtain ⟨d', hj', ks, ⟨od, hd⟩, rk⟩ := r1.at_ j _ e2
        rw [hj] at hj'
        cases hj'
        have kl : (kvs.map fun p => kD p.1).length = ks.length := by rw [List.length_map, relk_length rk]
        have hl : d ∈ T.L := List.mem_of_getElem? hj
        refine ⟨.ref d, e3, d, od, rfl, .inl ⟨ks, hd, After.done a r1 ⟨_, _, by rw [kl]; exact walk_keys, fun T1 H1 h1 l _ _ => l.lk d od ks hd, fun n H1 x H' hn y T1 h1 l r _ => ?_⟩⟩⟩
        obtain ⟨rfl, k0, v, hk, rfl⟩ := y
        have hik : n < kvs.length := by rw [List.length_map] at hn; exact hn
        have ek : kV k0 = toV kvs[n].1 := by
          have := congrArg (fun l => l[n]?) (relk_keys rk)
          simp only [List.getElem?_map, hk, Option.map_some, List.getElem?_eq_getElem hik] at this
          exact Option.some.inj this
        exact ⟨kD kvs[n].1, by rw [List.getElem?_map, List.getElem?_eq_getElem hik]; rfl, Le.refl, r, by rw [ek]; exact rel_kD _⟩
      · exact a.elim
    · exact a.elim
end
theorem wb_sLock {i j : Nat} {f : Sx} {env : En} {h : HH} {kvs : List (Ky × D)} {K : Ks} (e1 : env[i]? = some (some (.ref j))) (e2 : h[j]? = some (.dic kvs)) :
    Wb K (sLock i f env h) ↔ Wb (Kun j kvs K) (f env (h.set j (.lkd kvs))) := by
  unfold sLock
  rw [e1]
  dsimp only
  rw [e2]
  exact wb_unS
theorem iKeysL_at {i j : Nat} {env : En} {h : HH} {kvs : List (Ky × D)} (e1 : env[i]? = some (some (.ref j))) (e2 : h[j]? = some (.lkd kvs)) : iKeysL i env h = .ok ⟨kvs.map fun p => kD p.1, []⟩ h := by
  unfold iKeysL
  rw [e1]
  dsimp only
  rw [e2]
end Pu

namespace Pu
open PySem PySem.Spec PyProof.Rows L2

/-! ### sorted of a list of tuples that is in order -/
section
open PySem.W
theorem each_zip {α β : Type} {S : α → β → Prop} : ∀ {vs : List α} {ds : List β}, PySem.W.EachIs S vs ds → PySem.W.EachIs (fun v (b : α × β) => v = b.1 ∧ S v b.2) vs (vs.zip ds)
  | _, _, .nil => .nil
  | _, _, .cons h t => .cons ⟨rfl, h⟩ (each_zip t)
theorem each_fst {α β : Type} : ∀ {vs : List α} {bs : List (α × β)}, PySem.W.EachIs (fun v (b : α × β) => v = b.1) vs bs → vs = bs.map Prod.fst
  | _, _, .nil => rfl
  | _, _, .cons h t => by rw [List.map_cons, ← h, ← each_fst t]
variable {X : Cx} {W : WX} {k : Nat}
theorem cr_sortedO (hu : X.A.units + 65 < cLine) : CallR X (.builtin "sorted") fun vs H Q => ∃ (a : Addr) (ws : List V) (ds : List PyData), vs = [V.ref a] ∧ SqL X.K H a ws ∧ DpAll X.K H ws ds ∧ AllAlike ds ∧ PySem.W.Sortable ds ∧ ds.Pairwise (fun x y => dataLe false id x y = true) ∧ (∀ d ∈ ds, d.depth ≤ 60) ∧
    ∀ p : Addr, H p = none → Q (.ref p) (upd H p (.lst ws)) := by
  intro pins s σ H vs us Q I r h
  obtain ⟨a, ws, ds, rfl, hs, hd, hal, hk, hp, hz, q⟩ := h
  obtain ⟨its, rv, hl, hsz⟩ := I.list hs
  rw [Vals.ref1 r]
  obtain ⟨as, er⟩ := Dp.readsAll I ds ws its hd rv
  have e0 : EachIs (fun v b => ∃ as, Reads s.heap v (id b) as) its ds := readsAll_each id (bs := ds) (by rw [List.map_id]; exact er)
  have el := e0.length
  have ez := each_zip e0
  have em : (its.zip ds).map Prod.snd = ds := List.map_snd_zip (by omega)
  have ef : (its.zip ds).map Prod.fst = its := List.map_fst_zip (by omega)
  have hpz : (its.zip ds).Pairwise fun x y => dataLe false Prod.snd x y = true := by
    have := hp
    rw [← em, List.pairwise_map] at this
    exact this
  have es : (its.zip ds).mergeSort (dataLe false Prod.snd) = its.zip ds := (sort_unique (sortLe_total _ false _) hpz fun _ => rfl).symm
  have zl : (its.zip ds).length = its.length := by rw [List.length_zip]; omega
  have il : its.length = ws.length := by rw [← rv.length]
  refine sorted_data (bs := its.zip ds) (enc := Prod.snd) (R := fun v b => v = b.1) hl.isList (ez.mono fun _ _ h => h.1) (ez.mono fun _ _ h => h.2) (by rw [em]; exact hal) (by rw [em]; exact hk) (by rw [zl, il]; exact hsz) (fun b hb => ?_) fun out ho he => ?_
  · have := hz b.2 (by rw [← em]; exact List.mem_map.mpr ⟨b, hb, rfl⟩)
    omega
  · rw [es] at he
    have eo : out = its := by rw [each_fst he, ef]
    subst eo
    obtain ⟨ep, he'⟩ := PyProof.Rows.sortedAll_at s.heap out out.toArray
    exact ⟨.ref _, upd H (s.heap.objs.size + 1) (.lst ws), I.laid (t' := s.toks) (fun _ _ => PyProof.Rows.sortedAll_old) (Nat.le_succ _) ⟨hsz, out, ep, rv, he'⟩, rfl, q _ (I.hok.fresh (Nat.le_succ _))⟩
theorem cr_sorted1 : CallR X (.builtin "sorted") fun vs H Q => ∃ (a : Addr) (ws : List V), vs = [V.ref a] ∧ SqL X.K H a ws ∧ ws.length ≤ 1 ∧
    ∀ p : Addr, H p = none → Q (.ref p) (upd H p (.lst ws)) := by
  intro pins s σ H vs us Q I r h
  obtain ⟨a, ws, rfl, hs, h1, q⟩ := h
  obtain ⟨its, rv, hl, hsz⟩ := I.list hs
  rw [Vals.ref1 r]
  have il : its.length = ws.length := by rw [← rv.length]
  refine SrtO.sorted_ord SrtO.swo_int hl.isList (by rw [il]; exact hsz) (fun h2 h₁ a' _ _ => absurd h2 (by omega)) fun out _ h2 => ?_
  have eo : out = its := by
    have hp := h2.perm
    cases its with
    | nil => exact hp.eq_nil
    | cons x r =>
      cases r with
      | nil => exact hp.eq_singleton
      | cons y r => simp at il; omega
  subst eo
  obtain ⟨ep, he'⟩ := PyProof.Rows.sortedAll_at s.heap out out.toArray
  exact ⟨.ref _, upd H (s.heap.objs.size + 1) (.lst ws), I.laid (t' := s.toks) (fun _ _ => PyProof.Rows.sortedAll_old) (Nat.le_succ _) ⟨hsz, out, ep, rv, he'⟩, rfl, q _ (I.hok.fresh (Nat.le_succ _))⟩
/-- a tuple of something -/
def tupB : D → Bool
  | .tup (_ :: _) => true
  | _ => false
def ordB (xs : List D) : Bool := isDs xs && decide (deeps xs ≤ 60) && (xs.all fun a => xs.all fun b => alike (toP a) (toP b)) && xs.all tupB && decide ((toPs xs).Pairwise fun x y => dataLe false id x y = true)
def srtO (xs : List D) : Option (List D) := if xs.length ≤ 1 then some xs else if ordB xs = true then some xs else none
theorem toPs_map : ∀ xs : List D, toPs xs = xs.map toP
  | [] => by unfold toPs; rfl
  | x :: xs => by unfold toPs; rw [toPs_map xs, List.map_cons]
theorem deep_in : ∀ {xs : List D} {d : D}, d ∈ xs → deep d ≤ deeps xs
  | x :: xs, d, h => by
    unfold deeps
    rcases List.mem_cons.mp h with z | z
    · rw [z]; omega
    · have := deep_in z; omega
def fSortO (f : Exs) : Exs := fun env h => (f env h).bind fun ds h1 => ofO (match ds with | [d] => itemsL h1 d | _ => none) fun xs => ofO (srtO xs) fun ys => .ok ys h1
theorem sf_sortO {e : Expr} {f : Exs} {p pos : Pos} (C : Cok X W k) (hg : Gl X "sorted") (hm : X.mg "sorted" = none) (ha : SA X W [e] f)
    (he : starEach [e] X.env = (false, eval e X.env) :: starEach [] X.env := by rfl) (hpl : (backTo pos (starEach [] X.env)).any (·.1) = false := by rfl) : SF X W (.Call (.Name "sorted" p) [e] [] pos) (fSortO f) :=
  PE.mono (pe_callB (cr_sorted1.or (cr_sortedO C.hu65)) hg hm boot_sorted ha.pa (by decide) (by decide) he hpl) fun σ H Q hh => by
    obtain ⟨T, env, h, r1, r2, a⟩ := hh
    refine ⟨T, env, h, r1, r2, a.bind0 fun ds h1 T1 H1 vs e l1 q1 rvs a1 => ?_⟩
    obtain ⟨xs, e1, a3⟩ := After.ofO a1
    obtain ⟨ys, e3, a2⟩ := After.ofO a3
    split at e1
    · rename_i d
      obtain ⟨v, rfl, rv⟩ := rels_one rvs
      obtain ⟨b, ws, rfl, sq, rr⟩ := rel_itemsL q1 rv e1
      have fin : ys = xs → ∀ p : Addr, H1 p = none → Q (.ref p) (upd H1 p (.lst ws)) := fun ey p hp => by
        subst ey
        exact a2 (T1.blk p) (upd H1 p (.lst ws)) _ (l1.trans r1.mut (Le.blk hp)) (q1.blk hp) ⟨p, _, rfl, upd_same, fun z => q1.mut.free hp (q1.sub p z), .inr rfl, l1.was q1.mut hp, rels_mono (Le.blk hp) q1.mut _ _ rr⟩
      unfold srtO at e3
      split at e3
      · rename_i h1
        cases e3
        refine .inl ⟨b, ws, rfl, sq, ?_, fin rfl⟩
        rw [rels_length rr]; exact h1
      · split at e3
        · rename_i ho
          cases e3
          unfold ordB at ho
          simp only [Bool.and_eq_true, decide_eq_true_eq] at ho
          obtain ⟨⟨⟨⟨o1, o2⟩, o3⟩, o4⟩, o5⟩ := ho
          refine .inr ⟨b, ws, toPs xs, rfl, sq, rels_dp xs ws o1 rr, ?_, ?_, o5, ?_, fin rfl⟩
          · intro d hd d' hd'
            rw [toPs_map] at hd hd'
            obtain ⟨x, hx, rfl⟩ := List.mem_map.mp hd
            obtain ⟨y, hy, rfl⟩ := List.mem_map.mp hd'
            exact List.all_eq_true.mp (List.all_eq_true.mp o3 x hx) y hy
          · refine .inl fun d hd => ?_
            rw [toPs_map] at hd
            obtain ⟨x, hx, rfl⟩ := List.mem_map.mp hd
            have := List.all_eq_true.mp o4 x hx
            unfold tupB at this
            split at this
            · exact ⟨_, _, by unfold toP toPs; rfl⟩
            · cases this
          · intro d hd
            rw [toPs_map] at hd
            obtain ⟨x, hx, rfl⟩ := List.mem_map.mp hd
            have := toP_deep x
            have := deep_in hx
            omega
        · cases e3
    · cases e1
end
@[simp ↓] theorem wp_fSortO {f : Exs} {env : En} {h : HH} {qs : List D → HH → Prop} {e : String → HH → Prop} : Wp qs e (fSortO f env h) ↔ Wp (fun ds h1 => Wo (fun xs => Wo (fun ys => qs ys h1) (srtO xs)) (match ds with | [d] => itemsL h1 d | _ => none)) e (f env h) := by
  unfold fSortO
  rw [wp_bind]
  exact wp_congr fun d h1 => wp_wo fun xs => wp_ofO
end Pu

namespace Pu
open PySem PySem.Spec PyProof.Rows L2 LamX

/-! ### a lambda without parameters, handed to a def -/
/-- what the maker's names hold, as a lambda keeps it -/
def keptD : En → List D
  | [] => []
  | some d :: r => d :: keptD r
  | none :: r => D.non :: keptD r
def keptV : En → L2.St → List V
  | some _ :: r, some v :: σ => v :: keptV r σ
  | _ :: r, _ :: σ => V.non :: keptV r σ
  | _, _ => []
section
variable {K : PySem.W.Frag} {T T' : Tk} {H H' : Hp}
theorem relE_tl {e : Option D} {env : En} {v : Option V} {σ : L2.St} (r : relE K T H (e :: env) (v :: σ)) : relE K T H env σ :=
  ⟨by have := r.1; simpa using this, fun i d h => by
    obtain ⟨u, e1, q⟩ := r.2 (i + 1) d (by simpa using h)
    exact ⟨u, by simpa using e1, q⟩⟩
theorem kept_rel : ∀ {env : En} {σ : L2.St}, relE K T H env σ → rels K T H (keptD env) (keptV env σ) ∧ ∀ {T' : Tk} {H' : Hp}, rels K T' H' (keptD env) (keptV env σ) → relE K T' H' env σ
  | [], [], _ => by
    refine ⟨?_, fun _ => ⟨rfl, fun i d h => by cases h⟩⟩
    unfold keptD keptV rels; rfl
  | [], _ :: _, r => by have := r.1; simp at this
  | _ :: _, [], r => by have := r.1; simp at this
  | none :: env, v :: σ, r => by
    have ih := kept_rel (relE_tl r)
    have e1 : keptV (none :: env) (v :: σ) = V.non :: keptV env σ := by cases v <;> rfl
    rw [e1]
    refine ⟨rels_cons (rel_non_iff.mpr rfl) ih.1, fun q => ?_⟩
    unfold keptD rels at q
    obtain ⟨u, t, e, _, q2⟩ := q
    cases e
    have z := ih.2 q2
    refine ⟨by rw [List.length_cons, List.length_cons, z.1], fun i d h => ?_⟩
    cases i with
    | zero => simp at h
    | succ i =>
      obtain ⟨u, e2, q3⟩ := z.2 i d (by simpa using h)
      exact ⟨u, by simpa using e2, q3⟩
  | some d0 :: env, v :: σ, r => by
    have ih := kept_rel (relE_tl r)
    obtain ⟨u, e0, q0⟩ := r.2 0 d0 rfl
    have e0 : v = some u := by simpa using e0
    subst e0
    refine ⟨rels_cons q0 ih.1, fun q => ?_⟩
    unfold keptD keptV rels at q
    obtain ⟨u', t, e, q1, q2⟩ := q
    cases e
    have z := ih.2 q2
    refine ⟨by rw [List.length_cons, List.length_cons, z.1], fun i d h => ?_⟩
    cases i with
    | zero =>
      simp at h
      subst h
      exact ⟨_, rfl, q1⟩
    | succ i =>
      obtain ⟨u, e2, q3⟩ := z.2 i d (by simpa using h)
      exact ⟨u, by simpa using e2, q3⟩
end
/-- the call of what a def got -/
def ActOk (P : Program) (w : World) (K : PySem.W.Frag) (mg : Str → Option Value) (base : Heap) (A : Around) (outer : List Env) (s : Shared) (H : Hp) (j : Nat) (a : Str) (f c : Addr) (q : Str) (ds : List D) (vs : List V) (t : HH → R D) : Prop :=
  ∀ (Eg : XK) (Ng : List Str) (qg : Str) (sg : Scope) (g : Addr) (cdg : Value) (i : Nat) (pn : List (Addr × Obj)) (xe : Value → Shared → Prop) (W : WX) (p1 p2 : Pos),
    Takes ((cxOf (L2.CX P w) P w K mg base Ng qg sg g cdg A outer s H Eg).tr pn xe) W → Room (j + 1) (A.deeper (envOfC qg sg s.heap.objs.size g cdg)) → Ng[i]? = some a → Vis sg a →
    PE ((cxOf (L2.CX P w) P w K mg base Ng qg sg g cdg A outer s H Eg).tr pn xe) (.Call (.Name a p1) [] [] p2)
      (fun σ G Q => σ[i]? = some (some (.ref f)) ∧ G c = some (CodeO c q) ∧ ∃ T h, RelH K T G h ∧ rels K T G ds vs ∧ After K mg W T G σ (rel K) Q (t h))
def eAct (i : Nat) (L : D) (t : HH → R D) : Ex := fun env h => match env[i]? with
  | some (some d) => if beqD d L = true then t h else .stuck
  | _ => .stuck
section
variable {P : Program} {w : World} {K : PySem.W.Frag} {mg : Str → Option Value} {base : Heap} {A : Around} {outer : List Env} {s : Shared} {H : Hp} {j : Nat} {a : Str} {fa ca : Addr} {q : Str} {ds : List D} {vs : List V} {t : HH → R D}
theorem se_act {Eg : XK} {Ng : List Str} {qg : Str} {sg : Scope} {g : Addr} {cdg : Value} {i : Nat} {pn : List (Addr × Obj)} {xe : Value → Shared → Prop} {W : WX} {p1 p2 : Pos} (act : ActOk P w K mg base A outer s H j a fa ca q ds vs t)
    (C : Cok ((cxOf (L2.CX P w) P w K mg base Ng qg sg g cdg A outer s H Eg).tr pn xe) W (j + 1)) (hN : Ng[i]? = some a) (hv : Vis sg a) :
    SE ((cxOf (L2.CX P w) P w K mg base Ng qg sg g cdg A outer s H Eg).tr pn xe) W (.Call (.Name a p1) [] [] p2) (eAct i (.lam fa ca q ds vs) t) :=
  PE.mono (act Eg Ng qg sg g cdg i pn xe W p1 p2 C.tk C.hr hN hv) fun σ G Q hh => by
    obtain ⟨T, env, h, r1, r2, b⟩ := hh
    unfold eAct at b
    split at b
    · rename_i d e
      split at b
      · rename_i hd
        have hd := beqD_eq _ _ hd
        subst hd
        obtain ⟨v, e1, r3⟩ := r2.2 i _ e
        unfold rel at r3
        obtain ⟨rfl, r4, r5⟩ := r3
        exact ⟨e1, r4, T, h, r1, r5, b⟩
      · exact b.elim
    · exact b.elim
end
/-- a def that gets a lambda, as the only thing it gets -/
structure FnGL (P : Program) (w : World) (K : PySem.W.Frag) (mg : Str → Option Value) (base : Heap) (j : Nat) (f : Addr) (fd : FuncData) (a : Str) (F : D → (HH → R D) → Fn) : Prop where
  run : ∀ (A : Around) (outer : List Env) (s : Shared) (H : Hp) (args : Args) (fa ca : Addr) (q : Str) (ds : List D) (vs : List V) (t : HH → R D) (T : Tk) (h : HH) (Q : VK) (E : XK), Room (j + 2) A → A.guards = some [] → Env0 P w K mg base A outer s H →
    BindsTo s fd args [(a, .ref fa)] → RelH K T H h → rel K T H (.lam fa ca q ds vs) (.ref fa) → ActOk P w K mg base A outer s H j a fa ca q ds vs t → AfterF K mg T H Q E (F (.lam fa ca q ds vs) t [.lam fa ca q ds vs] h) →
    codeAny (model P w) A (.call (.ref f) args) (CR (L2.CX P w) outer P w H s Q E) s
section
variable {P : Program} {w : World} {K : PySem.W.Frag} {mg : Str → Option Value} {base : Heap} {k j : Nat} {f : Addr} {fd : FuncData} {a : Str}
theorem fnGL_of {name qual : Str} {st : Stmt} {N : List Str} {b : D → (HH → R D) → Sx} (Fu : Fun K name qual st f fd) (sc : FnScope N [a] (defScope st))
    (hbody : ∀ (cdv : Value) (A : Around) (outer : List Env) (s : Shared) (H : Hp) (E : XK) (fa ca : Addr) (q : Str) (ds : List D) (vs : List V) (t : HH → R D), ActOk P w K mg base A outer s H j a fa ca q ds vs t →
      Cok (cxOf (L2.CX P w) P w K mg base N qual (defScope st) f cdv A outer s H E) (fun cls d _ G => E cls d G) (j + 1) →
      SB (cxOf (L2.CX P w) P w K mg base N qual (defScope st) f cdv A outer s H E) (fun cls d _ G => E cls d G) (defBody st) (b (.lam fa ca q ds vs) t)) : FnGL P w K mg base j f fd a (fun L t => runF N.length (b L t)) := by
  obtain ⟨oc, od, kV, doc, pm, an, cdv, ct, osl, rfl, lk, hcd⟩ := Fu.ex
  refine ⟨fun A outer s H args fa ca q ds vs t T h Q E hr hgd e0 hb rh rl act aa => ?_⟩
  have KX : K.In s.heap := e0.mod.kin.keeps fun b o e => (e0.bs b o e).1
  have lim : s.heap.NoLimit := e0.mod.nolimit.keeps fun b o e => (e0.bs b o e).1
  have hkind : ∀ y ∈ ([a] : List Str).zip [Value.ref fa], (defScope st).names.lookup y.1 = some .local ∨ ((defScope st).names.lookup y.1 = some .cell ∧ ((cellsFrom (s.heap.objs.size + 1) (defScope st).names []).lookup y.1).isSome = true) := fun y hy => by
    rcases sc.par y.1 (List.of_mem_zip hy).1 with q | q
    · exact .inl q
    · exact .inr ⟨q, PySem.W.cellsFrom_some _ _ _ (.inl q)⟩
  refine codeAny_call_function hr.depth (KX _ _ lk) rfl sc.co sc.gen rfl (PySem.W.codeRec_of KX hcd) (hb _ _ _ _ ?_)
  refine wpAny_newFunctionEnv_cells sc.kind hkind fun env he s1 x => ?_
  subst he
  refine ⟨lim.keeps x.toInCall.keep, codeAny_func ?_⟩
  have ok : Cok (cxOf (L2.CX P w) P w K mg base N qual (defScope st) f cdv A outer s H E) (fun cls d _ G => E cls d G) (j + 1) := ⟨rfl, takes_of rfl rfl rfl rfl, passes_of rfl, hr.deeper _, hgd⟩
  have ht := hbody cdv A outer s H E fa ca q ds vs t act ok
  have I : Inv (cxOf (L2.CX P w) P w K mg base N qual (defScope st) f cdv A outer s H E) [] (L2.start N [.ref fa]) H s1 := inv_start sc hr.hd e0 rfl (.cons rfl .nil) x
  have hq : rdSt (cxOf (L2.CX P w) P w K mg base N qual (defScope st) f cdv A outer s H E) (fun cls d _ G => E cls d G) (b (.lam fa ca q ds vs) t) { nx := fun _ H' => Q .non H', rt := Q } (L2.start N [.ref fa]) H := by
    refine ⟨T, _, h, rh, relE_start (rels_cons rl rels_nil), ?_⟩
    revert aa
    unfold runF
    cases b (.lam fa ca q ds vs) t (([.lam fa ca q ds vs] : List D).map some ++ List.replicate (N.length - ([.lam fa ca q ds vs] : List D).length) none) h with
    | next env' h' => exact fun a T' H' σ l q _ => a T' H' .non l q (rel_non_iff.mpr rfl)
    | ret d h' => exact fun a T' H' v l q rv => a T' H' v l q rv
    | brk env' h' => exact fun a => a.elim
    | cont env' h' => exact fun a => a.elim
    | exc c env' h' => exact fun a C T' H' σ hm l q _ => a C T' H' hm l q
    | stuck => exact fun a => a.elim
  refine wpAny_mono (ht.run [] s1 (L2.start N [.ref fa]) H _ I hq) (fun fl s' hs => ?_) fun e s' hs => hs
  cases fl with
  | ret u =>
    obtain ⟨v, σ', H', J, rv, q⟩ := hs
    exact ⟨v, H', J.os, J.bare, J.base, J.hok, rv, q⟩
  | next =>
    obtain ⟨σ', H', J, q⟩ := hs
    exact ⟨V.non, H', J.os, J.bare, J.base, J.hok, rfl, q⟩
  | brk =>
    obtain ⟨_, _, _, q⟩ := hs
    exact False.elim q
  | cont =>
    obtain ⟨_, _, _, q⟩ := hs
    exact False.elim q
end
/-- whatever the lambda's addresses: the one telling -/
noncomputable def anyL (g : D → R D) : R D := open Classical in if h : ∃ r, ∀ L, g L = r then h.choose else .stuck
theorem anyL_eq {g : D → R D} {r : R D} (h : ∀ L, g L = r) : anyL g = r := by
  have e : ∃ r, ∀ L, g L = r := ⟨r, h⟩
  unfold anyL
  rw [dif_pos e]
  have := e.choose_spec .non
  rw [← this, h .non]
theorem anyL_all {g : D → R D} {r : R D} (h : anyL g = r) : r = .stuck ∨ ∀ L, g L = r := by
  unfold anyL at h
  split at h
  · rename_i e
    right
    intro L
    rw [← h]
    exact e.choose_spec L
  · exact .inl h.symm
/-- x(lambda: e) -/
noncomputable def eLam (F : D → (HH → R D) → Fn) (f : Ex) : Ex := fun env h => anyL fun L => F L (fun h' => f env h') [L] h
theorem wp_lam {F : D → (HH → R D) → Fn} {f : Ex} {env : En} {h h' : HH} {d : D} {q : D → HH → Prop} {e : String → HH → Prop} (hF : ∀ L, F L (fun h' => f env h') [L] h = .ok d h') (k : q d h') : Wp q e (eLam F f env h) := by
  unfold eLam
  rw [anyL_eq hF]
  exact k
end Pu

namespace Pu
open PySem PySem.Spec PyProof.Rows L2 LamX

section
variable {X : Cx} {pins : List (Addr × Obj)} {σ : L2.St} {H : Hp} {s : Shared}
theorem act_ok {scope : Scope} {f c' : Addr} {pm ctv : Value} {params : Arguments} {body : Expr} {j : Nat} {a : Str} {env : En} {th : Ex} {T0 : Tk} (hgd : X.A.guards = some [])
    (I : Inv X pins σ H s) (L : LamS X.env.scope scope) (hf : s.heap.get? f = some (PySem.W.kla_obj "<lambda>" (X.env.qual ++ "<lambda>") params body scope (cloFrom X.env.cells scope.names []) pm c' ctv)) (hfn : H f = none) (hfr : f ∉ frs X.stack)
    (hbind : ∀ (q : Str) (cl : List (Str × Addr)) (pm cv ctv : Value), bindArgs (PySem.W.kla_fn "<lambda>" q params body scope cl pm cv ctv) ⟨[], []⟩ = pure [])
    (hbody : ∀ (A : Around) (outer : List Env) (s : Shared) (H : Hp) (E : XK), Cok (lamCx X A outer s H E scope f c') (fun cls d _ G => E cls d G) j → SE (lamCx X A outer s H E scope f c') (fun cls d _ G => E cls d G) body th)
    (r0 : relE X.K T0 H env σ) (hd : (a == ("__debug__" : Str)) = false) (hcd : (a == ("__classdict__" : Str)) = false) :
    ActOk X.prog X.w X.K X.mg X.base X.A X.stack s H j a f c' (X.env.qual ++ "<lambda>") (keptD env) (keptV env σ) (fun h => th env h) := by
  intro Eg Ng qg sg g cdg i pn xe W p1 p2 tk hr hN hv
  refine ⟨fun pinsZ sZ σZ HZ Q IZ w => ?_⟩
  obtain ⟨hs, hc, T, hh, rH, rs, aa⟩ := w
  have rE := (kept_rel r0).2 rs
  refine wpAny_Call_Name_kw (thn ((pe_var (pos := p1) (i := i) hN hv hd hcd).run pinsZ sZ σZ HZ (fun v H1 => v = .ref f ∧ H1 = HZ) IZ ⟨.ref f, hs, rfl, rfl⟩) fun u s1 ⟨v, H1, I1, rv, ev, eH⟩ => ?_)
  subst ev
  rw [eH] at I1
  obtain rfl : u = Value.ref f := rv
  have there := I1.base.keep f _ hf hfn hfr (fun z => nomatch (show f ∈ ([] : List Addr) from z))
  refine PySem.W.callWith_F0 ⟨_, _, _, _, there⟩ ?_
  obtain ⟨⟨oc, us, tc, hoc, hdc, hvc⟩, _, _⟩ := I1.hok c' _ hc
  have rc : codeAny (model X.prog X.w) (X.A.deeper (envOfC qg sg s.heap.objs.size g cdg)) (.call (.ref f) ⟨[], []⟩) (CR (L2.CX X.prog X.w) (envOfC qg sg s.heap.objs.size g cdg :: X.stack) X.prog X.w HZ s1 Q fun cls d G => W cls d σZ G) s1 := by
    refine PySem.W.kla_callFunE hr.depth there rfl L.co L.gen rfl ⟨c', oc, us, tc, rfl, hoc, hdc, hvc⟩ ?_
    rw [hbind]
    refine wpAny_pure (wpAny_newFunctionEnv (fun y hy => (L.own y hy).2) (fun y hy => absurd hy (by simp)) (fun h₁ hns hsb => ⟨I1.nolimit.fresh _ hsb, ?_⟩) L.kind)
    have J : Inv (lamCx X (X.A.deeper (envOfC qg sg s.heap.objs.size g cdg)) (envOfC qg sg s.heap.objs.size g cdg :: X.stack) s1 HZ (fun cls d G => W cls d σZ G) scope f c') [] σ HZ { s1 with heap := h₁, toks := s1.toks + ([] : List (Str × Value)).length } :=
      lam_start2 I L I1.env0 hr.hd I1.base hns fun b o e => hsb.extBut b o (Nat.ne_of_lt (Heap.lt_size e)) (Heap.get?_push_of_some _ e)
    have ok : Cok (lamCx X (X.A.deeper (envOfC qg sg s.heap.objs.size g cdg)) (envOfC qg sg s.heap.objs.size g cdg :: X.stack) s1 HZ (fun cls d G => W cls d σZ G) scope f c') (fun cls d _ G => W cls d σZ G) j := ⟨rfl, takes_of rfl rfl rfl rfl, passes_of rfl, hr.deeper _, hgd⟩
    show codeAny _ _ (.expr body (lamEnv X scope s1.heap.objs.size f c')) _ _
    have aa2 : After X.K X.mg (fun cls d _ G => W cls d σZ G) T HZ σ (rel X.K) Q (th env hh) := by
      revert aa
      show After X.K X.mg W T HZ σZ (rel X.K) Q (th env hh) → _
      cases th env hh with
      | ok d h' => exact fun a => a
      | exc c h' => exact fun a => a
      | stuck => exact fun a => a
    refine PySem.W.kla_codeExpr (wpAny_mono ((hbody _ _ s1 HZ _ ok).run [] _ _ HZ Q J ⟨T, env, hh, rH, rE, aa2⟩) (fun v s' hq => ?_) fun e s' hq => hq)
    obtain ⟨w', H', J', rv, q⟩ := hq
    exact ⟨w', H', J'.os, J'.bare, J'.base, J'.hok, rv, q⟩
  refine wpAny_call (codeAny_mono rc fun r s' hq => ?_)
  cases r with
  | error e => exact tk e s' (XE.of_call I1 (fun _ _ _ h => h) hq)
  | ok fl =>
    cases fl with
    | ret u => exact I1.after hq
    | next => exact False.elim hq
    | brk => exact False.elim hq
    | cont => exact False.elim hq
/-- a table that grew, a code object that is new: what is known stays -/
theorem Le.tab {T : Tk} {H1 : Hp} (e : ExtN H H1) (t : ∀ b ps, H b = some (.tbl ps) → ∃ ps', H1 b = some (.tbl ps')) : Le T H T H1 :=
  ⟨⟨[], by simp⟩, fun _ h => h, fun _ h => .inl h, fun _ h => .inl h, fun a o h _ n => e a o h n, fun a ps h _ => t a ps h, rfl, fun a q xs h => e a _ h fun _ z => nomatch z⟩
theorem RelH.tab {K : PySem.W.Frag} {T : Tk} {h : HH} {H1 : Hp} (r : RelH K T H h) (e : ExtN H H1) (t : ∀ b ps, H b = some (.tbl ps) → ∃ ps', H1 b = some (.tbl ps')) (tb : Tabs (QK K) H1) : RelH K T H1 h := by
  have l : Le T H T H1 := Le.tab e t
  refine ⟨r.len, r.nd, fun i o he => ?_, r.sub, fun b hb => ?_, tb⟩
  · obtain ⟨b, e1, q⟩ := r.at_ i o he
    refine ⟨b, e1, ?_⟩
    cases o with
    | lst ds => obtain ⟨us, q, rr⟩ := q; exact ⟨us, e _ _ q fun _ z => (nomatch z), rels_mono l r.mut ds us rr⟩
    | dic ds => obtain ⟨us, q, rr⟩ := q; exact ⟨us, e _ _ q fun _ z => (nomatch z), relk_mono l r.mut ds us rr⟩
    | lkd ds => obtain ⟨us, ⟨o, q⟩, rr⟩ := q; exact ⟨us, ⟨o, e _ _ q fun _ z => (nomatch z)⟩, relk_mono l r.mut ds us rr⟩
  · obtain ⟨xs, z | ⟨ys, z | ⟨o', z⟩⟩⟩ := r.occ b hb
    · exact ⟨xs, .inl (e _ _ z fun _ q => nomatch q)⟩
    · exact ⟨xs, .inr ⟨ys, .inl (e _ _ z fun _ q => nomatch q)⟩⟩
    · exact ⟨xs, .inr ⟨ys, .inr ⟨o', e _ _ z fun _ q => nomatch q⟩⟩⟩
end
section
variable {X : Cx} {pins : List (Addr × Obj)} {σ : L2.St} {H : Hp} {s : Shared}
/-- what is told of the lambda that was made -/
def LamMade (X : Cx) (pins : List (Addr × Obj)) (σ : L2.St) (H : Hp) (T : List (Addr × Str)) (params : Arguments) (body : Expr) (scope : Scope) (Q : Value → Shared → Prop) : Prop :=
  ∀ (f c' : Addr) (pm ctv : Value) (H1 : Hp) (s' : Shared), Inv X pins σ H1 s' → ExtN H H1 → (∀ b ps, H b = some (.tbl ps) → ∃ ps', H1 b = some (.tbl ps')) → Tabs T H1 →
    s'.heap.get? f = some (PySem.W.kla_obj "<lambda>" (X.env.qual ++ "<lambda>") params body scope (cloFrom X.env.cells scope.names []) pm c' ctv) → H1 f = none → f ∉ frs X.stack → H1 c' = some (CodeO c' (X.env.qual ++ "<lambda>")) → Q (.ref f) s'
theorem off_frames (I : Inv X pins σ H s) {f : Addr} (hf : s.heap.objs.size ≤ f) : f ∉ frs X.stack := fun z => by
  have hlt := I.lt
  cases List.mem_cons.mp (I.stkSub _ z) with
  | inl e =>
    rw [← e] at hlt
    exact absurd hlt (Nat.not_lt.mpr hf)
  | inr e => exact I.nofs hf e
theorem tabs_more {T : List (Addr × Str)} {P c' : Addr} {q : Str} {ps : Array Value} {pos : Pos} (hT : Tabs T H) (hu : ∀ p ∈ T, p.1 = P → p.2 = q) (hP : H P = some (.tbl ps)) (nC : H c' = none) (ht : TriplesOk ps.toList)
    (ha : ∀ (pos : Pos) (cv : Value), codeAmong pos ps.toList = some cv → ∃ c, cv = .ref c ∧ H c = some (CodeO c q)) :
    Tabs T (upd (upd H P (.tbl (ps ++ #[rawInt pos.line, rawInt pos.col, .ref c']))) c' (CodeO c' q)) := fun p hp => by
  have nPc : P ≠ c' := ne_of_none hP nC
  have kept : ∀ b o, H b = some o → (∀ z, o ≠ .tbl z) → upd (upd H P (.tbl (ps ++ #[rawInt pos.line, rawInt pos.col, .ref c']))) c' (CodeO c' q) b = some o := fun b o e n => by
    rw [upd_ne (ne_of_none e nC), upd_ne fun z => n ps (by rw [z, hP] at e; exact (Option.some.inj e).symm)]
    exact e
  have el : (ps ++ #[rawInt pos.line, rawInt pos.col, .ref c']).toList = ps.toList ++ [rawInt pos.line, rawInt pos.col, .ref c'] := by simp
  by_cases hb : p.1 = P
  · rw [hu p hp hb, hb]
    refine ⟨_, (upd_ne nPc).trans upd_same, ?_, fun p' cv hcv => ?_⟩
    · rw [el]; exact PySem.TriplesOk_snoc _ _ _ _ ht
    · rw [el] at hcv
      cases among_app _ ht hcv with
      | inl z =>
        obtain ⟨c0, e1, e2⟩ := ha p' cv z
        exact ⟨c0, e1, kept _ _ e2 codeO_ne⟩
      | inr z => exact ⟨c', z, upd_same⟩
  · obtain ⟨qs, a1, a2, a3⟩ := hT p hp
    refine ⟨qs, (upd_ne (ne_of_none a1 nC)).trans ((upd_ne hb).trans a1), a2, fun p' cv hcv => ?_⟩
    obtain ⟨c0, e1, e2⟩ := a3 p' cv hcv
    exact ⟨c0, e1, kept _ _ e2 codeO_ne⟩
theorem lam_mk {T : List (Addr × Str)} {c P : Addr} {params : Arguments} {body : Expr} {scope : Scope} {pos : Pos} {E : Value → Shared → Prop} {Q : Value → Shared → Prop} (I : Inv X pins σ H s) (TB : TabB X.base X.mg c P) (hcode : X.env.code = .ref c)
    (hm : (P, X.env.qual ++ "<lambda>") ∈ T) (hu : ∀ p ∈ T, p.1 = P → p.2 = X.env.qual ++ "<lambda>") (hT : Tabs T H) (hdef : defaultsOf params X.env = ([], [])) (hfree : ∀ y ∈ scope.names, y.2 = .free → ∃ c, X.env.cells.lookup y.1 = some c)
    (h : LamMade X pins σ H T params body scope Q) : wpAny (model X.prog X.w) X.A (eval (.Lambda params body scope pos) X.env) Q E s := by
  obtain ⟨ps, hP, ht, ha⟩ := hT _ hm
  have gP : s.heap.get? P = some { cls := .none, data := .fields ps } := I.hok P _ hP
  have bm : s.heap.BuiltinsAt X.mg P := TB.bm.keeps I.bk
  have glob := I.mod.glob.keeps I.bk
  have code := TB.code.keeps I.bk
  refine PySem.W.kla_eval hdef ?_
  cases hc : codeAmong pos ps.toList with
  | some cv =>
    obtain ⟨c', rfl, hco⟩ := ha pos cv hc
    refine PySem.W.kla_makeFunctionHit (mg := X.mg) (c := c) (P := P) (ps := ps) (closure_ok hfree) I.ok.glob glob hcode code gP ht hc bm fun ctv h' tk hx hsz => ?_
    exact h h'.objs.size c' ((X.mg "__name__").getD .none) ctv H _ (I.kept fun b o e => Heap.get?_push_of_some _ (hx b o e)) (ExtN.refl H) (fun b ps e => ⟨ps, e⟩) hT (Heap.get?_push_size _ rfl) (I.hok.fresh hsz) (off_frames I hsz) hco
  | none =>
    refine PySem.W.kla_makeFunction (mg := X.mg) (c := c) (P := P) (ps := ps) (closure_ok hfree) I.ok.glob glob hcode code gP ht hc TB.gP bm fun c' ctv h' tk hx hge hlt hrec htb => ?_
    obtain ⟨c2, oc, us, tc, e2, hoc, hd, hv⟩ := hrec
    cases e2
    have nC : H c' = none := I.hok.fresh hge
    have hsz : s.heap.objs.size ≤ h'.objs.size := Nat.le_trans hge (Nat.le_of_lt hlt)
    have n1 : h'.objs.size ≠ c' := Nat.ne_of_gt hlt
    have n2 : h'.objs.size ≠ P := Nat.ne_of_gt (Nat.lt_of_lt_of_le (Heap.lt_size gP) hsz)
    have J := inv_table (t' := tk) (q := X.env.qual ++ "<lambda>") (more := #[rawInt pos.line, rawInt pos.col, .ref c']) (h' := h'.push (PySem.W.kla_obj "<lambda>" (X.env.qual ++ "<lambda>") params body scope (cloFrom X.env.cells scope.names []) ((X.mg "__name__").getD .none) c' ctv)) I hP
      (fun b o hb e => Heap.get?_push_of_some _ (hx b o hb e)) (Heap.get?_push_of_some _ htb) hge ⟨oc, us, tc, Heap.get?_push_of_some _ hoc, hd, hv⟩
    refine h h'.objs.size c' ((X.mg "__name__").getD .none) ctv _ _ J (fun b o e n => ?_) (fun b qs e => ?_) (tabs_more hT hu hP nC ht ha) (Heap.get?_push_size _ rfl) ?_ (off_frames I hsz) upd_same
    · rw [upd_ne (ne_of_none e nC), upd_ne fun z => n ps (by rw [z, hP] at e; exact (Option.some.inj e).symm)]
      exact e
    · rw [upd_ne (ne_of_none e nC)]
      by_cases z : b = P
      · rw [z]; exact ⟨_, upd_same⟩
      · exact ⟨qs, by rw [upd_ne z]; exact e⟩
    · rw [upd_ne n1, upd_ne n2]
      exact I.hok.fresh hsz
end
section
variable {X : Cx} {W : WX} {k j : Nat} {g : Addr} {fd : FuncData} {a : Str} {F : D → (HH → R D) → Fn}
/-- x(lambda: e), x a def that gets it alone -/
theorem se_lam (C : Cok X W k) (G : FnGL X.prog X.w X.K X.mg X.base j g fd a F) (hk : j + 2 ≤ k) {x : Str} {c P : Addr} {params : Arguments} {body : Expr} {scope : Scope} {th : Ex} {p lpos pos : Pos} (hg : Gl X x) (hm : X.mg x = some (.ref g)) (hkp : PySem.W.keepIn X.K (.ref g) = true) (hb : Binds X.K fd [a] [])
    (TB : TabB X.base X.mg c P) (hcode : X.env.code = .ref c) (hQ : (P, X.env.qual ++ "<lambda>") ∈ QK X.K) (hu : ∀ p ∈ QK X.K, p.1 = P → p.2 = X.env.qual ++ "<lambda>") (L : LamS X.env.scope scope) (hdef : defaultsOf params X.env = ([], []))
    (hbind : ∀ (q : Str) (cl : List (Str × Addr)) (pm cv ctv : Value), bindArgs (PySem.W.kla_fn "<lambda>" q params body scope cl pm cv ctv) ⟨[], []⟩ = pure [])
    (hbody : ∀ (A : Around) (outer : List Env) (s : Shared) (H : Hp) (E : XK) (f c' : Addr), Cok (lamCx X A outer s H E scope f c') (fun cls d _ G => E cls d G) j → SE (lamCx X A outer s H E scope f c') (fun cls d _ G => E cls d G) body th)
    (hdb : (x == ("__debug__" : Str)) = false := by decide) (hd : (a == ("__debug__" : Str)) = false := by decide) (hcd : (a == ("__classdict__" : Str)) = false := by decide) :
    SE X W (.Call (.Name x p) [.Lambda params body scope lpos] [] pos) (eLam F th) := by
  refine ⟨fun pins s σ H Q I hh => wpAny_Call_Name_kw (ld_glob I hg hm ?_ hdb)⟩
  obtain ⟨T, env, h, r1, r2, aa⟩ := hh
  refine PySem.W.callWith_K (h₀ := X.base) I.ok.mod.kin hkp ?_ (by rfl) (by rfl)
  show wpAny _ _ (spliced ((false, eval (.Lambda params body scope lpos) X.env) :: backTo pos (starEach [] X.env))) _ _ s
  refine Calls.spliced_cons (lam_mk I TB hcode hQ hu r1.tabs hdef (L.has I.ok) fun f c' pm ctv H1 s' I1 eN kt tb hf hfn hfr hco => ?_)
  refine Calls.spliced_nil ⟨I1.kIn, ?_⟩
  have l1 : Le T H T H1 := Le.tab eN kt
  have q1 : RelH X.K T H1 h := r1.tab eN kt tb
  have rE := relE_mono l1 r1.mut r2
  have act := act_ok (a := a) (j := j) (th := th) C.gd I1 L hf hfn hfr hbind (fun A outer s H E => hbody A outer s H E f c') rE hd hcd
  have rl : rel X.K T H1 (.lam f c' (X.env.qual ++ "<lambda>") (keptD env) (keptV env σ)) (.ref f) := by
    unfold rel
    exact ⟨rfl, hco, (kept_rel rE).1⟩
  have b := hb s' [.ref f] I1.kIn rfl
  refine wpAny_call (codeAny_mono (G.run X.A X.stack s' H1 ⟨[.ref f], []⟩ f c' _ _ _ (fun h => th env h) T h Q (fun cls d G => W cls d σ G) (C.hr.mono hk) C.gd I1.env0 b q1 rl act ?_) fun r s2 hq => ?_)
  · unfold eLam at aa
    generalize er : anyL (fun L => F L (fun h' => th env h') [L] h) = r at aa
    rcases anyL_all er with e | e
    · subst e
      exact aa.elim
    · rw [e]
      revert aa
      cases r with
      | ok d h' => exact fun a T' H' v l q rv => a T' H' v (l1.trans r1.mut l) q rv
      | exc c h' => exact fun a C T' H' hm l q => a C T' H' hm (l1.trans r1.mut l) q
      | stuck => exact fun a => a
  · cases r with
    | error e => exact C.tk e s2 (XE.of_call I1 (fun _ _ _ h => h) hq)
    | ok fl =>
      cases fl with
      | ret u => exact I1.after hq
      | next => exact False.elim hq
      | brk => exact False.elim hq
      | cont => exact False.elim hq
end
end Pu

namespace Pu
open PySem PySem.Spec PyProof.Rows L2 LamX

section
variable {P : Program} {w : World} {K : PySem.W.Frag} {mg : Str → Option Value} {base : Heap} {k : Nat} {f : Addr} {fd : FuncData} {ps : List Str}
/-- a def that makes lambdas, by its body -/
theorem fnG_ofC {name qual : Str} {st : Stmt} {N : List Str} {b : Sx} {c : Addr} (Fu : Fun K name qual st f fd) (sc : FnScope N ps (defScope st)) (hco : fd.code = .ref c)
    (hbody : ∀ (cdv : Value), cdv = .ref c → ∀ (A : Around) (outer : List Env) (s : Shared) (H : Hp) (E : XK), Cok (cxOf (L2.CX P w) P w K mg base N qual (defScope st) f cdv A outer s H E) (fun cls d _ G => E cls d G) k →
      SB (cxOf (L2.CX P w) P w K mg base N qual (defScope st) f cdv A outer s H E) (fun cls d _ G => E cls d G) (defBody st) b) : FnG P w K mg base (k + 1) f fd ps (runF N.length b) := by
  obtain ⟨oc, od, kV, doc, pm, an, cdv, ct, osl, rfl, lk, hcd⟩ := Fu.ex
  refine ⟨fun A outer s H args us vs T ds h Q E hr hgd e0 hb r rh rs hl a => ?_⟩
  have hvl : vs.length = ps.length := (rels_length rs).trans hl
  have KX : K.In s.heap := e0.mod.kin.keeps fun b o e => (e0.bs b o e).1
  have lim : s.heap.NoLimit := e0.mod.nolimit.keeps fun b o e => (e0.bs b o e).1
  have hkind : ∀ y ∈ ps.zip us, (defScope st).names.lookup y.1 = some .local ∨ ((defScope st).names.lookup y.1 = some .cell ∧ ((cellsFrom (s.heap.objs.size + 1) (defScope st).names []).lookup y.1).isSome = true) := fun y hy => by
    rcases sc.par y.1 (List.of_mem_zip hy).1 with q | q
    · exact .inl q
    · exact .inr ⟨q, PySem.W.cellsFrom_some _ _ _ (.inl q)⟩
  refine codeAny_call_function hr.depth (KX _ _ lk) rfl sc.co sc.gen rfl (PySem.W.codeRec_of KX hcd) (hb _ _ _ _ ?_)
  refine wpAny_newFunctionEnv_cells sc.kind hkind fun env he s1 x => ?_
  subst he
  refine ⟨lim.keeps x.toInCall.keep, codeAny_func ?_⟩
  have ok : Cok (cxOf (L2.CX P w) P w K mg base N qual (defScope st) f cdv A outer s H E) (fun cls d _ G => E cls d G) k := ⟨rfl, takes_of rfl rfl rfl rfl, passes_of rfl, hr.deeper _, hgd⟩
  have ht := hbody cdv hco A outer s H E ok
  have I : Inv (cxOf (L2.CX P w) P w K mg base N qual (defScope st) f cdv A outer s H E) [] (L2.start N vs) H s1 := inv_start sc hr.hd e0 hvl r x
  have hq : rdSt (cxOf (L2.CX P w) P w K mg base N qual (defScope st) f cdv A outer s H E) (fun cls d _ G => E cls d G) b { nx := fun _ H' => Q .non H', rt := Q } (L2.start N vs) H := by
    refine ⟨T, _, h, rh, relE_start rs, ?_⟩
    revert a
    unfold runF
    cases b (ds.map some ++ List.replicate (N.length - ds.length) none) h with
    | next env' h' => exact fun a T' H' σ l q _ => a T' H' .non l q (rel_non_iff.mpr rfl)
    | ret d h' => exact fun a T' H' v l q rv => a T' H' v l q rv
    | brk env' h' => exact fun a => a.elim
    | cont env' h' => exact fun a => a.elim
    | exc c env' h' => exact fun a C T' H' σ hm l q _ => a C T' H' hm l q
    | stuck => exact fun a => a.elim
  refine wpAny_mono (ht.run [] s1 (L2.start N vs) H _ I hq) (fun fl s' hs => ?_) fun e s' hs => hs
  cases fl with
  | ret u =>
    obtain ⟨v, σ', H', J, rv, q⟩ := hs
    exact ⟨v, H', J.os, J.bare, J.base, J.hok, rv, q⟩
  | next =>
    obtain ⟨σ', H', J, q⟩ := hs
    exact ⟨V.non, H', J.os, J.bare, J.base, J.hok, rfl, q⟩
  | brk =>
    obtain ⟨_, _, _, q⟩ := hs
    exact False.elim q
  | cont =>
    obtain ⟨_, _, _, q⟩ := hs
    exact False.elim q
end
/-! ### a law with tables of code objects -/
/-- the law's start: cs, the code objects and their tables -/
theorem law_goT {P : Program} {w : World} {K : PySem.W.Frag} {mg mb : Str → Option Value} {k : Nat} {fa a : Addr} {cs : List (Addr × Addr)} {fd : FuncData} {x : Str} {F : Fn} {s₁ : Shared} {us : List Value} {ns : List Int}
    (KX : K.In s₁.heap) (hns : s₁.heap.Ns mainGlobals mg) (hb : s₁.heap.Ns builtinsNs mb) (hbb : ∀ x : Str, x ≠ "__name__" → mb x = bootBuiltins x) (hlim : s₁.heap.NoLimit) (hg : s₁.gens = #[])
    (hT : ∀ p ∈ cs, s₁.heap.get? p.2 = some { cls := .none, data := .fields #[] }) (nT : ∀ p ∈ cs, K.lookup p.2 = none) (C : ∀ p ∈ cs, PySem.W.CodeHd s₁.heap p.1 p.2) (hQ : ∀ p ∈ QK K, p.1 ∈ cs.map (·.2))
    (hbm : ∃ (bm : Addr) (ob : Obj), mg "__builtins__" = some (.ref bm) ∧ bm ≠ builtinsNs ∧ s₁.heap.get? bm = some ob ∧ ob.cls = .type "module" ∧ ob.dict = some builtinsNs ∧ ob.data = .plain)
    (ha : s₁.heap.get? a = some { cls := .type "list", data := .seq us.toArray }) (hi : IntsAre us ns) (hz : ns.length ≤ sizeLine) (hr : Room k callerA)
    (G : ∀ base : Heap, K.In base → base.Ns mainGlobals mg → (∀ p ∈ cs, TabB base mg p.1 p.2) → FnG P w K mg base k fa fd [x] F) (hbind : ∀ (s : Shared) (u : Value), BindsTo s fd ⟨[u], []⟩ [(x, u)])
    (hF : ∃ h', F [.frz (ns.map D.int)] [] = .ok (.bl true) h') :
    codeAny (model P w) callerA (.call (.ref fa) ⟨[.ref a], []⟩) (fun r s' => r = .ok (.ret (.bool true)) ∧ OldK s₁.heap s'.heap ∧ s'.os = s₁.os ∧ AllBare s'.gens) s₁ := by
  obtain ⟨hF1, hF⟩ := hF
  have vals := vals_ints hi
  have len := hi.length
  have tabAt : ∀ b, b ∈ cs.map (·.2) → s₁.heap.get? b = some { cls := .none, data := .fields #[] } := fun b hb => by
    obtain ⟨p, hp, e⟩ := List.mem_map.mp hb
    exact e ▸ hT p hp
  have aT : a ∉ cs.map (·.2) := fun z => by
    have q := (tabAt a z).symm.trans ha
    have z := congrArg Obj.data (Option.some.inj q)
    cases z
  have core : ∀ H : Hp, (∀ b, b ≠ a → b ∉ cs.map (·.2) → H b = none) → (∀ b, b ∈ cs.map (·.2) → H b = some (.tbl #[])) → (∀ u, H a = some u → ∃ o xs, u = .frz o (.lst xs)) → ((Rd H a (.lst (ns.map V.int))) ∨ ∀ G, SqL K G a (ns.map V.int)) → HOk P w H s₁.heap → (H a ≠ none → K.lookup a = none) →
      codeAny (model P w) callerA (.call (.ref fa) ⟨[.ref a], []⟩) (fun r s' => r = .ok (.ret (.bool true)) ∧ OldK s₁.heap s'.heap ∧ s'.os = s₁.os ∧ AllBare s'.gens) s₁ := by
    intro H h0 hTb hfr hS ok hK
    -- what is neither a list nor an empty table isn't hidden
    have open_ : ∀ {b : Addr} {o : Obj}, s₁.heap.get? b = some o → (∀ vs n, o.data ≠ .seq vs n) → o.data ≠ .fields #[] → H b = none := fun {b o} e n1 n2 => by
      refine h0 b (fun z => ?_) fun z => ?_
      · rw [z, ha] at e
        cases e
        exact n1 _ _ rfl
      · rw [tabAt b z] at e
        cases e
        exact n2 rfl
    have seen : ∀ {b : Addr} {o : Obj}, s₁.heap.get? b = some o → (∀ vs n, o.data ≠ .seq vs n) → o.data ≠ .fields #[] → (hidT s₁.heap H).get? b = some o := fun e n1 n2 => hidT_get e (open_ e n1 n2)
    have keepNs : ∀ {b : Addr} {m : Str → Option Value}, s₁.heap.Ns b m → (hidT s₁.heap H).Ns b m := fun ⟨o, es, ep, e, d, r⟩ => ⟨o, es, ep, seen e (fun vs n z => by rw [d] at z; cases z) (fun z => by rw [d] at z; cases z), d, r⟩
    have inB : K.In (hidT s₁.heap H) := fun b o e => by
      refine hidT_get (KX b o e) ?_
      by_cases hba : b = a
      · cases q : H b with
        | none => rfl
        | some u =>
          subst hba
          rw [hK (by rw [q]; simp)] at e; cases e
      · refine h0 b hba fun z => ?_
        obtain ⟨p, hp, ep⟩ := List.mem_map.mp z
        rw [← ep, nT p hp] at e
        cases e
    obtain ⟨mc, l1, l2⟩ := hlim
    have md : Mod K mg (hidT s₁.heap H) := ⟨inB, keepNs hns, ⟨mb, keepNs hb, hbb⟩, mc, keepNs l1, l2⟩
    have TB : ∀ p ∈ cs, TabB (hidT s₁.heap H) mg p.1 p.2 := fun p hp => by
      have tp := hT p hp
      have nG : mainGlobals ≠ p.2 := fun z => by
        obtain ⟨o, es, ep, e, d, _⟩ := hns
        rw [z, tp] at e
        cases e
        cases d
      refine ⟨?_, ?_, nG⟩
      · obtain ⟨o, us', file, tf, flags, tg, inF, text, tt, e, r1, r2, r3, rest⟩ := C p hp
        refine ⟨o, us', file, tf, flags, tg, inF, text, tt, seen e (fun vs n z => by rw [r2] at z; cases z) (fun z => ?_), r1, r2, r3, rest⟩
        rw [r2] at z
        cases z
        simp at r3
      · obtain ⟨bm, ob, b1, b2, b3, b4, b5, b6⟩ := hbm
        refine ⟨bm, ob, b1, b2, fun q => ?_, fun q => ?_, seen b3 (fun vs n z => by rw [b6] at z; cases z) (fun z => by rw [b6] at z; cases z), b4, b5, b6⟩
        · obtain ⟨o, es, ep, e, d, _⟩ := hns
          rw [q, e] at b3
          cases b3
          rw [d] at b6
          cases b6
        · rw [q, tp] at b3
          cases b3
          cases b6
    have env0 : Env0 P w K mg (hidT s₁.heap H) callerA [] s₁ H := ⟨rfl, md, fun b o e => of_hidT e, Nat.le_of_eq (hidT_size _ _), trivial, fun b hb => (nomatch (show b ∈ ([] : List Addr) from hb)), ok, .of_eq hg⟩
    have rr : rels K T0 H [.frz (ns.map D.int)] [.ref a] := by
      refine rels_cons ?_ rels_nil
      unfold rel
      exact ⟨a, _, rfl, hS.imp (fun z => ⟨z, fun z => z⟩) id, rels_ofInts ns⟩
    have tabs : Tabs (QK K) H := fun p hp => TabS.nil (hTb p.1 (hQ p hp))
    refine codeAny_mono ((G _ inB (keepNs hns) TB).run callerA [] s₁ H ⟨[.ref a], []⟩ [.ref a] [.ref a] T0 _ [] (fun v _ => v = .bl true) (fun _ _ _ => False) hr rfl env0 (hbind s₁ (.ref a)) (.cons rfl .nil) (relH0 tabs) rr rfl ?_) fun r s' h => ?_
    · rw [hF]
      exact fun T' H' v _ _ rv => rel_bl_iff.mp rv
    · cases r with
      | error e =>
        obtain ⟨_, _, _, _, _, _, _, _, _, _, _, _, z⟩ := h
        exact z.elim
      | ok fl =>
        cases fl with
        | ret u =>
          obtain ⟨v, H', os, bare, un, ok', rv, q⟩ := h
          have q : v = .bl true := q
          subst q
          cases rv
          have kept : ∀ b o, b ∉ cs.map (·.2) → s₁.heap.get? b = some o → s'.heap.get? b = some o := fun b o nb e => by
            cases q : H b with
            | none => exact un.keep b o e q (fun z => nomatch (show b ∈ ([] : List Addr) from z)) (by simp)
            | some u =>
              have hba : b = a := Classical.byContradiction fun z => by rw [h0 b z nb] at q; cases q
              subst hba
              obtain ⟨ob, xs, rfl⟩ := hfr u q
              obtain ⟨g1, _⟩ := ok b _ q
              obtain ⟨g2, _⟩ := ok' b _ (un.frzs b ob _ q)
              rw [e] at g1; cases g1
              exact g2
          have grown : ∀ p ∈ cs, ∃ more : Array Value, s'.heap.get? p.2 = some { cls := .none, data := .fields more } := fun p hp => by
            obtain ⟨more, z⟩ := un.tbls p.2 #[] (hTb p.2 (List.mem_map.mpr ⟨p, hp, rfl⟩))
            exact ⟨_, ok' p.2 _ z⟩
          refine ⟨rfl, ⟨fun b o e => ?_, fun b o e => ?_⟩, os, bare⟩
          · by_cases hb : b ∈ cs.map (·.2)
            · obtain ⟨p, hp, ep⟩ := List.mem_map.mp hb
              obtain ⟨more, hm⟩ := grown p hp
              subst ep
              rw [hT p hp] at e
              cases e
              exact .inr (.inl ⟨((C p hp).tab (hT p hp)).isCodeTable, rfl, #[], more, rfl, by rw [Array.empty_append]; exact hm⟩)
            · exact .inl (kept b o hb e)
          · by_cases hb : b ∈ cs.map (·.2)
            · obtain ⟨p, hp, ep⟩ := List.mem_map.mp hb
              obtain ⟨more, hm⟩ := grown p hp
              subst ep
              exact ⟨_, hm⟩
            · exact ⟨o, kept b o hb e⟩
        | next => exact False.elim h
        | brk => exact False.elim h
        | cont => exact False.elim h
  cases hk : K.lookup a with
  | some o =>
    have e := KX a o hk
    rw [ha] at e
    cases e
    refine core (fun b => if b ∈ cs.map (·.2) then some (.tbl #[]) else none) (fun b _ z => if_neg z) (fun b z => if_pos z) (fun u z => by rw [if_neg aT] at z; cases z) (.inr fun G => .inr ⟨_, us.toArray, _, hk, rfl, rfl, rfl, by rw [List.size_toArray, len]; exact hz, by simpa using vals⟩) (fun b u z => ?_) fun z => absurd (if_neg aT) z
    by_cases hb : b ∈ cs.map (·.2)
    · have z := (if_pos hb).symm.trans z
      cases z
      exact tabAt b hb
    · have z := (if_neg hb).symm.trans z
      cases z
  | none =>
    refine core (fun b => if b = a then some (.frz { cls := .type "list", data := .seq us.toArray } (.lst (ns.map V.int))) else if b ∈ cs.map (·.2) then some (.tbl #[]) else none) (fun b z1 z2 => (if_neg z1).trans (if_neg z2)) (fun b z => (if_neg (show ¬ b = a from fun e => aT (by rw [← e]; exact z))).trans (if_pos z)) (fun u z => ?_) (.inl (.inr ⟨_, if_pos rfl⟩)) (fun b u z => ?_) fun _ => hk
    · have z := (if_pos rfl).symm.trans z
      cases z
      exact ⟨_, _, rfl⟩
    · by_cases hba : b = a
      · have z := (if_pos hba).symm.trans z
        cases z
        subst hba
        exact ⟨ha, by rw [List.length_map]; exact hz, us, _, vals, ha⟩
      · have z := (if_neg hba).symm.trans z
        by_cases hb : b ∈ cs.map (·.2)
        · have z := (if_pos hb).symm.trans z
          cases z
          exact tabAt b hb
        · have z := (if_neg hb).symm.trans z
          cases z
theorem walk_GT {l : PySem.W.OpenLaw} {n k : Nat} {q : Program} {loose : List Str} {XP : (Str → Option Value) → Heap → Prop} {YP : World → Heap → Prop} {d : DefRec} {K : Params → PySem.W.Frag} {ts : List Addr} {cs : List (Addr × Addr)} {x : Str} {F : Fn}
    (hn : l.most = some n) (hn2 : n ≤ sizeLine) (hdf : d.params.defaults = []) (hr : Room k callerA) (hY : ∀ (w : World) (h : Heap), YP w h → (K w.params).In h ∧ ∀ P ∈ ts, h.get? P = some (PySem.W.tabObj #[]))
    (hcs : ∀ p ∈ cs, p.2 ∈ ts) (nT : ∀ (w : World), ∀ p ∈ cs, (K w.params).lookup p.2 = none) (C : ∀ (w : World), ∀ p ∈ cs, PySem.W.codeHdIn (K w.params) p.1 p.2 = true) (hQ : ∀ (w : World), (QK (K w.params)).map (·.1) = cs.map (·.2))
    (G : ∀ (w : World) (mg : Str → Option Value) (fa : Addr) (h : Heap), (K w.params).In h → h.Ns mainGlobals mg → mg d.name = some (.ref fa) →
      ∃ fd : FuncData, (∀ (s : Shared) (u : Value), BindsTo s fd ⟨[u], []⟩ [(x, u)]) ∧
        ∀ base : Heap, (K w.params).In base → base.Ns mainGlobals mg → (∀ p ∈ cs, TabB base mg p.1 p.2) → FnG l.prog w (K w.params) mg base k fa fd [x] F)
    (hF : ∀ ns : List Int, ns.length ≤ n → ∃ h', F [.frz (ns.map D.int)] [] = .ok (.bl true) h') : PySem.W.WalkO q loose XP YP l.row.toRowW d [] (fun f vs => PySem.call f vs) := by
  refine Att.attach_callB hn hdf fun w s₀ s₁ mg mb fa o pm cd doc a us ns Gr Y ho hd hcd hmg hobj hints hlen hbits hg => ?_
  obtain ⟨KX, TX⟩ := hY w _ Y
  obtain ⟨fd, hb, hG⟩ := G w mg fa _ KX Gr.T.g hmg
  exact law_goT KX Gr.T.g Gr.T.b Gr.T.builtins Gr.T.nolimit hg (fun p hp => TX p.2 (hcs p hp)) (nT w) (fun p hp => PySem.W.codeHd_of_K KX (C w p hp)) (fun p hp => by rw [← hQ w]; exact List.mem_map.mpr ⟨p, hp, rfl⟩) Gr.T.bmain hobj hints (Nat.le_trans hlen hn2) hr hG hb (hF ns hlen)
end Pu

namespace K01
open PySem PySem.Spec PyProof.Rows L2 LamX Pu
def topS (i : Nat) : Stmt := PySem.Challenge.pw_rowlets_k01_machines_and_stands.main.body.getD i (.Pass ⟨0, 0, 0, 0⟩)
structure Bt (mg : Str → Option Value) : Prop where
  abs : mg "abs" = none
  all : mg "all" = none
  bool : mg "bool" = none
  enumerate : mg "enumerate" = none
  int : mg "int" = none
  isinstance : mg "isinstance" = none
  len : mg "len" = none
  list : mg "list" = none
  range : mg "range" = none
  repr : mg "repr" = none
  tuple : mg "tuple" = none
abbrev xcs : List String := ["TooMany"]
abbrev st_is_whole : Stmt := topS 19
theorem sc_is_whole : FnScope ["thing"] ["thing"] (defScope st_is_whole) := ⟨rfl, rfl, rfl, by decide +kernel, rfl, by decide +kernel, by decide +kernel⟩
def b_is_whole : Sx := (sRet (eAnd (eCall cIsi (aCons (eV 0) (aCons (eC (D.ty "int")) aNil))) (eNot (eCall cIsi (aCons (eV 0) (aCons (eC (D.ty "bool")) aNil))))))
def r_is_whole : Fn := runF 1 (b_is_whole)
theorem d_is_whole {P : Program} {w : World} {K : PySem.W.Frag} {mg : Str → Option Value} {base : Heap} {k : Nat} (B : Bt mg) {f : Addr} {fd : FuncData} (F : Fun K "is_whole" "is_whole" st_is_whole f fd) : FnG P w K mg base (k + 1) f fd ["thing"] (r_is_whole) :=
  fnG_of F sc_is_whole fun cdv A outer s H E C => by
  unfold b_is_whole
  exact (sb_one (ss_ret (se_and (se_callB c_isi rfl B.isinstance bt_isinstance (sa_cons (se_var (i := 0) rfl (Or.inl rfl)) (sa_cons (se_ty rfl B.int bt_int) sa_nil))) (se_one (se_not (se_callB c_isi rfl B.isinstance bt_isinstance (sa_cons (se_var (i := 0) rfl (Or.inl rfl)) (sa_cons (se_ty rfl B.bool bt_bool) sa_nil))))))))
abbrev st_is_machine : Stmt := topS 20
theorem sc_is_machine : FnScope ["thing"] ["thing"] (defScope st_is_machine) := ⟨rfl, rfl, rfl, by decide +kernel, rfl, by decide +kernel, by decide +kernel⟩
def b_is_machine (c_is_whole : Fn) : Sx := (sSeq (sIf (tOrP (tNotP (tV (eCall cIsi (aCons (eV 0) (aCons (eC (D.ty "tuple")) aNil))))) (tB (eOp opNe (eCall cLen (aCons (eV 0) aNil)) (eC (D.int 2))))) (sRet (eC (D.bl false))) sNil)
  (sSeq (sIf (tOrP (tNotP (tV (eFn c_is_whole (aCons (eOp opIxA (eV 0) (eC (D.int 0))) aNil)))) (tNotP (tV (eFn c_is_whole (aCons (eOp opIxA (eV 0) (eC (D.int 1))) aNil))))) (sRet (eC (D.bl false))) sNil)
  (sRet (eAnd (eChain opLe opLe (eC (D.int 1)) (eOp opIxA (eV 0) (eC (D.int 0))) (eC (D.int 60))) (eChain opLe opLe (eC (D.int 1)) (eOp opIxA (eV 0) (eC (D.int 1))) (eC (D.int 4)))))))
def r_is_machine (c_is_whole : Fn) : Fn := runF 1 (b_is_machine c_is_whole)
theorem d_is_machine {P : Program} {w : World} {K : PySem.W.Frag} {mg : Str → Option Value} {base : Heap} {k : Nat} (B : Bt mg) {f : Addr} {fd : FuncData} (F : Fun K "is_machine" "is_machine" st_is_machine f fd) {f_is_whole : Addr} {fd_is_whole : FuncData} {c_is_whole : Fn} (T_is_whole : Fd K mg "is_whole" ["thing"] st_is_whole f_is_whole fd_is_whole) (G_is_whole : FnG P w K mg base k f_is_whole fd_is_whole ["thing"] c_is_whole) (Cn_MOST_BITS : Cn mg K "MOST_BITS" (D.int 60)) (Cn_MOST_BOXES : Cn mg K "MOST_BOXES" (D.int 4)) : FnG P w K mg base (k + 1) f fd ["thing"] (r_is_machine c_is_whole) :=
  fnG_of F sc_is_machine fun cdv A outer s H E C => by
  unfold b_is_machine
  exact (sb_cons (ss_if (st_w (sw_or (st_not (st_val (se_callB c_isi rfl B.isinstance bt_isinstance (sa_cons (se_var (i := 0) rfl (Or.inl rfl)) (sa_cons (se_ty rfl B.tuple bt_tuple) sa_nil))))) (sw_or1 (st_cmp (o_ne C.hu65) (se_callB c_len rfl B.len bt_len (sa_cons (se_var (i := 0) rfl (Or.inl rfl)) sa_nil)) se_int)))) (sb_one (ss_ret se_bl)) sb_nil)
    (sb_cons (ss_if (st_w (sw_or (st_not (st_val (se_fn C G_is_whole (Nat.le_refl _) rfl T_is_whole.mg T_is_whole.fu.kp T_is_whole.bi (sa_cons (se_ixA C (se_var (i := 0) rfl (Or.inl rfl)) se_int) sa_nil)))) (sw_or1 (st_not (st_val (se_fn C G_is_whole (Nat.le_refl _) rfl T_is_whole.mg T_is_whole.fu.kp T_is_whole.bi (sa_cons (se_ixA C (se_var (i := 0) rfl (Or.inl rfl)) se_int) sa_nil))))))) (sb_one (ss_ret se_bl)) sb_nil)
    (sb_one (ss_ret (se_and (se_chain o_le o_le se_int (se_ixA C (se_var (i := 0) rfl (Or.inl rfl)) se_int) (Cn_MOST_BITS.se rfl)) (se_one (se_chain o_le o_le se_int (se_ixA C (se_var (i := 0) rfl (Or.inl rfl)) se_int) (Cn_MOST_BOXES.se rfl))))))))
abbrev st_wrapped : Stmt := topS 21
theorem sc_wrapped : FnScope ["machine", "number"] ["machine", "number"] (defScope st_wrapped) := ⟨rfl, rfl, rfl, by decide +kernel, rfl, by decide +kernel, by decide +kernel⟩
def b_wrapped : Sx := (sRet (eOp opMod (eV 1) (eOp opShl (eC (D.int 1)) (eOp opIxA (eV 0) (eC (D.int 0))))))
def r_wrapped : Fn := runF 2 (b_wrapped)
theorem d_wrapped {P : Program} {w : World} {K : PySem.W.Frag} {mg : Str → Option Value} {base : Heap} {k : Nat} (B : Bt mg) {f : Addr} {fd : FuncData} (F : Fun K "wrapped" "wrapped" st_wrapped f fd) : FnG P w K mg base (k + 1) f fd ["machine", "number"] (r_wrapped) :=
  fnG_of F sc_wrapped fun cdv A outer s H E C => by
  unfold b_wrapped
  exact (sb_one (ss_ret (se_op o_mod (se_var (i := 1) rfl (Or.inl rfl)) (se_op o_shl se_int (se_ixA C (se_var (i := 0) rfl (Or.inl rfl)) se_int)))))
abbrev st_is_small : Stmt := topS 22
theorem sc_is_small : FnScope ["machine"] ["machine"] (defScope st_is_small) := ⟨rfl, rfl, rfl, by decide +kernel, rfl, by decide +kernel, by decide +kernel⟩
def b_is_small : Sx := (sRet (eOp opLe (eOp opMulY (eOp opIxA (eV 0) (eC (D.int 0))) (eOp opIxA (eV 0) (eC (D.int 1)))) (eC (D.int 8))))
def r_is_small : Fn := runF 1 (b_is_small)
theorem d_is_small {P : Program} {w : World} {K : PySem.W.Frag} {mg : Str → Option Value} {base : Heap} {k : Nat} (B : Bt mg) {f : Addr} {fd : FuncData} (F : Fun K "is_small" "is_small" st_is_small f fd) (Cn_SMALL : Cn mg K "SMALL" (D.int 8)) : FnG P w K mg base (k + 1) f fd ["machine"] (r_is_small) :=
  fnG_of F sc_is_small fun cdv A outer s H E C => by
  unfold b_is_small
  exact (sb_one (ss_ret (se_cmp o_le (se_op o_mulY (se_ixA C (se_var (i := 0) rfl (Or.inl rfl)) se_int) (se_ixA C (se_var (i := 0) rfl (Or.inl rfl)) se_int)) (Cn_SMALL.se rfl))))
abbrev st_stands : Stmt := topS 23
theorem sc_stands : FnScope ["machine", "found", "box", "longer", "stand", "number"] ["machine"] (defScope st_stands) := ⟨rfl, rfl, rfl, by decide +kernel, rfl, by decide +kernel, by decide +kernel⟩
def b_stands (c_is_small : Fn) : Sx := (sSeq (sIf (tNotP (tV (eFn c_is_small (aCons (eV 0) aNil)))) (sRaise "TooMany") sNil)
  (sSeq (sSet 1 (eNew (aCons (eTup aNil) aNil)))
  (sSeq (sFor (iRg (aCons (eOp opIxA (eV 0) (eC (D.int 1))) aNil)) (gN 2) (sSeq (sSet 3 (eNew aNil))
  (sSeq (sFor (iSeq (eV 1)) (gN 4) (sEx (eM cL mExt (eV 3) (aCons (eVal (fLc (iRg (aCons (eOp opShl (eC (D.int 1)) (eOp opIxA (eV 0) (eC (D.int 0)))) aNil)) (gN 5) tYesD (eOp opAdd (eV 4) (eTup (aCons (eV 5) aNil))) [5])) aNil))))
  (sSet 1 (eV 3)))))
  (sRet (eV 1)))))
def r_stands (c_is_small : Fn) : Fn := runF 6 (b_stands c_is_small)
theorem d_stands {P : Program} {w : World} {K : PySem.W.Frag} {mg : Str → Option Value} {base : Heap} {k : Nat} (B : Bt mg) {f : Addr} {fd : FuncData} (F : Fun K "stands" "stands" st_stands f fd) {f_is_small : Addr} {fd_is_small : FuncData} {c_is_small : Fn} (T_is_small : Fd K mg "is_small" ["machine"] st_is_small f_is_small fd_is_small) (G_is_small : FnG P w K mg base k f_is_small fd_is_small ["machine"] c_is_small) {A_TooMany : Addr} (X_TooMany : Xc mg K "TooMany" A_TooMany) : FnG P w K mg base (k + 1) f fd ["machine"] (r_stands c_is_small) :=
  fnG_of F sc_stands fun cdv A outer s H E C => by
  unfold b_stands
  exact (sb_cons (ss_if (st_not (st_val (se_fn C G_is_small (Nat.le_refl _) rfl T_is_small.mg T_is_small.fu.kp T_is_small.bi (sa_cons (se_var (i := 0) rfl (Or.inl rfl)) sa_nil)))) (sb_one (ss_raise C (c := "TooMany") X_TooMany rfl)) sb_nil)
    (sb_cons (ss_set (i := 1) sc_stands.nd rfl (Or.inl rfl) (se_new (sf_lst (sa_cons (se_tup sa_nil) sa_nil))))
    (sb_cons (ss_for C (si_range1 rfl B.range (sa_cons (se_ixA C (se_var (i := 0) rfl (Or.inl rfl)) se_int) sa_nil)) (sg_name (i := 2) sc_stands.nd rfl (Or.inl rfl)) (sb_cons (ss_set (i := 3) sc_stands.nd rfl (Or.inl rfl) (se_new (sf_lst sa_nil)))
    (sb_cons (ss_for C (si_seq (se_var (i := 1) rfl (Or.inl rfl))) (sg_name (i := 4) sc_stands.nd rfl (Or.inr rfl)) (sb_one (ss_ex (se_mL PySem.F.slot_list_extend PySem.F.type_list_extend m_ext (se_var (i := 3) rfl (Or.inl rfl)) (sa_cons (se_val (sf_lc C (own := [("number", 5)]) sc_stands.nd (si_range1 rfl B.range (sa_cons (se_op o_shl se_int (se_ixA C (se_var (i := 0) rfl (Or.inl rfl)) se_int)) sa_nil)) (blkOk_by (N := ["machine", "found", "box", "longer", "stand", "number"]) (sc := defScope st_stands) (own := [("number", 5)]) (by decide +kernel)) (fun s1 H1 A1 cl1 fp1 => (sg_name (i := 5) sc_stands.nd rfl (Or.inl rfl))) (fun s1 H1 A1 cl1 fp1 => spt_nil) (fun s1 H1 A1 cl1 fp1 => (se_op o_add (se_var (i := 4) rfl (Or.inr (Or.inl rfl))) (se_tup (sa_cons (se_var (i := 5) rfl (Or.inl rfl)) sa_nil)))))) sa_nil)))))
    (sb_one (ss_set (i := 1) sc_stands.nd rfl (Or.inl rfl) (se_var (i := 3) rfl (Or.inl rfl)))))))
    (sb_one (ss_ret (se_var (i := 1) rfl (Or.inl rfl)))))))
abbrev st__law_pen : Stmt := topS 25
theorem sc__law_pen : FnScope ["_law_script"] ["_law_script"] (defScope st__law_pen) := ⟨rfl, rfl, rfl, by decide +kernel, rfl, by decide +kernel, by decide +kernel⟩
def b__law_pen : Sx := (sRet (eDicN [((eC (D.str "cells")), (eSl (eV 0) oNo (oSo (eC (D.int 63))))), ((eC (D.str "at")), (eC (D.int 0))), ((eC (D.str "left")), (eC (D.int 0)))]))
def r__law_pen : Fn := runF 1 (b__law_pen)
theorem d__law_pen {P : Program} {w : World} {K : PySem.W.Frag} {mg : Str → Option Value} {base : Heap} {k : Nat} (B : Bt mg) {f : Addr} {fd : FuncData} (F : Fun K "_law_pen" "_law_pen" st__law_pen f fd) : FnG P w K mg base (k + 1) f fd ["_law_script"] (r__law_pen) :=
  fnG_of F sc__law_pen fun cdv A outer s H E C => by
  unfold b__law_pen
  exact (sb_one (ss_ret (se_dicN (sd_cons (se_str (x := "cells")) (se_sl (se_var (i := 0) rfl (Or.inl rfl)) so_no (so_so se_int)) (sd_cons (se_str (x := "at")) se_int (sd_cons (se_str (x := "left")) se_int sd_nil))))))
abbrev st__law_draw : Stmt := topS 26
theorem sc__law_draw : FnScope ["_law_pen_here", "_law_many", "_law_found", "_law_at", "_law_cell", "_law_number"] ["_law_pen_here", "_law_many"] (defScope st__law_draw) := ⟨rfl, rfl, rfl, by decide +kernel, rfl, by decide +kernel, by decide +kernel⟩
def b__law_draw : Sx := (sSeq (sIf (tB (eOp opGt (eOp opIxA (eV 0) (eC (D.str "left"))) (eC (D.int 0)))) (sSeq (sSet 2 (eOp opMod (eOp opIxA (eV 0) (eC (D.str "left"))) (eV 1)))
  (sSeq (sPut (eV 0) (eC (D.str "left")) (eOp opDiv (eOp opIxA (eV 0) (eC (D.str "left"))) (eV 1)))
  (sRet (eV 2)))) sNil)
  (sSeq (sSet 3 (eOp opIxA (eV 0) (eC (D.str "at"))))
  (sSeq (sPut (eV 0) (eC (D.str "at")) (eOp opAdd (eV 3) (eC (D.int 1))))
  (sSeq (sSet 4 (eOp opAdd (eOp opMulY (eC (D.int 17)) (eV 3)) (eC (D.int 3))))
  (sSeq (sIf (tB (eOp opGt (eCall cLen (aCons (eOp opIxA (eV 0) (eC (D.str "cells"))) aNil)) (eC (D.int 0)))) (sSet 4 (eOp opIxA (eOp opIxA (eV 0) (eC (D.str "cells"))) (eOp opMod (eV 3) (eCall cLen (aCons (eOp opIxA (eV 0) (eC (D.str "cells"))) aNil))))) sNil)
  (sSeq (sIf (tAndP (tB (eOp opLt (eV 3) (eCall cLen (aCons (eOp opIxA (eV 0) (eC (D.str "cells"))) aNil)))) (tB (eOp opGe (eCall cAbs (aCons (eV 4) aNil)) (eOp opPow (eC (D.int 10)) (eC (D.int 18)))))) (sSeq (sPut (eV 0) (eC (D.str "left")) (eOp opDiv (eCall cAbs (aCons (eV 4) aNil)) (eV 1)))
  (sRet (eOp opMod (eCall cAbs (aCons (eV 4) aNil)) (eV 1)))) sNil)
  (sSeq (sSet 5 (eOp opMod (eOp opPow (eOp opAdd (eOp opAdd (eOp opAdd (eOp opMod (eV 4) (eC (D.int 2147483549))) (eOp opMulY (eOp opMulY (eC (D.int 91193)) (eV 3)) (eV 3))) (eOp opMulY (eC (D.int 40487)) (eV 3))) (eC (D.int 353))) (eC (D.int 3))) (eC (D.int 2147483647))))
  (sSeq (sSet 5 (eOp opMod (eOp opPow (eOp opAdd (eOp opAdd (eV 5) (eOp opMulY (eC (D.int 7)) (eV 3))) (eC (D.int 1))) (eC (D.int 2))) (eC (D.int 2147483587))))
  (sRet (eOp opMod (eOp opDiv (eOp opMod (eOp opMulY (eV 5) (eC (D.int 48271))) (eC (D.int 2147483563))) (eC (D.int 1009))) (eV 1)))))))))))
def r__law_draw : Fn := runF 6 (b__law_draw)
theorem d__law_draw {P : Program} {w : World} {K : PySem.W.Frag} {mg : Str → Option Value} {base : Heap} {k : Nat} (B : Bt mg) {f : Addr} {fd : FuncData} (F : Fun K "_law_draw" "_law_draw" st__law_draw f fd) : FnG P w K mg base (k + 1) f fd ["_law_pen_here", "_law_many"] (r__law_draw) :=
  fnG_of F sc__law_draw fun cdv A outer s H E C => by
  unfold b__law_draw
  exact (sb_cons (ss_if (st_cmp o_gt (se_ixA C (se_var (i := 0) rfl (Or.inl rfl)) (se_str (x := "left"))) se_int) (sb_cons (ss_set (i := 2) sc__law_draw.nd rfl (Or.inl rfl) (se_op o_mod (se_ixA C (se_var (i := 0) rfl (Or.inl rfl)) (se_str (x := "left"))) (se_var (i := 1) rfl (Or.inl rfl))))
    (sb_cons (ss_put (se_op o_div (se_ixA C (se_var (i := 0) rfl (Or.inl rfl)) (se_str (x := "left"))) (se_var (i := 1) rfl (Or.inl rfl))) (pg_sub (se_var (i := 0) rfl (Or.inl rfl)) (se_str (x := "left")) (set_any C.hu1)))
    (sb_one (ss_ret (se_var (i := 2) rfl (Or.inl rfl)))))) sb_nil)
    (sb_cons (ss_set (i := 3) sc__law_draw.nd rfl (Or.inl rfl) (se_ixA C (se_var (i := 0) rfl (Or.inl rfl)) (se_str (x := "at"))))
    (sb_cons (ss_put (se_op o_add (se_var (i := 3) rfl (Or.inl rfl)) se_int) (pg_sub (se_var (i := 0) rfl (Or.inl rfl)) (se_str (x := "at")) (set_any C.hu1)))
    (sb_cons (ss_set (i := 4) sc__law_draw.nd rfl (Or.inl rfl) (se_op o_add (se_op o_mulY se_int (se_var (i := 3) rfl (Or.inl rfl))) se_int))
    (sb_cons (ss_if (st_cmp o_gt (se_callB c_len rfl B.len bt_len (sa_cons (se_ixA C (se_var (i := 0) rfl (Or.inl rfl)) (se_str (x := "cells"))) sa_nil)) se_int) (sb_one (ss_set (i := 4) sc__law_draw.nd rfl (Or.inl rfl) (se_ixA C (se_ixA C (se_var (i := 0) rfl (Or.inl rfl)) (se_str (x := "cells"))) (se_op o_mod (se_var (i := 3) rfl (Or.inl rfl)) (se_callB c_len rfl B.len bt_len (sa_cons (se_ixA C (se_var (i := 0) rfl (Or.inl rfl)) (se_str (x := "cells"))) sa_nil)))))) sb_nil)
    (sb_cons (ss_if (st_w (sw_and (st_cmp (o_lt C.hu0) (se_var (i := 3) rfl (Or.inl rfl)) (se_callB c_len rfl B.len bt_len (sa_cons (se_ixA C (se_var (i := 0) rfl (Or.inl rfl)) (se_str (x := "cells"))) sa_nil))) (sw_and1 (st_cmp o_ge (se_callB c_abs rfl B.abs bt_abs (sa_cons (se_var (i := 4) rfl (Or.inl rfl)) sa_nil)) (se_op o_pow se_int se_int))))) (sb_cons (ss_put (se_op o_div (se_callB c_abs rfl B.abs bt_abs (sa_cons (se_var (i := 4) rfl (Or.inl rfl)) sa_nil)) (se_var (i := 1) rfl (Or.inl rfl))) (pg_sub (se_var (i := 0) rfl (Or.inl rfl)) (se_str (x := "left")) (set_any C.hu1)))
    (sb_one (ss_ret (se_op o_mod (se_callB c_abs rfl B.abs bt_abs (sa_cons (se_var (i := 4) rfl (Or.inl rfl)) sa_nil)) (se_var (i := 1) rfl (Or.inl rfl)))))) sb_nil)
    (sb_cons (ss_set (i := 5) sc__law_draw.nd rfl (Or.inl rfl) (se_op o_mod (se_op o_pow (se_op o_add (se_op o_add (se_op o_add (se_op o_mod (se_var (i := 4) rfl (Or.inl rfl)) se_int) (se_op o_mulY (se_op o_mulY se_int (se_var (i := 3) rfl (Or.inl rfl))) (se_var (i := 3) rfl (Or.inl rfl)))) (se_op o_mulY se_int (se_var (i := 3) rfl (Or.inl rfl)))) se_int) se_int) se_int))
    (sb_cons (ss_set (i := 5) sc__law_draw.nd rfl (Or.inl rfl) (se_op o_mod (se_op o_pow (se_op o_add (se_op o_add (se_var (i := 5) rfl (Or.inl rfl)) (se_op o_mulY se_int (se_var (i := 3) rfl (Or.inl rfl)))) se_int) se_int) se_int))
    (sb_one (ss_ret (se_op o_mod (se_op o_div (se_op o_mod (se_op o_mulY (se_var (i := 5) rfl (Or.inl rfl)) se_int) se_int) se_int) (se_var (i := 1) rfl (Or.inl rfl)))))))))))))
abbrev st__law_below : Stmt := topS 27
theorem sc__law_below : FnScope ["_law_pen_here", "_law_many", "_law_found", "_law_k"] ["_law_pen_here", "_law_many"] (defScope st__law_below) := ⟨rfl, rfl, rfl, by decide +kernel, rfl, by decide +kernel, by decide +kernel⟩
def b__law_below (c__law_draw : Fn) : Sx := (sSeq (sIf (tB (eOp opLe (eV 1) (eOp opPow (eC (D.int 10)) (eC (D.int 6))))) (sRet (eFn c__law_draw (aCons (eV 0) (aCons (eV 1) aNil)))) sNil)
  (sSeq (sSet 2 (eC (D.int 0)))
  (sSeq (sFor (iRg (aCons (eC (D.int 5)) aNil)) (gN 3) (sSet 2 (eOp opAdd (eOp opMulY (eV 2) (eOp opPow (eC (D.int 10)) (eC (D.int 6)))) (eFn c__law_draw (aCons (eV 0) (aCons (eOp opPow (eC (D.int 10)) (eC (D.int 6))) aNil))))))
  (sRet (eOp opMod (eV 2) (eV 1))))))
def r__law_below (c__law_draw : Fn) : Fn := runF 4 (b__law_below c__law_draw)
theorem d__law_below {P : Program} {w : World} {K : PySem.W.Frag} {mg : Str → Option Value} {base : Heap} {k : Nat} (B : Bt mg) {f : Addr} {fd : FuncData} (F : Fun K "_law_below" "_law_below" st__law_below f fd) {f__law_draw : Addr} {fd__law_draw : FuncData} {c__law_draw : Fn} (T__law_draw : Fd K mg "_law_draw" ["_law_pen_here", "_law_many"] st__law_draw f__law_draw fd__law_draw) (G__law_draw : FnG P w K mg base k f__law_draw fd__law_draw ["_law_pen_here", "_law_many"] c__law_draw) : FnG P w K mg base (k + 1) f fd ["_law_pen_here", "_law_many"] (r__law_below c__law_draw) :=
  fnG_of F sc__law_below fun cdv A outer s H E C => by
  unfold b__law_below
  exact (sb_cons (ss_if (st_cmp o_le (se_var (i := 1) rfl (Or.inl rfl)) (se_op o_pow se_int se_int)) (sb_one (ss_ret (se_fn C G__law_draw (Nat.le_refl _) rfl T__law_draw.mg T__law_draw.fu.kp T__law_draw.bi (sa_cons (se_var (i := 0) rfl (Or.inl rfl)) (sa_cons (se_var (i := 1) rfl (Or.inl rfl)) sa_nil))))) sb_nil)
    (sb_cons (ss_set (i := 2) sc__law_below.nd rfl (Or.inl rfl) se_int)
    (sb_cons (ss_for C (si_range1 rfl B.range (sa_cons se_int sa_nil)) (sg_name (i := 3) sc__law_below.nd rfl (Or.inl rfl)) (sb_one (ss_set (i := 2) sc__law_below.nd rfl (Or.inl rfl) (se_op o_add (se_op o_mulY (se_var (i := 2) rfl (Or.inl rfl)) (se_op o_pow se_int se_int)) (se_fn C G__law_draw (Nat.le_refl _) rfl T__law_draw.mg T__law_draw.fu.kp T__law_draw.bi (sa_cons (se_var (i := 0) rfl (Or.inl rfl)) (sa_cons (se_op o_pow se_int se_int) sa_nil)))))))
    (sb_one (ss_ret (se_op o_mod (se_var (i := 2) rfl (Or.inl rfl)) (se_var (i := 1) rfl (Or.inl rfl))))))))
abbrev st__law_machine : Stmt := topS 28
theorem sc__law_machine : FnScope ["_law_pen_here", "_law_way", "_law_bits"] ["_law_pen_here"] (defScope st__law_machine) := ⟨rfl, rfl, rfl, by decide +kernel, rfl, by decide +kernel, by decide +kernel⟩
def b__law_machine (c__law_draw : Fn) : Sx := (sSeq (sSet 1 (eFn c__law_draw (aCons (eV 0) (aCons (eC (D.int 6)) aNil))))
  (sSeq (sSet 2 (eOp opAdd (eC (D.int 1)) (eFn c__law_draw (aCons (eV 0) (aCons (eC (D.int 60)) aNil)))))
  (sSeq (sIf (tB (eOp opLt (eV 1) (eC (D.int 5)))) (sSet 2 (eOp opIxA (eVal (aCons (eC (D.int 1)) (aCons (eC (D.int 2)) (aCons (eC (D.int 3)) (aCons (eC (D.int 8)) (aCons (eC (D.int 60)) aNil)))))) (eV 1))) sNil)
  (sRet (eTup (aCons (eV 2) (aCons (eOp opAdd (eC (D.int 1)) (eFn c__law_draw (aCons (eV 0) (aCons (eC (D.int 4)) aNil)))) aNil)))))))
def r__law_machine (c__law_draw : Fn) : Fn := runF 3 (b__law_machine c__law_draw)
theorem d__law_machine {P : Program} {w : World} {K : PySem.W.Frag} {mg : Str → Option Value} {base : Heap} {k : Nat} (B : Bt mg) {f : Addr} {fd : FuncData} (F : Fun K "_law_machine" "_law_machine" st__law_machine f fd) {f__law_draw : Addr} {fd__law_draw : FuncData} {c__law_draw : Fn} (T__law_draw : Fd K mg "_law_draw" ["_law_pen_here", "_law_many"] st__law_draw f__law_draw fd__law_draw) (G__law_draw : FnG P w K mg base k f__law_draw fd__law_draw ["_law_pen_here", "_law_many"] c__law_draw) : FnG P w K mg base (k + 1) f fd ["_law_pen_here"] (r__law_machine c__law_draw) :=
  fnG_of F sc__law_machine fun cdv A outer s H E C => by
  unfold b__law_machine
  exact (sb_cons (ss_set (i := 1) sc__law_machine.nd rfl (Or.inl rfl) (se_fn C G__law_draw (Nat.le_refl _) rfl T__law_draw.mg T__law_draw.fu.kp T__law_draw.bi (sa_cons (se_var (i := 0) rfl (Or.inl rfl)) (sa_cons se_int sa_nil))))
    (sb_cons (ss_set (i := 2) sc__law_machine.nd rfl (Or.inl rfl) (se_op o_add se_int (se_fn C G__law_draw (Nat.le_refl _) rfl T__law_draw.mg T__law_draw.fu.kp T__law_draw.bi (sa_cons (se_var (i := 0) rfl (Or.inl rfl)) (sa_cons se_int sa_nil)))))
    (sb_cons (ss_if (st_cmp (o_lt C.hu0) (se_var (i := 1) rfl (Or.inl rfl)) se_int) (sb_one (ss_set (i := 2) sc__law_machine.nd rfl (Or.inl rfl) (se_ixA C (se_val (sf_lst (sa_cons se_int (sa_cons se_int (sa_cons se_int (sa_cons se_int (sa_cons se_int sa_nil))))))) (se_var (i := 1) rfl (Or.inl rfl))))) sb_nil)
    (sb_one (ss_ret (se_tup (sa_cons (se_var (i := 2) rfl (Or.inl rfl)) (sa_cons (se_op o_add se_int (se_fn C G__law_draw (Nat.le_refl _) rfl T__law_draw.mg T__law_draw.fu.kp T__law_draw.bi (sa_cons (se_var (i := 0) rfl (Or.inl rfl)) (sa_cons se_int sa_nil)))) sa_nil))))))))
abbrev st__law_small : Stmt := topS 29
theorem sc__law_small : FnScope ["_law_pen_here", "_law_some"] ["_law_pen_here"] (defScope st__law_small) := ⟨rfl, rfl, rfl, by decide +kernel, rfl, by decide +kernel, by decide +kernel⟩
def b__law_small (c__law_draw : Fn) : Sx := (sSeq (sSet 1 (eVal (aCons (eTup (aCons (eC (D.int 2)) (aCons (eC (D.int 2)) aNil))) (aCons (eTup (aCons (eC (D.int 1)) (aCons (eC (D.int 4)) aNil))) (aCons (eTup (aCons (eC (D.int 2)) (aCons (eC (D.int 3)) aNil))) (aCons (eTup (aCons (eC (D.int 3)) (aCons (eC (D.int 2)) aNil))) (aCons (eTup (aCons (eC (D.int 2)) (aCons (eC (D.int 4)) aNil))) (aCons (eTup (aCons (eC (D.int 1)) (aCons (eC (D.int 3)) aNil))) (aCons (eTup (aCons (eC (D.int 4)) (aCons (eC (D.int 2)) aNil))) (aCons (eTup (aCons (eC (D.int 1)) (aCons (eC (D.int 2)) aNil))) (aCons (eTup (aCons (eC (D.int 8)) (aCons (eC (D.int 1)) aNil))) (aCons (eTup (aCons (eC (D.int 3)) (aCons (eC (D.int 1)) aNil))) (aCons (eTup (aCons (eC (D.int 1)) (aCons (eC (D.int 1)) aNil))) (aCons (eTup (aCons (eC (D.int 2)) (aCons (eC (D.int 1)) aNil))) (aCons (eTup (aCons (eC (D.int 4)) (aCons (eC (D.int 1)) aNil))) aNil)))))))))))))))
  (sRet (eOp opIxA (eOp opAdd (eV 1) (eVal (aCons (eTup (aCons (eC (D.int 5)) (aCons (eC (D.int 1)) aNil))) (aCons (eTup (aCons (eC (D.int 6)) (aCons (eC (D.int 1)) aNil))) (aCons (eTup (aCons (eC (D.int 7)) (aCons (eC (D.int 1)) aNil))) aNil))))) (eFn c__law_draw (aCons (eV 0) (aCons (eC (D.int 16)) aNil))))))
def r__law_small (c__law_draw : Fn) : Fn := runF 2 (b__law_small c__law_draw)
theorem d__law_small {P : Program} {w : World} {K : PySem.W.Frag} {mg : Str → Option Value} {base : Heap} {k : Nat} (B : Bt mg) {f : Addr} {fd : FuncData} (F : Fun K "_law_small" "_law_small" st__law_small f fd) {f__law_draw : Addr} {fd__law_draw : FuncData} {c__law_draw : Fn} (T__law_draw : Fd K mg "_law_draw" ["_law_pen_here", "_law_many"] st__law_draw f__law_draw fd__law_draw) (G__law_draw : FnG P w K mg base k f__law_draw fd__law_draw ["_law_pen_here", "_law_many"] c__law_draw) : FnG P w K mg base (k + 1) f fd ["_law_pen_here"] (r__law_small c__law_draw) :=
  fnG_of F sc__law_small fun cdv A outer s H E C => by
  unfold b__law_small
  exact (sb_cons (ss_set (i := 1) sc__law_small.nd rfl (Or.inl rfl) (se_val (sf_lst (sa_cons (se_tup (sa_cons se_int (sa_cons se_int sa_nil))) (sa_cons (se_tup (sa_cons se_int (sa_cons se_int sa_nil))) (sa_cons (se_tup (sa_cons se_int (sa_cons se_int sa_nil))) (sa_cons (se_tup (sa_cons se_int (sa_cons se_int sa_nil))) (sa_cons (se_tup (sa_cons se_int (sa_cons se_int sa_nil))) (sa_cons (se_tup (sa_cons se_int (sa_cons se_int sa_nil))) (sa_cons (se_tup (sa_cons se_int (sa_cons se_int sa_nil))) (sa_cons (se_tup (sa_cons se_int (sa_cons se_int sa_nil))) (sa_cons (se_tup (sa_cons se_int (sa_cons se_int sa_nil))) (sa_cons (se_tup (sa_cons se_int (sa_cons se_int sa_nil))) (sa_cons (se_tup (sa_cons se_int (sa_cons se_int sa_nil))) (sa_cons (se_tup (sa_cons se_int (sa_cons se_int sa_nil))) (sa_cons (se_tup (sa_cons se_int (sa_cons se_int sa_nil))) sa_nil))))))))))))))))
    (sb_one (ss_ret (se_ixA C (se_op o_add (se_var (i := 1) rfl (Or.inl rfl)) (se_val (sf_lst (sa_cons (se_tup (sa_cons se_int (sa_cons se_int sa_nil))) (sa_cons (se_tup (sa_cons se_int (sa_cons se_int sa_nil))) (sa_cons (se_tup (sa_cons se_int (sa_cons se_int sa_nil))) sa_nil)))))) (se_fn C G__law_draw (Nat.le_refl _) rfl T__law_draw.mg T__law_draw.fu.kp T__law_draw.bi (sa_cons (se_var (i := 0) rfl (Or.inl rfl)) (sa_cons se_int sa_nil)))))))
abbrev st__law_is_whole : Stmt := topS 30
theorem sc__law_is_whole : FnScope ["_law_thing_here"] ["_law_thing_here"] (defScope st__law_is_whole) := ⟨rfl, rfl, rfl, by decide +kernel, rfl, by decide +kernel, by decide +kernel⟩
def b__law_is_whole : Sx := (sRet (eAnd (eCall cIsi (aCons (eV 0) (aCons (eC (D.ty "int")) aNil))) (eNot (eCall cIsi (aCons (eV 0) (aCons (eC (D.ty "bool")) aNil))))))
def r__law_is_whole : Fn := runF 1 (b__law_is_whole)
theorem d__law_is_whole {P : Program} {w : World} {K : PySem.W.Frag} {mg : Str → Option Value} {base : Heap} {k : Nat} (B : Bt mg) {f : Addr} {fd : FuncData} (F : Fun K "_law_is_whole" "_law_is_whole" st__law_is_whole f fd) : FnG P w K mg base (k + 1) f fd ["_law_thing_here"] (r__law_is_whole) :=
  fnG_of F sc__law_is_whole fun cdv A outer s H E C => by
  unfold b__law_is_whole
  exact (sb_one (ss_ret (se_and (se_callB c_isi rfl B.isinstance bt_isinstance (sa_cons (se_var (i := 0) rfl (Or.inl rfl)) (sa_cons (se_ty rfl B.int bt_int) sa_nil))) (se_one (se_not (se_callB c_isi rfl B.isinstance bt_isinstance (sa_cons (se_var (i := 0) rfl (Or.inl rfl)) (sa_cons (se_ty rfl B.bool bt_bool) sa_nil))))))))
abbrev st__law_tells : Stmt := topS 31
theorem sc__law_tells : FnScope ["_law_found", "_law_due"] ["_law_found", "_law_due"] (defScope st__law_tells) := ⟨rfl, rfl, rfl, by decide +kernel, rfl, by decide +kernel, by decide +kernel⟩
def b__law_tells : Sx := (sRet (eAnd (eCall cIsi (aCons (eV 0) (aCons (eC (D.ty "bool")) aNil))) (eOp opEq (eV 0) (eV 1))))
def r__law_tells : Fn := runF 2 (b__law_tells)
theorem d__law_tells {P : Program} {w : World} {K : PySem.W.Frag} {mg : Str → Option Value} {base : Heap} {k : Nat} (B : Bt mg) {f : Addr} {fd : FuncData} (F : Fun K "_law_tells" "_law_tells" st__law_tells f fd) : FnG P w K mg base (k + 1) f fd ["_law_found", "_law_due"] (r__law_tells) :=
  fnG_of F sc__law_tells fun cdv A outer s H E C => by
  unfold b__law_tells
  exact (sb_one (ss_ret (se_and (se_callB c_isi rfl B.isinstance bt_isinstance (sa_cons (se_var (i := 0) rfl (Or.inl rfl)) (sa_cons (se_ty rfl B.bool bt_bool) sa_nil))) (se_one (se_cmp (o_eq C.hu65) (se_var (i := 0) rfl (Or.inl rfl)) (se_var (i := 1) rfl (Or.inl rfl)))))))
abbrev st__law_too_many : Stmt := topS 32
theorem sc__law_too_many : FnScope ["_law_asked", "_law_caught", "e"] ["_law_asked"] (defScope st__law_too_many) := ⟨rfl, rfl, rfl, by decide +kernel, rfl, by decide +kernel, by decide +kernel⟩
def b__law_too_many (L : D) (t : HH → R D) : Sx := (sSeq (sSet 1 (eC D.non))
  (sSeq (sTry 2 1 xcs (sEx (eAct 0 L t)))
  (sSeq (sIf (tOrP (tNotP (tV (eIsX xcs ["TooMany"] (eV 1)))) (tNotP (tV (eIsX xcs ["ValueError"] (eV 1))))) (sRet (eC (D.bl false))) sNil)
  (sSeq (sIf (tV (eIsX xcs ["Loose", "Needed", "NoBack", "NoBook", "NoFit", "NoName", "NoRow"] (eV 1))) (sRet (eC (D.bl false))) sNil)
  (sRet (eNot (eIsX xcs ["NoStep", "NotPlain", "NotSure", "NoText", "NoWay"] (eV 1))))))))
def r__law_too_many : D → (HH → R D) → Fn := fun L t => runF 3 (b__law_too_many L t)
theorem d__law_too_many {P : Program} {w : World} {K : PySem.W.Frag} {mg : Str → Option Value} {base : Heap} {k : Nat} (B : Bt mg) {f : Addr} {fd : FuncData} (F : Fun K "_law_too_many" "_law_too_many" st__law_too_many f fd) {R_x : Addr} (XS : Xs mg K R_x xcs) {v_TooMany : V} {w_TooMany : Value} (N_TooMany : Xn mg K xcs "TooMany" v_TooMany w_TooMany) {v_ValueError : V} {w_ValueError : Value} (N_ValueError : Xn mg K xcs "ValueError" v_ValueError w_ValueError) {v_Loose : V} {w_Loose : Value} (N_Loose : Xn mg K xcs "Loose" v_Loose w_Loose) {v_Needed : V} {w_Needed : Value} (N_Needed : Xn mg K xcs "Needed" v_Needed w_Needed) {v_NoBack : V} {w_NoBack : Value} (N_NoBack : Xn mg K xcs "NoBack" v_NoBack w_NoBack) {v_NoBook : V} {w_NoBook : Value} (N_NoBook : Xn mg K xcs "NoBook" v_NoBook w_NoBook) {v_NoFit : V} {w_NoFit : Value} (N_NoFit : Xn mg K xcs "NoFit" v_NoFit w_NoFit) {v_NoName : V} {w_NoName : Value} (N_NoName : Xn mg K xcs "NoName" v_NoName w_NoName) {v_NoRow : V} {w_NoRow : Value} (N_NoRow : Xn mg K xcs "NoRow" v_NoRow w_NoRow) {v_NoStep : V} {w_NoStep : Value} (N_NoStep : Xn mg K xcs "NoStep" v_NoStep w_NoStep) {v_NotPlain : V} {w_NotPlain : Value} (N_NotPlain : Xn mg K xcs "NotPlain" v_NotPlain w_NotPlain) {v_NotSure : V} {w_NotSure : Value} (N_NotSure : Xn mg K xcs "NotSure" v_NotSure w_NotSure) {v_NoText : V} {w_NoText : Value} (N_NoText : Xn mg K xcs "NoText" v_NoText w_NoText) {v_NoWay : V} {w_NoWay : Value} (N_NoWay : Xn mg K xcs "NoWay" v_NoWay w_NoWay) : FnGL P w K mg base k f fd "_law_asked" (r__law_too_many) :=
  fnGL_of F sc__law_too_many fun cdv A outer s H E fa ca q ds vs t act C => by
  unfold b__law_too_many
  exact (sb_cons (ss_set (i := 1) sc__law_too_many.nd rfl (Or.inl rfl) se_non)
    (sb_cons (ss_try (i := 2) (j := 1) C sc__law_too_many.nd XS rfl rfl rfl rfl rfl (fun _ _ _ C => (sb_one (ss_ex (se_act act C (i := 0) rfl (Or.inl rfl))))))
    (sb_cons (ss_if (st_w (sw_or (st_not (st_val (se_isX XS rfl B.isinstance bt_isinstance (se_var (i := 1) rfl (Or.inl rfl)) N_TooMany rfl))) (sw_or1 (st_not (st_val (se_isX XS rfl B.isinstance bt_isinstance (se_var (i := 1) rfl (Or.inl rfl)) N_ValueError rfl)))))) (sb_one (ss_ret se_bl)) sb_nil)
    (sb_cons (ss_if (st_val (se_isXT XS rfl B.isinstance bt_isinstance (se_var (i := 1) rfl (Or.inl rfl)) (xl_cons N_Loose rfl (xl_cons N_Needed rfl (xl_cons N_NoBack rfl (xl_cons N_NoBook rfl (xl_cons N_NoFit rfl (xl_cons N_NoName rfl (xl_cons N_NoRow rfl xl_nil))))))))) (sb_one (ss_ret se_bl)) sb_nil)
    (sb_one (ss_ret (se_not (se_isXT XS rfl B.isinstance bt_isinstance (se_var (i := 1) rfl (Or.inl rfl)) (xl_cons N_NoStep rfl (xl_cons N_NotPlain rfl (xl_cons N_NotSure rfl (xl_cons N_NoText rfl (xl_cons N_NoWay rfl xl_nil)))))))))))))
abbrev st__law_is_machine : Stmt := topS 33
theorem sc__law_is_machine : FnScope ["_law_thing_here", "_law_part", "_law_most"] ["_law_thing_here"] (defScope st__law_is_machine) := ⟨rfl, rfl, rfl, by decide +kernel, rfl, by decide +kernel, by decide +kernel⟩
def b__law_is_machine (c__law_is_whole : Fn) : Sx := (sSeq (sIf (tOrP (tNotP (tV (eCall cIsi (aCons (eV 0) (aCons (eC (D.ty "tuple")) aNil))))) (tB (eOp opNe (eCall cLen (aCons (eV 0) aNil)) (eC (D.int 2))))) (sRet (eC (D.bl false))) sNil)
  (sSeq (sFor (iSeq (eVal (aCons (eTup (aCons (eOp opIxA (eV 0) (eC (D.int 0))) (aCons (eC (D.int 60)) aNil))) (aCons (eTup (aCons (eOp opIxA (eV 0) (eC (D.int 1))) (aCons (eC (D.int 4)) aNil))) aNil)))) (gT 2 (gsCons (gN 1) (gsCons (gN 2) gsNil'))) (sIf (tOrP (tNotP (tV (eFn c__law_is_whole (aCons (eV 1) aNil)))) (tOrP (tB (eOp opLt (eV 1) (eC (D.int 1)))) (tB (eOp opGt (eV 1) (eV 2))))) (sRet (eC (D.bl false))) sNil))
  (sRet (eC (D.bl true)))))
def r__law_is_machine (c__law_is_whole : Fn) : Fn := runF 3 (b__law_is_machine c__law_is_whole)
theorem d__law_is_machine {P : Program} {w : World} {K : PySem.W.Frag} {mg : Str → Option Value} {base : Heap} {k : Nat} (B : Bt mg) {f : Addr} {fd : FuncData} (F : Fun K "_law_is_machine" "_law_is_machine" st__law_is_machine f fd) {f__law_is_whole : Addr} {fd__law_is_whole : FuncData} {c__law_is_whole : Fn} (T__law_is_whole : Fd K mg "_law_is_whole" ["_law_thing_here"] st__law_is_whole f__law_is_whole fd__law_is_whole) (G__law_is_whole : FnG P w K mg base k f__law_is_whole fd__law_is_whole ["_law_thing_here"] c__law_is_whole) : FnG P w K mg base (k + 1) f fd ["_law_thing_here"] (r__law_is_machine c__law_is_whole) :=
  fnG_of F sc__law_is_machine fun cdv A outer s H E C => by
  unfold b__law_is_machine
  exact (sb_cons (ss_if (st_w (sw_or (st_not (st_val (se_callB c_isi rfl B.isinstance bt_isinstance (sa_cons (se_var (i := 0) rfl (Or.inl rfl)) (sa_cons (se_ty rfl B.tuple bt_tuple) sa_nil))))) (sw_or1 (st_cmp (o_ne C.hu65) (se_callB c_len rfl B.len bt_len (sa_cons (se_var (i := 0) rfl (Or.inl rfl)) sa_nil)) se_int)))) (sb_one (ss_ret se_bl)) sb_nil)
    (sb_cons (ss_for C (si_seq (se_val (sf_lst (sa_cons (se_tup (sa_cons (se_ixA C (se_var (i := 0) rfl (Or.inl rfl)) se_int) (sa_cons se_int sa_nil))) (sa_cons (se_tup (sa_cons (se_ixA C (se_var (i := 0) rfl (Or.inl rfl)) se_int) (sa_cons se_int sa_nil))) sa_nil))))) (sg_tup rfl (sgs_cons (sg_name (i := 1) sc__law_is_machine.nd rfl (Or.inl rfl)) (sgs_cons (sg_name (i := 2) sc__law_is_machine.nd rfl (Or.inl rfl)) sgs_nil))) (sb_one (ss_if (st_w (sw_or (st_not (st_val (se_fn C G__law_is_whole (Nat.le_refl _) rfl T__law_is_whole.mg T__law_is_whole.fu.kp T__law_is_whole.bi (sa_cons (se_var (i := 1) rfl (Or.inl rfl)) sa_nil)))) (sw_or (st_cmp (o_lt C.hu0) (se_var (i := 1) rfl (Or.inl rfl)) se_int) (sw_or1 (st_cmp o_gt (se_var (i := 1) rfl (Or.inl rfl)) (se_var (i := 2) rfl (Or.inl rfl))))))) (sb_one (ss_ret se_bl)) sb_nil)))
    (sb_one (ss_ret se_bl))))
abbrev st__law_thing : Stmt := topS 34
theorem sc__law_thing : FnScope ["_law_pen_here", "_law_way", "_law_place", "_law_odd", "_law_machine_here", "_law_great", "_law_some", "_law_parts"] ["_law_pen_here"] (defScope st__law_thing) := ⟨rfl, rfl, rfl, by decide +kernel, rfl, by decide +kernel, by decide +kernel⟩
def b__law_thing (c__law_draw : Fn) (c__law_machine : Fn) (c__law_below : Fn) : Sx := (sSeq (sSet 1 (eFn c__law_draw (aCons (eV 0) (aCons (eC (D.int 9)) aNil))))
  (sSeq (sSet 2 (eFn c__law_draw (aCons (eV 0) (aCons (eC (D.int 2)) aNil))))
  (sSeq (sSet 3 (eFn c__law_draw (aCons (eV 0) (aCons (eC (D.int 16)) aNil))))
  (sSeq (sSet 4 (eFn c__law_machine (aCons (eV 0) aNil)))
  (sSeq (sIf (tB (eOp opLt (eV 1) (eC (D.int 4)))) (sSeq (sSet 5 (eFn c__law_below (aCons (eV 0) (aCons (eOp opPow (eC (D.int 10)) (eC (D.int 29))) aNil))))
  (sSeq (sSet 6 (eVal (aCons (eC (D.int 0)) (aCons (eUn opNeg (eC (D.int 1))) (aCons (eC (D.int 61)) (aCons (eC (D.int 5)) (aCons (eV 5) (aCons (eOp opSub (eC (D.int 0)) (eV 5)) (aCons (eC (D.bl true)) (aCons (eC (D.bl false)) (aCons (eC (D.str "2")) (aCons (eC D.non) (aCons (eTup (aCons (eC (D.int 2)) aNil)) (aCons (eVal (aCons (eC (D.int 2)) aNil)) (aCons (eDic []) (aCons (eC (D.int 60)) (aCons (eC (D.int 4)) (aCons (eC (D.int 62)) aNil))))))))))))))))))
  (sSeq (sSet 7 (eNew (fCall cLstX (aCons (eV 4) aNil))))
  (sSeq (sPut (eV 7) (eV 2) (eOp opIxA (eV 6) (eV 3)))
  (sRet (eCall cTup (aCons (eV 7) aNil))))))) sNil)
  (sSeq (sIf (tB (eOp opLt (eV 1) (eC (D.int 6)))) (sSeq (sSet 6 (eVal (aCons (eVal (fCall cLstX (aCons (eV 4) aNil))) (aCons (eSl (eV 4) oNo (oSo (eC (D.int 1)))) (aCons (eSl (eV 4) (oSo (eC (D.int 1))) oNo) (aCons (eOp opAdd (eV 4) (eTup (aCons (eC (D.int 1)) aNil))) (aCons (eTup (aCons (eV 4) aNil)) (aCons (eTup aNil) (aCons (eUn opRev (eV 4)) aNil)))))))))
  (sRet (eOp opIxA (eOp opAdd (eV 6) (eVal (aCons (eOp opAdd (eV 4) (eV 4)) aNil))) (eOp opMod (eV 3) (eC (D.int 8)))))) sNil)
  (sSeq (sSet 6 (eVal (aCons (eC D.non) (aCons (eC (D.int 7)) (aCons (eC (D.bl true)) (aCons (eC (D.str "")) (aCons (eC (D.str "(1, 2)")) (aCons (eDic []) (aCons (eVal aNil) (aCons (eC (D.int 0)) (aCons (eDic [((eC (D.int 1)), (eC (D.int 2)))]) (aCons (eTup (aCons (eTup (aCons (eC (D.int 1)) (aCons (eC (D.int 2)) aNil))) (aCons (eC (D.int 3)) aNil))) (aCons (eTup (aCons (eC (D.int 3)) (aCons (eTup (aCons (eC (D.int 1)) aNil)) aNil))) (aCons (eUn opNeg (eC (D.int 1))) (aCons (eTup (aCons (eC D.non) (aCons (eC D.non) aNil))) (aCons (eTup (aCons (eC (D.str "1")) (aCons (eC (D.str "2")) aNil))) aNil))))))))))))))))
  (sRet (eOp opIxA (eOp opAdd (eV 6) (eVal (aCons (eV 4) (aCons (eVal (aCons (eV 4) aNil)) aNil)))) (eV 3))))))))))
def r__law_thing (c__law_draw : Fn) (c__law_machine : Fn) (c__law_below : Fn) : Fn := runF 8 (b__law_thing c__law_draw c__law_machine c__law_below)
theorem d__law_thing {P : Program} {w : World} {K : PySem.W.Frag} {mg : Str → Option Value} {base : Heap} {k : Nat} (B : Bt mg) {f : Addr} {fd : FuncData} (F : Fun K "_law_thing" "_law_thing" st__law_thing f fd) {f__law_draw : Addr} {fd__law_draw : FuncData} {c__law_draw : Fn} (T__law_draw : Fd K mg "_law_draw" ["_law_pen_here", "_law_many"] st__law_draw f__law_draw fd__law_draw) (G__law_draw : FnG P w K mg base k f__law_draw fd__law_draw ["_law_pen_here", "_law_many"] c__law_draw) {f__law_machine : Addr} {fd__law_machine : FuncData} {c__law_machine : Fn} (T__law_machine : Fd K mg "_law_machine" ["_law_pen_here"] st__law_machine f__law_machine fd__law_machine) (G__law_machine : FnG P w K mg base k f__law_machine fd__law_machine ["_law_pen_here"] c__law_machine) {f__law_below : Addr} {fd__law_below : FuncData} {c__law_below : Fn} (T__law_below : Fd K mg "_law_below" ["_law_pen_here", "_law_many"] st__law_below f__law_below fd__law_below) (G__law_below : FnG P w K mg base k f__law_below fd__law_below ["_law_pen_here", "_law_many"] c__law_below) : FnG P w K mg base (k + 1) f fd ["_law_pen_here"] (r__law_thing c__law_draw c__law_machine c__law_below) :=
  fnG_of F sc__law_thing fun cdv A outer s H E C => by
  unfold b__law_thing
  exact (sb_cons (ss_set (i := 1) sc__law_thing.nd rfl (Or.inl rfl) (se_fn C G__law_draw (Nat.le_refl _) rfl T__law_draw.mg T__law_draw.fu.kp T__law_draw.bi (sa_cons (se_var (i := 0) rfl (Or.inl rfl)) (sa_cons se_int sa_nil))))
    (sb_cons (ss_set (i := 2) sc__law_thing.nd rfl (Or.inl rfl) (se_fn C G__law_draw (Nat.le_refl _) rfl T__law_draw.mg T__law_draw.fu.kp T__law_draw.bi (sa_cons (se_var (i := 0) rfl (Or.inl rfl)) (sa_cons se_int sa_nil))))
    (sb_cons (ss_set (i := 3) sc__law_thing.nd rfl (Or.inl rfl) (se_fn C G__law_draw (Nat.le_refl _) rfl T__law_draw.mg T__law_draw.fu.kp T__law_draw.bi (sa_cons (se_var (i := 0) rfl (Or.inl rfl)) (sa_cons se_int sa_nil))))
    (sb_cons (ss_set (i := 4) sc__law_thing.nd rfl (Or.inl rfl) (se_fn C G__law_machine (Nat.le_refl _) rfl T__law_machine.mg T__law_machine.fu.kp T__law_machine.bi (sa_cons (se_var (i := 0) rfl (Or.inl rfl)) sa_nil)))
    (sb_cons (ss_if (st_cmp (o_lt C.hu0) (se_var (i := 1) rfl (Or.inl rfl)) se_int) (sb_cons (ss_set (i := 5) sc__law_thing.nd rfl (Or.inl rfl) (se_fn C G__law_below (Nat.le_refl _) rfl T__law_below.mg T__law_below.fu.kp T__law_below.bi (sa_cons (se_var (i := 0) rfl (Or.inl rfl)) (sa_cons (se_op o_pow se_int se_int) sa_nil))))
    (sb_cons (ss_set (i := 6) sc__law_thing.nd rfl (Or.inl rfl) (se_val (sf_lst (sa_cons se_int (sa_cons (se_neg se_int) (sa_cons se_int (sa_cons se_int (sa_cons (se_var (i := 5) rfl (Or.inl rfl)) (sa_cons (se_op o_sub se_int (se_var (i := 5) rfl (Or.inl rfl))) (sa_cons se_bl (sa_cons se_bl (sa_cons (se_str (x := "2")) (sa_cons se_non (sa_cons (se_tup (sa_cons se_int sa_nil)) (sa_cons (se_val (sf_lst (sa_cons se_int sa_nil))) (sa_cons se_dic0 (sa_cons se_int (sa_cons se_int (sa_cons se_int sa_nil)))))))))))))))))))
    (sb_cons (ss_set (i := 7) sc__law_thing.nd rfl (Or.inl rfl) (se_new (sf_listX C rfl B.list bt_list (sa_cons (se_var (i := 4) rfl (Or.inl rfl)) sa_nil))))
    (sb_cons (ss_put (se_ixA C (se_var (i := 6) rfl (Or.inl rfl)) (se_var (i := 3) rfl (Or.inl rfl))) (pg_sub (se_var (i := 7) rfl (Or.inl rfl)) (se_var (i := 2) rfl (Or.inl rfl)) (set_any C.hu1)))
    (sb_one (ss_ret (se_callTy c_tup rfl B.tuple bt_tuple (sa_cons (se_var (i := 7) rfl (Or.inl rfl)) sa_nil)))))))) sb_nil)
    (sb_cons (ss_if (st_cmp (o_lt C.hu0) (se_var (i := 1) rfl (Or.inl rfl)) se_int) (sb_cons (ss_set (i := 6) sc__law_thing.nd rfl (Or.inl rfl) (se_val (sf_lst (sa_cons (se_val (sf_listX C rfl B.list bt_list (sa_cons (se_var (i := 4) rfl (Or.inl rfl)) sa_nil))) (sa_cons (se_sl (se_var (i := 4) rfl (Or.inl rfl)) so_no (so_so se_int)) (sa_cons (se_sl (se_var (i := 4) rfl (Or.inl rfl)) (so_so se_int) so_no) (sa_cons (se_op o_add (se_var (i := 4) rfl (Or.inl rfl)) (se_tup (sa_cons se_int sa_nil))) (sa_cons (se_tup (sa_cons (se_var (i := 4) rfl (Or.inl rfl)) sa_nil)) (sa_cons (se_tup sa_nil) (sa_cons (se_revA (se_var (i := 4) rfl (Or.inl rfl))) sa_nil))))))))))
    (sb_one (ss_ret (se_ixA C (se_op o_add (se_var (i := 6) rfl (Or.inl rfl)) (se_val (sf_lst (sa_cons (se_op o_add (se_var (i := 4) rfl (Or.inl rfl)) (se_var (i := 4) rfl (Or.inl rfl))) sa_nil)))) (se_op o_mod (se_var (i := 3) rfl (Or.inl rfl)) se_int))))) sb_nil)
    (sb_cons (ss_set (i := 6) sc__law_thing.nd rfl (Or.inl rfl) (se_val (sf_lst (sa_cons se_non (sa_cons se_int (sa_cons se_bl (sa_cons (se_str (x := "")) (sa_cons (se_str (x := "(1, 2)")) (sa_cons se_dic0 (sa_cons (se_val (sf_lst sa_nil)) (sa_cons se_int (sa_cons (se_dic (sd_cons se_int se_int sd_nil)) (sa_cons (se_tup (sa_cons (se_tup (sa_cons se_int (sa_cons se_int sa_nil))) (sa_cons se_int sa_nil))) (sa_cons (se_tup (sa_cons se_int (sa_cons (se_tup (sa_cons se_int sa_nil)) sa_nil))) (sa_cons (se_neg se_int) (sa_cons (se_tup (sa_cons se_non (sa_cons se_non sa_nil))) (sa_cons (se_tup (sa_cons (se_str (x := "1")) (sa_cons (se_str (x := "2")) sa_nil))) sa_nil)))))))))))))))))
    (sb_one (ss_ret (se_ixA C (se_op o_add (se_var (i := 6) rfl (Or.inl rfl)) (se_val (sf_lst (sa_cons (se_var (i := 4) rfl (Or.inl rfl)) (sa_cons (se_val (sf_lst (sa_cons (se_var (i := 4) rfl (Or.inl rfl)) sa_nil))) sa_nil))))) (se_var (i := 3) rfl (Or.inl rfl))))))))))))
abbrev st__law_wrapped_right : Stmt := topS 35
theorem sc__law_wrapped_right : FnScope ["_law_pen_here", "_law_machine_here", "_law_many", "_law_k", "_law_way", "_law_number", "_law_found"] ["_law_pen_here", "_law_machine_here"] (defScope st__law_wrapped_right) := ⟨rfl, rfl, rfl, by decide +kernel, rfl, by decide +kernel, by decide +kernel⟩
def b__law_wrapped_right (c__law_draw : Fn) (c__law_below : Fn) (c_wrapped : Fn) (c__law_is_whole : Fn) : Sx := (sSeq (sSet 2 (eOp opShl (eC (D.int 1)) (eOp opIxA (eV 1) (eC (D.int 0)))))
  (sSeq (sFor (iRg (aCons (eC (D.int 4)) aNil)) (gN 3) (sSeq (sSet 4 (eFn c__law_draw (aCons (eV 0) (aCons (eC (D.int 4)) aNil))))
  (sSeq (sSet 5 (eFn c__law_below (aCons (eV 0) (aCons (eOp opPow (eC (D.int 10)) (eC (D.int 29))) aNil))))
  (sSeq (sIf (tB (eOp opEq (eV 4) (eC (D.int 0)))) (sSet 5 (eOp opSub (eOp opAdd (eOp opMulY (eV 2) (eOp opSub (eFn c__law_draw (aCons (eV 0) (aCons (eC (D.int 9)) aNil))) (eC (D.int 4)))) (eFn c__law_draw (aCons (eV 0) (aCons (eC (D.int 3)) aNil)))) (eC (D.int 1)))) sNil)
  (sSeq (sIf (tB (eOp opEq (eV 4) (eC (D.int 1)))) (sSet 5 (eOp opSub (eC (D.int 0)) (eV 5))) sNil)
  (sSeq (sSet 6 (eFn c_wrapped (aCons (eV 1) (aCons (eV 5) aNil))))
  (sIf (tOrP (tNotP (tV (eFn c__law_is_whole (aCons (eV 6) aNil)))) (tOrP (tNotP (tB (eChain opLe opLt (eC (D.int 0)) (eV 6) (eV 2)))) (tB (eOp opNe (eOp opMod (eOp opSub (eV 6) (eV 5)) (eV 2)) (eC (D.int 0)))))) (sRet (eC (D.bl false))) sNil)))))))
  (sRet (eC (D.bl true)))))
def r__law_wrapped_right (c__law_draw : Fn) (c__law_below : Fn) (c_wrapped : Fn) (c__law_is_whole : Fn) : Fn := runF 7 (b__law_wrapped_right c__law_draw c__law_below c_wrapped c__law_is_whole)
theorem d__law_wrapped_right {P : Program} {w : World} {K : PySem.W.Frag} {mg : Str → Option Value} {base : Heap} {k : Nat} (B : Bt mg) {f : Addr} {fd : FuncData} (F : Fun K "_law_wrapped_right" "_law_wrapped_right" st__law_wrapped_right f fd) {f__law_draw : Addr} {fd__law_draw : FuncData} {c__law_draw : Fn} (T__law_draw : Fd K mg "_law_draw" ["_law_pen_here", "_law_many"] st__law_draw f__law_draw fd__law_draw) (G__law_draw : FnG P w K mg base k f__law_draw fd__law_draw ["_law_pen_here", "_law_many"] c__law_draw) {f__law_below : Addr} {fd__law_below : FuncData} {c__law_below : Fn} (T__law_below : Fd K mg "_law_below" ["_law_pen_here", "_law_many"] st__law_below f__law_below fd__law_below) (G__law_below : FnG P w K mg base k f__law_below fd__law_below ["_law_pen_here", "_law_many"] c__law_below) {f_wrapped : Addr} {fd_wrapped : FuncData} {c_wrapped : Fn} (T_wrapped : Fd K mg "wrapped" ["machine", "number"] st_wrapped f_wrapped fd_wrapped) (G_wrapped : FnG P w K mg base k f_wrapped fd_wrapped ["machine", "number"] c_wrapped) {f__law_is_whole : Addr} {fd__law_is_whole : FuncData} {c__law_is_whole : Fn} (T__law_is_whole : Fd K mg "_law_is_whole" ["_law_thing_here"] st__law_is_whole f__law_is_whole fd__law_is_whole) (G__law_is_whole : FnG P w K mg base k f__law_is_whole fd__law_is_whole ["_law_thing_here"] c__law_is_whole) : FnG P w K mg base (k + 1) f fd ["_law_pen_here", "_law_machine_here"] (r__law_wrapped_right c__law_draw c__law_below c_wrapped c__law_is_whole) :=
  fnG_of F sc__law_wrapped_right fun cdv A outer s H E C => by
  unfold b__law_wrapped_right
  exact (sb_cons (ss_set (i := 2) sc__law_wrapped_right.nd rfl (Or.inl rfl) (se_op o_shl se_int (se_ixA C (se_var (i := 1) rfl (Or.inl rfl)) se_int)))
    (sb_cons (ss_for C (si_range1 rfl B.range (sa_cons se_int sa_nil)) (sg_name (i := 3) sc__law_wrapped_right.nd rfl (Or.inl rfl)) (sb_cons (ss_set (i := 4) sc__law_wrapped_right.nd rfl (Or.inl rfl) (se_fn C G__law_draw (Nat.le_refl _) rfl T__law_draw.mg T__law_draw.fu.kp T__law_draw.bi (sa_cons (se_var (i := 0) rfl (Or.inl rfl)) (sa_cons se_int sa_nil))))
    (sb_cons (ss_set (i := 5) sc__law_wrapped_right.nd rfl (Or.inl rfl) (se_fn C G__law_below (Nat.le_refl _) rfl T__law_below.mg T__law_below.fu.kp T__law_below.bi (sa_cons (se_var (i := 0) rfl (Or.inl rfl)) (sa_cons (se_op o_pow se_int se_int) sa_nil))))
    (sb_cons (ss_if (st_cmp (o_eq C.hu65) (se_var (i := 4) rfl (Or.inl rfl)) se_int) (sb_one (ss_set (i := 5) sc__law_wrapped_right.nd rfl (Or.inl rfl) (se_op o_sub (se_op o_add (se_op o_mulY (se_var (i := 2) rfl (Or.inl rfl)) (se_op o_sub (se_fn C G__law_draw (Nat.le_refl _) rfl T__law_draw.mg T__law_draw.fu.kp T__law_draw.bi (sa_cons (se_var (i := 0) rfl (Or.inl rfl)) (sa_cons se_int sa_nil))) se_int)) (se_fn C G__law_draw (Nat.le_refl _) rfl T__law_draw.mg T__law_draw.fu.kp T__law_draw.bi (sa_cons (se_var (i := 0) rfl (Or.inl rfl)) (sa_cons se_int sa_nil)))) se_int))) sb_nil)
    (sb_cons (ss_if (st_cmp (o_eq C.hu65) (se_var (i := 4) rfl (Or.inl rfl)) se_int) (sb_one (ss_set (i := 5) sc__law_wrapped_right.nd rfl (Or.inl rfl) (se_op o_sub se_int (se_var (i := 5) rfl (Or.inl rfl))))) sb_nil)
    (sb_cons (ss_set (i := 6) sc__law_wrapped_right.nd rfl (Or.inl rfl) (se_fn C G_wrapped (Nat.le_refl _) rfl T_wrapped.mg T_wrapped.fu.kp T_wrapped.bi (sa_cons (se_var (i := 1) rfl (Or.inl rfl)) (sa_cons (se_var (i := 5) rfl (Or.inl rfl)) sa_nil))))
    (sb_one (ss_if (st_w (sw_or (st_not (st_val (se_fn C G__law_is_whole (Nat.le_refl _) rfl T__law_is_whole.mg T__law_is_whole.fu.kp T__law_is_whole.bi (sa_cons (se_var (i := 6) rfl (Or.inl rfl)) sa_nil)))) (sw_or (st_not (st_chain o_le (o_lt C.hu0) se_int (se_var (i := 6) rfl (Or.inl rfl)) (se_var (i := 2) rfl (Or.inl rfl)))) (sw_or1 (st_cmp (o_ne C.hu65) (se_op o_mod (se_op o_sub (se_var (i := 6) rfl (Or.inl rfl)) (se_var (i := 5) rfl (Or.inl rfl))) (se_var (i := 2) rfl (Or.inl rfl))) se_int))))) (sb_one (ss_ret se_bl)) sb_nil))))))))
    (sb_one (ss_ret se_bl))))
abbrev st__law_stands_right : Stmt := topS 36
theorem sc__law_stands_right : FnScope ["_law_machine_here", "_law_found", "_law_many", "_law_box", "_law_k", "_law_stand", "_law_number"] ["_law_machine_here"] (defScope st__law_stands_right) := ⟨rfl, rfl, rfl, by decide +kernel, rfl, by decide +kernel, by decide +kernel⟩
def b__law_stands_right (c_stands : Fn) (c__law_is_whole : Fn) : Sx := (sSeq (sSet 1 (eFn c_stands (aCons (eV 0) aNil)))
  (sSeq (sSet 2 (eC (D.int 1)))
  (sSeq (sFor (iRg (aCons (eOp opIxA (eV 0) (eC (D.int 1))) aNil)) (gN 3) (sSet 2 (eOp opMulY (eV 2) (eOp opShl (eC (D.int 1)) (eOp opIxA (eV 0) (eC (D.int 0)))))))
  (sSeq (sIf (tOrP (tNotP (tV (eCall cIsi (aCons (eV 1) (aCons (eC (D.ty "list")) aNil))))) (tB (eOp opNe (eCall cLen (aCons (eV 1) aNil)) (eV 2)))) (sRet (eC (D.bl false))) sNil)
  (sSeq (sFor (iEnum8 (aCons (eV 1) aNil)) (gT 2 (gsCons (gN 4) (gsCons (gN 5) gsNil'))) (sSeq (sIf (tOrP (tNotP (tV (eCall cIsi (aCons (eV 5) (aCons (eC (D.ty "tuple")) aNil))))) (tB (eOp opNe (eCall cLen (aCons (eV 5) aNil)) (eOp opIxA (eV 0) (eC (D.int 1)))))) (sRet (eC (D.bl false))) sNil)
  (sSeq (sIf (tNotP (tV (eCall cAll (aCons (eVal (fLc (iSeq (eV 5)) (gN 6) tYesD (eAnd (eFn c__law_is_whole (aCons (eV 6) aNil)) (eChain opLe opLt (eC (D.int 0)) (eV 6) (eOp opShl (eC (D.int 1)) (eOp opIxA (eV 0) (eC (D.int 0)))))) [6])) aNil)))) (sRet (eC (D.bl false))) sNil)
  (sIf (tAndP (tB (eOp opGt (eV 4) (eC (D.int 0)))) (tNotP (tB (eOp opLt (eOp opIxA (eV 1) (eOp opSub (eV 4) (eC (D.int 1)))) (eV 5))))) (sRet (eC (D.bl false))) sNil))))
  (sRet (eC (D.bl true))))))))
def r__law_stands_right (c_stands : Fn) (c__law_is_whole : Fn) : Fn := runF 7 (b__law_stands_right c_stands c__law_is_whole)
theorem d__law_stands_right {P : Program} {w : World} {K : PySem.W.Frag} {mg : Str → Option Value} {base : Heap} {k : Nat} (B : Bt mg) {f : Addr} {fd : FuncData} (F : Fun K "_law_stands_right" "_law_stands_right" st__law_stands_right f fd) {f_stands : Addr} {fd_stands : FuncData} {c_stands : Fn} (T_stands : Fd K mg "stands" ["machine"] st_stands f_stands fd_stands) (G_stands : FnG P w K mg base k f_stands fd_stands ["machine"] c_stands) {f__law_is_whole : Addr} {fd__law_is_whole : FuncData} {c__law_is_whole : Fn} (T__law_is_whole : Fd K mg "_law_is_whole" ["_law_thing_here"] st__law_is_whole f__law_is_whole fd__law_is_whole) (G__law_is_whole : FnG P w K mg base k f__law_is_whole fd__law_is_whole ["_law_thing_here"] c__law_is_whole) : FnG P w K mg base (k + 1) f fd ["_law_machine_here"] (r__law_stands_right c_stands c__law_is_whole) :=
  fnG_of F sc__law_stands_right fun cdv A outer s H E C => by
  unfold b__law_stands_right
  exact (sb_cons (ss_set (i := 1) sc__law_stands_right.nd rfl (Or.inl rfl) (se_fn C G_stands (Nat.le_refl _) rfl T_stands.mg T_stands.fu.kp T_stands.bi (sa_cons (se_var (i := 0) rfl (Or.inr (Or.inl rfl))) sa_nil)))
    (sb_cons (ss_set (i := 2) sc__law_stands_right.nd rfl (Or.inl rfl) se_int)
    (sb_cons (ss_for C (si_range1 rfl B.range (sa_cons (se_ixA C (se_var (i := 0) rfl (Or.inr (Or.inl rfl))) se_int) sa_nil)) (sg_name (i := 3) sc__law_stands_right.nd rfl (Or.inl rfl)) (sb_one (ss_set (i := 2) sc__law_stands_right.nd rfl (Or.inl rfl) (se_op o_mulY (se_var (i := 2) rfl (Or.inl rfl)) (se_op o_shl se_int (se_ixA C (se_var (i := 0) rfl (Or.inr (Or.inl rfl))) se_int))))))
    (sb_cons (ss_if (st_w (sw_or (st_not (st_val (se_callB c_isi rfl B.isinstance bt_isinstance (sa_cons (se_var (i := 1) rfl (Or.inl rfl)) (sa_cons (se_ty rfl B.list bt_list) sa_nil))))) (sw_or1 (st_cmp (o_ne C.hu65) (se_callB c_len rfl B.len bt_len (sa_cons (se_var (i := 1) rfl (Or.inl rfl)) sa_nil)) (se_var (i := 2) rfl (Or.inl rfl)))))) (sb_one (ss_ret se_bl)) sb_nil)
    (sb_cons (ss_for C (si_enum rfl B.enumerate (sa_cons (se_var (i := 1) rfl (Or.inl rfl)) sa_nil)) (sg_tup rfl (sgs_cons (sg_name (i := 4) sc__law_stands_right.nd rfl (Or.inl rfl)) (sgs_cons (sg_name (i := 5) sc__law_stands_right.nd rfl (Or.inl rfl)) sgs_nil))) (sb_cons (ss_if (st_w (sw_or (st_not (st_val (se_callB c_isi rfl B.isinstance bt_isinstance (sa_cons (se_var (i := 5) rfl (Or.inl rfl)) (sa_cons (se_ty rfl B.tuple bt_tuple) sa_nil))))) (sw_or1 (st_cmp (o_ne C.hu65) (se_callB c_len rfl B.len bt_len (sa_cons (se_var (i := 5) rfl (Or.inl rfl)) sa_nil)) (se_ixA C (se_var (i := 0) rfl (Or.inr (Or.inl rfl))) se_int))))) (sb_one (ss_ret se_bl)) sb_nil)
    (sb_cons (ss_if (st_not (st_val (se_callB (c_all C.calm) rfl B.all bt_all (sa_cons (se_val (sf_lc C (own := [("_law_number", 6)]) sc__law_stands_right.nd (si_seq (se_var (i := 5) rfl (Or.inl rfl))) (blkOk_by (N := ["_law_machine_here", "_law_found", "_law_many", "_law_box", "_law_k", "_law_stand", "_law_number"]) (sc := defScope st__law_stands_right) (own := [("_law_number", 6)]) (by decide +kernel)) (fun s1 H1 A1 cl1 fp1 => (sg_name (i := 6) sc__law_stands_right.nd rfl (Or.inl rfl))) (fun s1 H1 A1 cl1 fp1 => spt_nil) (fun s1 H1 A1 cl1 fp1 => have C1 := C.blk s1 H1 _ _ fp1; (se_and (se_fn C1 G__law_is_whole (Nat.le_refl _) rfl T__law_is_whole.mg T__law_is_whole.fu.kp T__law_is_whole.bi (sa_cons (se_var (i := 6) rfl (Or.inl rfl)) sa_nil)) (se_one (se_chain o_le (o_lt C1.hu0) se_int (se_var (i := 6) rfl (Or.inl rfl)) (se_op o_shl se_int (se_ixA C1 (se_var (i := 0) rfl (Or.inr (Or.inl rfl))) se_int)))))))) sa_nil)))) (sb_one (ss_ret se_bl)) sb_nil)
    (sb_one (ss_if (st_w (sw_and (st_cmp o_gt (se_var (i := 4) rfl (Or.inl rfl)) se_int) (sw_and1 (st_not (st_cmp (o_lt C.hu0) (se_ixA C (se_var (i := 1) rfl (Or.inl rfl)) (se_op o_sub (se_var (i := 4) rfl (Or.inl rfl)) se_int)) (se_var (i := 5) rfl (Or.inl rfl))))))) (sb_one (ss_ret se_bl)) sb_nil)))))
    (sb_one (ss_ret se_bl)))))))
abbrev st_law : Stmt := topS 37
theorem sc_law : FnScope ["_law_script", "_law_pen_here", "_law_bits", "_law_boxes", "_law_k", "_law_thing_here", "_law_kept", "_law_machine_here"] ["_law_script"] (defScope st_law) := ⟨rfl, rfl, rfl, by decide +kernel, rfl, by decide +kernel, by decide +kernel⟩
noncomputable def b_law (c__law_pen : Fn) (c__law_thing : Fn) (c__law_machine : Fn) (c__law_small : Fn) (c__law_wrapped_right : Fn) (c__law_stands_right : Fn) (c__law_too_many : D → (HH → R D) → Fn) (c__law_tells : Fn) (c_stands : Fn) (c_is_machine : Fn) (c__law_is_machine : Fn) (c_is_small : Fn) : Sx := (sSeq (sSet 1 (eFn c__law_pen (aCons (eV 0) aNil)))
  (sSeq (sFor (iRg (aCons (eC (D.int 1)) (aCons (eC (D.int 61)) aNil))) (gN 2) (sFor (iRg (aCons (eC (D.int 1)) (aCons (eC (D.int 5)) aNil))) (gN 3) (sIf (tOrP (tB (eOp opIsNot (eFn c_is_machine (aCons (eTup (aCons (eV 2) (aCons (eV 3) aNil))) aNil)) (eC (D.bl true)))) (tNotP (tV (eFn c__law_tells (aCons (eFn c_is_small (aCons (eTup (aCons (eV 2) (aCons (eV 3) aNil))) aNil)) (aCons (eOp opLt (eOp opMulY (eV 2) (eV 3)) (eC (D.int 9))) aNil)))))) (sRet (eC (D.bl false))) sNil)))
  (sSeq (sFor (iRg (aCons (eC (D.int 8)) aNil)) (gN 4) (sSeq (sSet 5 (eFn c__law_thing (aCons (eV 1) aNil)))
  (sSeq (sSet 6 (eCall cRepr (aCons (eV 5) aNil)))
  (sSeq (sIf (tOrP (tNotP (tV (eFn c__law_tells (aCons (eFn c_is_machine (aCons (eV 5) aNil)) (aCons (eFn c__law_is_machine (aCons (eV 5) aNil)) aNil))))) (tB (eOp opNe (eCall cRepr (aCons (eV 5) aNil)) (eV 6)))) (sRet (eC (D.bl false))) sNil)
  (sSeq (sSet 7 (eFn c__law_machine (aCons (eV 1) aNil)))
  (sSeq (sIf (tNotP (tV (eFn c__law_wrapped_right (aCons (eV 1) (aCons (eV 7) aNil))))) (sRet (eC (D.bl false))) sNil)
  (sIf (tAndP (tB (eOp opGt (eOp opMulY (eOp opIxA (eV 7) (eC (D.int 0))) (eOp opIxA (eV 7) (eC (D.int 1)))) (eC (D.int 8)))) (tNotP (tV (eLam c__law_too_many (eFn c_stands (aCons (eV 7) aNil)))))) (sRet (eC (D.bl false))) sNil)))))))
  (sSeq (sFor (iRg (aCons (eC (D.int 2)) aNil)) (gN 4) (sSeq (sSet 7 (eFn c__law_small (aCons (eV 1) aNil)))
  (sSeq (sIf (tNotP (tV (eFn c__law_stands_right (aCons (eV 7) aNil)))) (sRet (eC (D.bl false))) sNil)
  (sSeq (sEx (eM cL mClear (eFn c_stands (aCons (eV 7) aNil)) aNil))
  (sIf (tNotP (tV (eFn c__law_stands_right (aCons (eV 7) aNil)))) (sRet (eC (D.bl false))) sNil)))))
  (sSeq (sFor (iSeq (eVal (aCons (eTup (aCons (eC (D.int 9)) (aCons (eC (D.int 1)) aNil))) (aCons (eTup (aCons (eC (D.int 3)) (aCons (eC (D.int 3)) aNil))) (aCons (eTup (aCons (eC (D.int 5)) (aCons (eC (D.int 2)) aNil))) (aCons (eTup (aCons (eC (D.int 60)) (aCons (eC (D.int 4)) aNil))) aNil)))))) (gN 7) (sIf (tNotP (tV (eLam c__law_too_many (eFn c_stands (aCons (eV 7) aNil))))) (sRet (eC (D.bl false))) sNil))
  (sRet (eC (D.bl true))))))))
noncomputable def r_law (c__law_pen : Fn) (c__law_thing : Fn) (c__law_machine : Fn) (c__law_small : Fn) (c__law_wrapped_right : Fn) (c__law_stands_right : Fn) (c__law_too_many : D → (HH → R D) → Fn) (c__law_tells : Fn) (c_stands : Fn) (c_is_machine : Fn) (c__law_is_machine : Fn) (c_is_small : Fn) : Fn := runF 8 (b_law c__law_pen c__law_thing c__law_machine c__law_small c__law_wrapped_right c__law_stands_right c__law_too_many c__law_tells c_stands c_is_machine c__law_is_machine c_is_small)
theorem d_law {P : Program} {w : World} {K : PySem.W.Frag} {mg : Str → Option Value} {base : Heap} {k : Nat} (B : Bt mg) {f : Addr} {fd : FuncData} (F : Fun K "law" "law" st_law f fd) {f__law_pen : Addr} {fd__law_pen : FuncData} {c__law_pen : Fn} (T__law_pen : Fd K mg "_law_pen" ["_law_script"] st__law_pen f__law_pen fd__law_pen) (G__law_pen : FnG P w K mg base k f__law_pen fd__law_pen ["_law_script"] c__law_pen) {f__law_thing : Addr} {fd__law_thing : FuncData} {c__law_thing : Fn} (T__law_thing : Fd K mg "_law_thing" ["_law_pen_here"] st__law_thing f__law_thing fd__law_thing) (G__law_thing : FnG P w K mg base k f__law_thing fd__law_thing ["_law_pen_here"] c__law_thing) {f__law_machine : Addr} {fd__law_machine : FuncData} {c__law_machine : Fn} (T__law_machine : Fd K mg "_law_machine" ["_law_pen_here"] st__law_machine f__law_machine fd__law_machine) (G__law_machine : FnG P w K mg base k f__law_machine fd__law_machine ["_law_pen_here"] c__law_machine) {f__law_small : Addr} {fd__law_small : FuncData} {c__law_small : Fn} (T__law_small : Fd K mg "_law_small" ["_law_pen_here"] st__law_small f__law_small fd__law_small) (G__law_small : FnG P w K mg base k f__law_small fd__law_small ["_law_pen_here"] c__law_small) {f__law_wrapped_right : Addr} {fd__law_wrapped_right : FuncData} {c__law_wrapped_right : Fn} (T__law_wrapped_right : Fd K mg "_law_wrapped_right" ["_law_pen_here", "_law_machine_here"] st__law_wrapped_right f__law_wrapped_right fd__law_wrapped_right) (G__law_wrapped_right : FnG P w K mg base k f__law_wrapped_right fd__law_wrapped_right ["_law_pen_here", "_law_machine_here"] c__law_wrapped_right) {f__law_stands_right : Addr} {fd__law_stands_right : FuncData} {c__law_stands_right : Fn} (T__law_stands_right : Fd K mg "_law_stands_right" ["_law_machine_here"] st__law_stands_right f__law_stands_right fd__law_stands_right) (G__law_stands_right : FnG P w K mg base k f__law_stands_right fd__law_stands_right ["_law_machine_here"] c__law_stands_right) {f__law_tells : Addr} {fd__law_tells : FuncData} {c__law_tells : Fn} (T__law_tells : Fd K mg "_law_tells" ["_law_found", "_law_due"] st__law_tells f__law_tells fd__law_tells) (G__law_tells : FnG P w K mg base k f__law_tells fd__law_tells ["_law_found", "_law_due"] c__law_tells) {f_stands : Addr} {fd_stands : FuncData} {c_stands : Fn} (T_stands : Fd K mg "stands" ["machine"] st_stands f_stands fd_stands) (G_stands : FnG P w K mg base k f_stands fd_stands ["machine"] c_stands) {f_is_machine : Addr} {fd_is_machine : FuncData} {c_is_machine : Fn} (T_is_machine : Fd K mg "is_machine" ["thing"] st_is_machine f_is_machine fd_is_machine) (G_is_machine : FnG P w K mg base k f_is_machine fd_is_machine ["thing"] c_is_machine) {f__law_is_machine : Addr} {fd__law_is_machine : FuncData} {c__law_is_machine : Fn} (T__law_is_machine : Fd K mg "_law_is_machine" ["_law_thing_here"] st__law_is_machine f__law_is_machine fd__law_is_machine) (G__law_is_machine : FnG P w K mg base k f__law_is_machine fd__law_is_machine ["_law_thing_here"] c__law_is_machine) {f_is_small : Addr} {fd_is_small : FuncData} {c_is_small : Fn} (T_is_small : Fd K mg "is_small" ["machine"] st_is_small f_is_small fd_is_small) (G_is_small : FnG P w K mg base k f_is_small fd_is_small ["machine"] c_is_small) {f__law_too_many : Addr} {fd__law_too_many : FuncData} {c__law_too_many : D → (HH → R D) → Fn} (T__law_too_many : Fd K mg "_law_too_many" ["_law_asked"] st__law_too_many f__law_too_many fd__law_too_many) (G__law_too_many : FnGL P w K mg base k f__law_too_many fd__law_too_many "_law_asked" c__law_too_many) {cP tP : Addr} (HC : fd.code = .ref cP) (TB : TabB base mg cP tP) (HQ : (tP, ("law" : Str) ++ ".<locals>." ++ "<lambda>") ∈ QK K) (HU : ∀ p ∈ QK K, p.1 = tP → p.2 = ("law" : Str) ++ ".<locals>." ++ "<lambda>") : FnG P w K mg base (k + 2 + 1) f fd ["_law_script"] (r_law c__law_pen c__law_thing c__law_machine c__law_small c__law_wrapped_right c__law_stands_right c__law_too_many c__law_tells c_stands c_is_machine c__law_is_machine c_is_small) :=
  fnG_ofC F sc_law HC fun cdv hcode A outer s H E C => by
  unfold b_law
  exact (sb_cons (ss_set (i := 1) sc_law.nd rfl (Or.inl rfl) (se_fn C G__law_pen (Nat.le_add_right _ _) rfl T__law_pen.mg T__law_pen.fu.kp T__law_pen.bi (sa_cons (se_var (i := 0) rfl (Or.inl rfl)) sa_nil)))
    (sb_cons (ss_for C (si_range2 rfl B.range (sa_cons se_int (sa_cons se_int sa_nil))) (sg_name (i := 2) sc_law.nd rfl (Or.inl rfl)) (sb_one (ss_for C (si_range2 rfl B.range (sa_cons se_int (sa_cons se_int sa_nil))) (sg_name (i := 3) sc_law.nd rfl (Or.inl rfl)) (sb_one (ss_if (st_w (sw_or (st_cmp o_isNot (se_fn C G_is_machine (Nat.le_add_right _ _) rfl T_is_machine.mg T_is_machine.fu.kp T_is_machine.bi (sa_cons (se_tup (sa_cons (se_var (i := 2) rfl (Or.inl rfl)) (sa_cons (se_var (i := 3) rfl (Or.inl rfl)) sa_nil))) sa_nil)) se_bl) (sw_or1 (st_not (st_val (se_fn C G__law_tells (Nat.le_add_right _ _) rfl T__law_tells.mg T__law_tells.fu.kp T__law_tells.bi (sa_cons (se_fn C G_is_small (Nat.le_add_right _ _) rfl T_is_small.mg T_is_small.fu.kp T_is_small.bi (sa_cons (se_tup (sa_cons (se_var (i := 2) rfl (Or.inl rfl)) (sa_cons (se_var (i := 3) rfl (Or.inl rfl)) sa_nil))) sa_nil)) (sa_cons (se_cmp (o_lt C.hu0) (se_op o_mulY (se_var (i := 2) rfl (Or.inl rfl)) (se_var (i := 3) rfl (Or.inl rfl))) se_int) sa_nil)))))))) (sb_one (ss_ret se_bl)) sb_nil)))))
    (sb_cons (ss_for C (si_range1 rfl B.range (sa_cons se_int sa_nil)) (sg_name (i := 4) sc_law.nd rfl (Or.inl rfl)) (sb_cons (ss_set (i := 5) sc_law.nd rfl (Or.inl rfl) (se_fn C G__law_thing (Nat.le_add_right _ _) rfl T__law_thing.mg T__law_thing.fu.kp T__law_thing.bi (sa_cons (se_var (i := 1) rfl (Or.inl rfl)) sa_nil)))
    (sb_cons (ss_set (i := 6) sc_law.nd rfl (Or.inl rfl) (se_callB (c_repr C.gd C.hu65) rfl B.repr bt_repr (sa_cons (se_var (i := 5) rfl (Or.inl rfl)) sa_nil)))
    (sb_cons (ss_if (st_w (sw_or (st_not (st_val (se_fn C G__law_tells (Nat.le_add_right _ _) rfl T__law_tells.mg T__law_tells.fu.kp T__law_tells.bi (sa_cons (se_fn C G_is_machine (Nat.le_add_right _ _) rfl T_is_machine.mg T_is_machine.fu.kp T_is_machine.bi (sa_cons (se_var (i := 5) rfl (Or.inl rfl)) sa_nil)) (sa_cons (se_fn C G__law_is_machine (Nat.le_add_right _ _) rfl T__law_is_machine.mg T__law_is_machine.fu.kp T__law_is_machine.bi (sa_cons (se_var (i := 5) rfl (Or.inl rfl)) sa_nil)) sa_nil))))) (sw_or1 (st_cmp (o_ne C.hu65) (se_callB (c_repr C.gd C.hu65) rfl B.repr bt_repr (sa_cons (se_var (i := 5) rfl (Or.inl rfl)) sa_nil)) (se_var (i := 6) rfl (Or.inl rfl)))))) (sb_one (ss_ret se_bl)) sb_nil)
    (sb_cons (ss_set (i := 7) sc_law.nd rfl (Or.inr rfl) (se_fn C G__law_machine (Nat.le_add_right _ _) rfl T__law_machine.mg T__law_machine.fu.kp T__law_machine.bi (sa_cons (se_var (i := 1) rfl (Or.inl rfl)) sa_nil)))
    (sb_cons (ss_if (st_not (st_val (se_fn C G__law_wrapped_right (Nat.le_add_right _ _) rfl T__law_wrapped_right.mg T__law_wrapped_right.fu.kp T__law_wrapped_right.bi (sa_cons (se_var (i := 1) rfl (Or.inl rfl)) (sa_cons (se_var (i := 7) rfl (Or.inr (Or.inl rfl))) sa_nil))))) (sb_one (ss_ret se_bl)) sb_nil)
    (sb_one (ss_if (st_w (sw_and (st_cmp o_gt (se_op o_mulY (se_ixA C (se_var (i := 7) rfl (Or.inr (Or.inl rfl))) se_int) (se_ixA C (se_var (i := 7) rfl (Or.inr (Or.inl rfl))) se_int)) se_int) (sw_and1 (st_not (st_val (se_lam C G__law_too_many (Nat.le_refl _) rfl T__law_too_many.mg T__law_too_many.fu.kp T__law_too_many.bi TB hcode HQ HU (lamS_by rfl) rfl (fun _ _ _ _ _ => rfl) (fun _ _ _ _ _ _ _ CL => (se_fn CL G_stands (Nat.le_refl _) rfl T_stands.mg T_stands.fu.kp T_stands.bi (sa_cons (se_var (i := 7) rfl (Or.inr (Or.inr rfl))) sa_nil))))))))) (sb_one (ss_ret se_bl)) sb_nil))))))))
    (sb_cons (ss_for C (si_range1 rfl B.range (sa_cons se_int sa_nil)) (sg_name (i := 4) sc_law.nd rfl (Or.inl rfl)) (sb_cons (ss_set (i := 7) sc_law.nd rfl (Or.inr rfl) (se_fn C G__law_small (Nat.le_add_right _ _) rfl T__law_small.mg T__law_small.fu.kp T__law_small.bi (sa_cons (se_var (i := 1) rfl (Or.inl rfl)) sa_nil)))
    (sb_cons (ss_if (st_not (st_val (se_fn C G__law_stands_right (Nat.le_add_right _ _) rfl T__law_stands_right.mg T__law_stands_right.fu.kp T__law_stands_right.bi (sa_cons (se_var (i := 7) rfl (Or.inr (Or.inl rfl))) sa_nil)))) (sb_one (ss_ret se_bl)) sb_nil)
    (sb_cons (ss_ex (se_mL0 PySem.F.slot_list_clear PySem.F.type_list_clear m_clear (se_fn C G_stands (Nat.le_add_right _ _) rfl T_stands.mg T_stands.fu.kp T_stands.bi (sa_cons (se_var (i := 7) rfl (Or.inr (Or.inl rfl))) sa_nil))))
    (sb_one (ss_if (st_not (st_val (se_fn C G__law_stands_right (Nat.le_add_right _ _) rfl T__law_stands_right.mg T__law_stands_right.fu.kp T__law_stands_right.bi (sa_cons (se_var (i := 7) rfl (Or.inr (Or.inl rfl))) sa_nil)))) (sb_one (ss_ret se_bl)) sb_nil))))))
    (sb_cons (ss_for C (si_seq (se_val (sf_lst (sa_cons (se_tup (sa_cons se_int (sa_cons se_int sa_nil))) (sa_cons (se_tup (sa_cons se_int (sa_cons se_int sa_nil))) (sa_cons (se_tup (sa_cons se_int (sa_cons se_int sa_nil))) (sa_cons (se_tup (sa_cons se_int (sa_cons se_int sa_nil))) sa_nil))))))) (sg_name (i := 7) sc_law.nd rfl (Or.inr rfl)) (sb_one (ss_if (st_not (st_val (se_lam C G__law_too_many (Nat.le_refl _) rfl T__law_too_many.mg T__law_too_many.fu.kp T__law_too_many.bi TB hcode HQ HU (lamS_by rfl) rfl (fun _ _ _ _ _ => rfl) (fun _ _ _ _ _ _ _ CL => (se_fn CL G_stands (Nat.le_refl _) rfl T_stands.mg T_stands.fu.kp T_stands.bi (sa_cons (se_var (i := 7) rfl (Or.inr (Or.inr rfl))) sa_nil)))))) (sb_one (ss_ret se_bl)) sb_nil)))
    (sb_one (ss_ret se_bl)))))))
def F_is_whole : Fn := (r_is_whole)
def F_is_machine : Fn := (r_is_machine F_is_whole)
def F_wrapped : Fn := (r_wrapped)
def F_is_small : Fn := (r_is_small)
def F_stands : Fn := (r_stands F_is_small)
def F__law_pen : Fn := (r__law_pen)
def F__law_draw : Fn := (r__law_draw)
def F__law_below : Fn := (r__law_below F__law_draw)
def F__law_machine : Fn := (r__law_machine F__law_draw)
def F__law_small : Fn := (r__law_small F__law_draw)
def F__law_is_whole : Fn := (r__law_is_whole)
def F__law_tells : Fn := (r__law_tells)
def F__law_too_many : D → (HH → R D) → Fn := (r__law_too_many)
def F__law_is_machine : Fn := (r__law_is_machine F__law_is_whole)
def F__law_thing : Fn := (fzF (r__law_thing F__law_draw F__law_machine F__law_below))
def F__law_wrapped_right : Fn := (r__law_wrapped_right F__law_draw F__law_below F_wrapped F__law_is_whole)
def F__law_stands_right : Fn := (fzF (r__law_stands_right F_stands F__law_is_whole))
noncomputable def F_law : Fn := (r_law F__law_pen F__law_thing F__law_machine F__law_small F__law_wrapped_right F__law_stands_right F__law_too_many F__law_tells F_stands F_is_machine F__law_is_machine F_is_small)
theorem all_mk {l : PySem.W.OpenLaw} {w : World} {K : PySem.W.Frag} {h : Heap} {mg : Str → Option Value} {fa : Addr} (X : K.In h) (G : h.Ns mainGlobals mg) (hfa : mg "law" = some (.ref fa))
    {f0 : Addr} {od0 an0 : Option Addr} {sl0 : Array (Option Value)} {oc0 kV0 dc0 pm0 cd0 ct0 : Value}
    (a0 : PySem.W.nsIn K mainGlobals "is_whole" = some (some (.ref f0))) (l0 : K.lookup f0 = some ⟨oc0, od0, .func (PySem.W.fnOf "is_whole" "is_whole" (defArgs st_is_whole) (defBody st_is_whole) (defScope st_is_whole) .none kV0 dc0 pm0 an0 cd0 ct0), sl0⟩) (c0 : PySem.W.codeIn K cd0 "is_whole" = true) (k0 : PySem.W.keepIn K (.ref f0) = true)
    {f1 : Addr} {od1 an1 : Option Addr} {sl1 : Array (Option Value)} {oc1 kV1 dc1 pm1 cd1 ct1 : Value}
    (a1 : PySem.W.nsIn K mainGlobals "is_machine" = some (some (.ref f1))) (l1 : K.lookup f1 = some ⟨oc1, od1, .func (PySem.W.fnOf "is_machine" "is_machine" (defArgs st_is_machine) (defBody st_is_machine) (defScope st_is_machine) .none kV1 dc1 pm1 an1 cd1 ct1), sl1⟩) (c1 : PySem.W.codeIn K cd1 "is_machine" = true) (k1 : PySem.W.keepIn K (.ref f1) = true)
    {f2 : Addr} {od2 an2 : Option Addr} {sl2 : Array (Option Value)} {oc2 kV2 dc2 pm2 cd2 ct2 : Value}
    (a2 : PySem.W.nsIn K mainGlobals "wrapped" = some (some (.ref f2))) (l2 : K.lookup f2 = some ⟨oc2, od2, .func (PySem.W.fnOf "wrapped" "wrapped" (defArgs st_wrapped) (defBody st_wrapped) (defScope st_wrapped) .none kV2 dc2 pm2 an2 cd2 ct2), sl2⟩) (c2 : PySem.W.codeIn K cd2 "wrapped" = true) (k2 : PySem.W.keepIn K (.ref f2) = true)
    {f3 : Addr} {od3 an3 : Option Addr} {sl3 : Array (Option Value)} {oc3 kV3 dc3 pm3 cd3 ct3 : Value}
    (a3 : PySem.W.nsIn K mainGlobals "is_small" = some (some (.ref f3))) (l3 : K.lookup f3 = some ⟨oc3, od3, .func (PySem.W.fnOf "is_small" "is_small" (defArgs st_is_small) (defBody st_is_small) (defScope st_is_small) .none kV3 dc3 pm3 an3 cd3 ct3), sl3⟩) (c3 : PySem.W.codeIn K cd3 "is_small" = true) (k3 : PySem.W.keepIn K (.ref f3) = true)
    {f4 : Addr} {od4 an4 : Option Addr} {sl4 : Array (Option Value)} {oc4 kV4 dc4 pm4 cd4 ct4 : Value}
    (a4 : PySem.W.nsIn K mainGlobals "stands" = some (some (.ref f4))) (l4 : K.lookup f4 = some ⟨oc4, od4, .func (PySem.W.fnOf "stands" "stands" (defArgs st_stands) (defBody st_stands) (defScope st_stands) .none kV4 dc4 pm4 an4 cd4 ct4), sl4⟩) (c4 : PySem.W.codeIn K cd4 "stands" = true) (k4 : PySem.W.keepIn K (.ref f4) = true)
    {f5 : Addr} {od5 an5 : Option Addr} {sl5 : Array (Option Value)} {oc5 kV5 dc5 pm5 cd5 ct5 : Value}
    (a5 : PySem.W.nsIn K mainGlobals "_law_pen" = some (some (.ref f5))) (l5 : K.lookup f5 = some ⟨oc5, od5, .func (PySem.W.fnOf "_law_pen" "_law_pen" (defArgs st__law_pen) (defBody st__law_pen) (defScope st__law_pen) .none kV5 dc5 pm5 an5 cd5 ct5), sl5⟩) (c5 : PySem.W.codeIn K cd5 "_law_pen" = true) (k5 : PySem.W.keepIn K (.ref f5) = true)
    {f6 : Addr} {od6 an6 : Option Addr} {sl6 : Array (Option Value)} {oc6 kV6 dc6 pm6 cd6 ct6 : Value}
    (a6 : PySem.W.nsIn K mainGlobals "_law_draw" = some (some (.ref f6))) (l6 : K.lookup f6 = some ⟨oc6, od6, .func (PySem.W.fnOf "_law_draw" "_law_draw" (defArgs st__law_draw) (defBody st__law_draw) (defScope st__law_draw) .none kV6 dc6 pm6 an6 cd6 ct6), sl6⟩) (c6 : PySem.W.codeIn K cd6 "_law_draw" = true) (k6 : PySem.W.keepIn K (.ref f6) = true)
    {f7 : Addr} {od7 an7 : Option Addr} {sl7 : Array (Option Value)} {oc7 kV7 dc7 pm7 cd7 ct7 : Value}
    (a7 : PySem.W.nsIn K mainGlobals "_law_below" = some (some (.ref f7))) (l7 : K.lookup f7 = some ⟨oc7, od7, .func (PySem.W.fnOf "_law_below" "_law_below" (defArgs st__law_below) (defBody st__law_below) (defScope st__law_below) .none kV7 dc7 pm7 an7 cd7 ct7), sl7⟩) (c7 : PySem.W.codeIn K cd7 "_law_below" = true) (k7 : PySem.W.keepIn K (.ref f7) = true)
    {f8 : Addr} {od8 an8 : Option Addr} {sl8 : Array (Option Value)} {oc8 kV8 dc8 pm8 cd8 ct8 : Value}
    (a8 : PySem.W.nsIn K mainGlobals "_law_machine" = some (some (.ref f8))) (l8 : K.lookup f8 = some ⟨oc8, od8, .func (PySem.W.fnOf "_law_machine" "_law_machine" (defArgs st__law_machine) (defBody st__law_machine) (defScope st__law_machine) .none kV8 dc8 pm8 an8 cd8 ct8), sl8⟩) (c8 : PySem.W.codeIn K cd8 "_law_machine" = true) (k8 : PySem.W.keepIn K (.ref f8) = true)
    {f9 : Addr} {od9 an9 : Option Addr} {sl9 : Array (Option Value)} {oc9 kV9 dc9 pm9 cd9 ct9 : Value}
    (a9 : PySem.W.nsIn K mainGlobals "_law_small" = some (some (.ref f9))) (l9 : K.lookup f9 = some ⟨oc9, od9, .func (PySem.W.fnOf "_law_small" "_law_small" (defArgs st__law_small) (defBody st__law_small) (defScope st__law_small) .none kV9 dc9 pm9 an9 cd9 ct9), sl9⟩) (c9 : PySem.W.codeIn K cd9 "_law_small" = true) (k9 : PySem.W.keepIn K (.ref f9) = true)
    {f10 : Addr} {od10 an10 : Option Addr} {sl10 : Array (Option Value)} {oc10 kV10 dc10 pm10 cd10 ct10 : Value}
    (a10 : PySem.W.nsIn K mainGlobals "_law_is_whole" = some (some (.ref f10))) (l10 : K.lookup f10 = some ⟨oc10, od10, .func (PySem.W.fnOf "_law_is_whole" "_law_is_whole" (defArgs st__law_is_whole) (defBody st__law_is_whole) (defScope st__law_is_whole) .none kV10 dc10 pm10 an10 cd10 ct10), sl10⟩) (c10 : PySem.W.codeIn K cd10 "_law_is_whole" = true) (k10 : PySem.W.keepIn K (.ref f10) = true)
    {f11 : Addr} {od11 an11 : Option Addr} {sl11 : Array (Option Value)} {oc11 kV11 dc11 pm11 cd11 ct11 : Value}
    (a11 : PySem.W.nsIn K mainGlobals "_law_tells" = some (some (.ref f11))) (l11 : K.lookup f11 = some ⟨oc11, od11, .func (PySem.W.fnOf "_law_tells" "_law_tells" (defArgs st__law_tells) (defBody st__law_tells) (defScope st__law_tells) .none kV11 dc11 pm11 an11 cd11 ct11), sl11⟩) (c11 : PySem.W.codeIn K cd11 "_law_tells" = true) (k11 : PySem.W.keepIn K (.ref f11) = true)
    {f12 : Addr} {od12 an12 : Option Addr} {sl12 : Array (Option Value)} {oc12 kV12 dc12 pm12 cd12 ct12 : Value}
    (a12 : PySem.W.nsIn K mainGlobals "_law_too_many" = some (some (.ref f12))) (l12 : K.lookup f12 = some ⟨oc12, od12, .func (PySem.W.fnOf "_law_too_many" "_law_too_many" (defArgs st__law_too_many) (defBody st__law_too_many) (defScope st__law_too_many) .none kV12 dc12 pm12 an12 cd12 ct12), sl12⟩) (c12 : PySem.W.codeIn K cd12 "_law_too_many" = true) (k12 : PySem.W.keepIn K (.ref f12) = true)
    {f13 : Addr} {od13 an13 : Option Addr} {sl13 : Array (Option Value)} {oc13 kV13 dc13 pm13 cd13 ct13 : Value}
    (a13 : PySem.W.nsIn K mainGlobals "_law_is_machine" = some (some (.ref f13))) (l13 : K.lookup f13 = some ⟨oc13, od13, .func (PySem.W.fnOf "_law_is_machine" "_law_is_machine" (defArgs st__law_is_machine) (defBody st__law_is_machine) (defScope st__law_is_machine) .none kV13 dc13 pm13 an13 cd13 ct13), sl13⟩) (c13 : PySem.W.codeIn K cd13 "_law_is_machine" = true) (k13 : PySem.W.keepIn K (.ref f13) = true)
    {f14 : Addr} {od14 an14 : Option Addr} {sl14 : Array (Option Value)} {oc14 kV14 dc14 pm14 cd14 ct14 : Value}
    (a14 : PySem.W.nsIn K mainGlobals "_law_thing" = some (some (.ref f14))) (l14 : K.lookup f14 = some ⟨oc14, od14, .func (PySem.W.fnOf "_law_thing" "_law_thing" (defArgs st__law_thing) (defBody st__law_thing) (defScope st__law_thing) .none kV14 dc14 pm14 an14 cd14 ct14), sl14⟩) (c14 : PySem.W.codeIn K cd14 "_law_thing" = true) (k14 : PySem.W.keepIn K (.ref f14) = true)
    {f15 : Addr} {od15 an15 : Option Addr} {sl15 : Array (Option Value)} {oc15 kV15 dc15 pm15 cd15 ct15 : Value}
    (a15 : PySem.W.nsIn K mainGlobals "_law_wrapped_right" = some (some (.ref f15))) (l15 : K.lookup f15 = some ⟨oc15, od15, .func (PySem.W.fnOf "_law_wrapped_right" "_law_wrapped_right" (defArgs st__law_wrapped_right) (defBody st__law_wrapped_right) (defScope st__law_wrapped_right) .none kV15 dc15 pm15 an15 cd15 ct15), sl15⟩) (c15 : PySem.W.codeIn K cd15 "_law_wrapped_right" = true) (k15 : PySem.W.keepIn K (.ref f15) = true)
    {f16 : Addr} {od16 an16 : Option Addr} {sl16 : Array (Option Value)} {oc16 kV16 dc16 pm16 cd16 ct16 : Value}
    (a16 : PySem.W.nsIn K mainGlobals "_law_stands_right" = some (some (.ref f16))) (l16 : K.lookup f16 = some ⟨oc16, od16, .func (PySem.W.fnOf "_law_stands_right" "_law_stands_right" (defArgs st__law_stands_right) (defBody st__law_stands_right) (defScope st__law_stands_right) .none kV16 dc16 pm16 an16 cd16 ct16), sl16⟩) (c16 : PySem.W.codeIn K cd16 "_law_stands_right" = true) (k16 : PySem.W.keepIn K (.ref f16) = true)
    {cP17 tP17 : Addr}
    {f17 : Addr} {od17 an17 : Option Addr} {sl17 : Array (Option Value)} {oc17 kV17 dc17 pm17 ct17 : Value}
    (a17 : PySem.W.nsIn K mainGlobals "law" = some (some (.ref f17))) (l17 : K.lookup f17 = some ⟨oc17, od17, .func (PySem.W.fnOf "law" "law" (defArgs st_law) (defBody st_law) (defScope st_law) .none kV17 dc17 pm17 an17 (.ref cP17) ct17), sl17⟩) (c17 : PySem.W.codeIn K (.ref cP17) "law" = true) (k17 : PySem.W.keepIn K (.ref f17) = true)
    (z_abs : PySem.W.nsIn K mainGlobals "abs" = some none)
    (z_all : PySem.W.nsIn K mainGlobals "all" = some none)
    (z_bool : PySem.W.nsIn K mainGlobals "bool" = some none)
    (z_enumerate : PySem.W.nsIn K mainGlobals "enumerate" = some none)
    (z_int : PySem.W.nsIn K mainGlobals "int" = some none)
    (z_isinstance : PySem.W.nsIn K mainGlobals "isinstance" = some none)
    (z_len : PySem.W.nsIn K mainGlobals "len" = some none)
    (z_list : PySem.W.nsIn K mainGlobals "list" = some none)
    (z_range : PySem.W.nsIn K mainGlobals "range" = some none)
    (z_repr : PySem.W.nsIn K mainGlobals "repr" = some none)
    (z_tuple : PySem.W.nsIn K mainGlobals "tuple" = some none)
    {t1 : Nat}
    (y_MOST_BITS : PySem.W.nsIn K mainGlobals "MOST_BITS" = some (some (.int 60 t1)))
    {t2 : Nat}
    (y_MOST_BOXES : PySem.W.nsIn K mainGlobals "MOST_BOXES" = some (some (.int 4 t2)))
    {t3 : Nat}
    (y_SMALL : PySem.W.nsIn K mainGlobals "SMALL" = some (some (.int 8 t3)))
    (xN : PySem.W.specialIn K (.builtin "object.__class__") "__get__" = some (some (.builtin "getset_descriptor.__get__"))) (xT : PySem.W.takesIn K (.builtin "object.__class__") = some true)
    {xA_TooMany : Addr} (xn_TooMany : PySem.W.nsIn K mainGlobals "TooMany" = some (some (.ref xA_TooMany)))
    (xx_TooMany : PySem.W.excIn K xA_TooMany [.type "ValueError", .type "Exception", .type "BaseException", .type "object"] "ValueError.__new__" = true) (xk_TooMany : PySem.W.keepIn K (.ref xA_TooMany) = true) (xt_TooMany : PySem.W.typeIn K (.ref xA_TooMany) = some (.type "type"))
    (xg_TooMany : PySem.W.findIn K (.ref xA_TooMany) "__getattribute__" = some (some (.builtin "BaseException.__getattribute__"))) (xq_TooMany : PySem.W.findIn K (.ref xA_TooMany) "__getattr__" = some none) (xs_TooMany : PySem.W.subIn K (.ref xA_TooMany) (.type "BaseException") = some true) (xd_TooMany : PySem.W.hasDictIn K xA_TooMany = true) (xa_TooMany : PySem.W.findIn K (.ref xA_TooMany) "__class__" = some (some (.builtin "object.__class__"))) (xm_TooMany : PySem.W.mroIn K xA_TooMany (.type "object") = some true)
    {xR : Addr} (xr1 : PySem.W.nsIn K mainGlobals "RuleError" = some (some (.ref xR))) (xr2 : PySem.W.subIn K (.ref xR) (.type "BaseException") = some true) (xr3 : PySem.W.hasDictIn K xR = true) (xr4 : PySem.W.typeIn K (.ref xR) = some (.type "type"))
    (xe_TooMany : PySem.W.subIn K (.ref xA_TooMany) (.ref xR) = some true)
    {xB_TooMany : Addr} (yn_TooMany : PySem.W.nsIn K mainGlobals "TooMany" = some (some (.ref xB_TooMany))) (yc_TooMany : PySem.W.isClsIn K xB_TooMany = true) (yt_TooMany : PySem.W.typeIn K (.ref xB_TooMany) = some (.type "type")) (yo_TooMany : PySem.W.subIn K (.type "NoneType") (.ref xB_TooMany) = some false)
    (yS_TooMany_TooMany : PySem.W.subIn K (.ref xA_TooMany) (.ref xB_TooMany) = some true)
    (zx_ValueError : PySem.W.nsIn K mainGlobals "ValueError" = some none)
    (yV_TooMany : PySem.W.subIn K (.ref xA_TooMany) (.type "ValueError") = some true)
    {xB_Loose : Addr} (yn_Loose : PySem.W.nsIn K mainGlobals "Loose" = some (some (.ref xB_Loose))) (yc_Loose : PySem.W.isClsIn K xB_Loose = true) (yt_Loose : PySem.W.typeIn K (.ref xB_Loose) = some (.type "type")) (yo_Loose : PySem.W.subIn K (.type "NoneType") (.ref xB_Loose) = some false)
    (yS_TooMany_Loose : PySem.W.subIn K (.ref xA_TooMany) (.ref xB_Loose) = some false)
    (o_TooMany_Loose : (xA_TooMany == xB_Loose) = false)
    {xB_Needed : Addr} (yn_Needed : PySem.W.nsIn K mainGlobals "Needed" = some (some (.ref xB_Needed))) (yc_Needed : PySem.W.isClsIn K xB_Needed = true) (yt_Needed : PySem.W.typeIn K (.ref xB_Needed) = some (.type "type")) (yo_Needed : PySem.W.subIn K (.type "NoneType") (.ref xB_Needed) = some false)
    (yS_TooMany_Needed : PySem.W.subIn K (.ref xA_TooMany) (.ref xB_Needed) = some false)
    (o_TooMany_Needed : (xA_TooMany == xB_Needed) = false)
    {xB_NoBack : Addr} (yn_NoBack : PySem.W.nsIn K mainGlobals "NoBack" = some (some (.ref xB_NoBack))) (yc_NoBack : PySem.W.isClsIn K xB_NoBack = true) (yt_NoBack : PySem.W.typeIn K (.ref xB_NoBack) = some (.type "type")) (yo_NoBack : PySem.W.subIn K (.type "NoneType") (.ref xB_NoBack) = some false)
    (yS_TooMany_NoBack : PySem.W.subIn K (.ref xA_TooMany) (.ref xB_NoBack) = some false)
    (o_TooMany_NoBack : (xA_TooMany == xB_NoBack) = false)
    {xB_NoBook : Addr} (yn_NoBook : PySem.W.nsIn K mainGlobals "NoBook" = some (some (.ref xB_NoBook))) (yc_NoBook : PySem.W.isClsIn K xB_NoBook = true) (yt_NoBook : PySem.W.typeIn K (.ref xB_NoBook) = some (.type "type")) (yo_NoBook : PySem.W.subIn K (.type "NoneType") (.ref xB_NoBook) = some false)
    (yS_TooMany_NoBook : PySem.W.subIn K (.ref xA_TooMany) (.ref xB_NoBook) = some false)
    (o_TooMany_NoBook : (xA_TooMany == xB_NoBook) = false)
    {xB_NoFit : Addr} (yn_NoFit : PySem.W.nsIn K mainGlobals "NoFit" = some (some (.ref xB_NoFit))) (yc_NoFit : PySem.W.isClsIn K xB_NoFit = true) (yt_NoFit : PySem.W.typeIn K (.ref xB_NoFit) = some (.type "type")) (yo_NoFit : PySem.W.subIn K (.type "NoneType") (.ref xB_NoFit) = some false)
    (yS_TooMany_NoFit : PySem.W.subIn K (.ref xA_TooMany) (.ref xB_NoFit) = some false)
    (o_TooMany_NoFit : (xA_TooMany == xB_NoFit) = false)
    {xB_NoName : Addr} (yn_NoName : PySem.W.nsIn K mainGlobals "NoName" = some (some (.ref xB_NoName))) (yc_NoName : PySem.W.isClsIn K xB_NoName = true) (yt_NoName : PySem.W.typeIn K (.ref xB_NoName) = some (.type "type")) (yo_NoName : PySem.W.subIn K (.type "NoneType") (.ref xB_NoName) = some false)
    (yS_TooMany_NoName : PySem.W.subIn K (.ref xA_TooMany) (.ref xB_NoName) = some false)
    (o_TooMany_NoName : (xA_TooMany == xB_NoName) = false)
    {xB_NoRow : Addr} (yn_NoRow : PySem.W.nsIn K mainGlobals "NoRow" = some (some (.ref xB_NoRow))) (yc_NoRow : PySem.W.isClsIn K xB_NoRow = true) (yt_NoRow : PySem.W.typeIn K (.ref xB_NoRow) = some (.type "type")) (yo_NoRow : PySem.W.subIn K (.type "NoneType") (.ref xB_NoRow) = some false)
    (yS_TooMany_NoRow : PySem.W.subIn K (.ref xA_TooMany) (.ref xB_NoRow) = some false)
    (o_TooMany_NoRow : (xA_TooMany == xB_NoRow) = false)
    {xB_NoStep : Addr} (yn_NoStep : PySem.W.nsIn K mainGlobals "NoStep" = some (some (.ref xB_NoStep))) (yc_NoStep : PySem.W.isClsIn K xB_NoStep = true) (yt_NoStep : PySem.W.typeIn K (.ref xB_NoStep) = some (.type "type")) (yo_NoStep : PySem.W.subIn K (.type "NoneType") (.ref xB_NoStep) = some false)
    (yS_TooMany_NoStep : PySem.W.subIn K (.ref xA_TooMany) (.ref xB_NoStep) = some false)
    (o_TooMany_NoStep : (xA_TooMany == xB_NoStep) = false)
    {xB_NotPlain : Addr} (yn_NotPlain : PySem.W.nsIn K mainGlobals "NotPlain" = some (some (.ref xB_NotPlain))) (yc_NotPlain : PySem.W.isClsIn K xB_NotPlain = true) (yt_NotPlain : PySem.W.typeIn K (.ref xB_NotPlain) = some (.type "type")) (yo_NotPlain : PySem.W.subIn K (.type "NoneType") (.ref xB_NotPlain) = some false)
    (yS_TooMany_NotPlain : PySem.W.subIn K (.ref xA_TooMany) (.ref xB_NotPlain) = some false)
    (o_TooMany_NotPlain : (xA_TooMany == xB_NotPlain) = false)
    {xB_NotSure : Addr} (yn_NotSure : PySem.W.nsIn K mainGlobals "NotSure" = some (some (.ref xB_NotSure))) (yc_NotSure : PySem.W.isClsIn K xB_NotSure = true) (yt_NotSure : PySem.W.typeIn K (.ref xB_NotSure) = some (.type "type")) (yo_NotSure : PySem.W.subIn K (.type "NoneType") (.ref xB_NotSure) = some false)
    (yS_TooMany_NotSure : PySem.W.subIn K (.ref xA_TooMany) (.ref xB_NotSure) = some false)
    (o_TooMany_NotSure : (xA_TooMany == xB_NotSure) = false)
    {xB_NoText : Addr} (yn_NoText : PySem.W.nsIn K mainGlobals "NoText" = some (some (.ref xB_NoText))) (yc_NoText : PySem.W.isClsIn K xB_NoText = true) (yt_NoText : PySem.W.typeIn K (.ref xB_NoText) = some (.type "type")) (yo_NoText : PySem.W.subIn K (.type "NoneType") (.ref xB_NoText) = some false)
    (yS_TooMany_NoText : PySem.W.subIn K (.ref xA_TooMany) (.ref xB_NoText) = some false)
    (o_TooMany_NoText : (xA_TooMany == xB_NoText) = false)
    {xB_NoWay : Addr} (yn_NoWay : PySem.W.nsIn K mainGlobals "NoWay" = some (some (.ref xB_NoWay))) (yc_NoWay : PySem.W.isClsIn K xB_NoWay = true) (yt_NoWay : PySem.W.typeIn K (.ref xB_NoWay) = some (.type "type")) (yo_NoWay : PySem.W.subIn K (.type "NoneType") (.ref xB_NoWay) = some false)
    (yS_TooMany_NoWay : PySem.W.subIn K (.ref xA_TooMany) (.ref xB_NoWay) = some false)
    (o_TooMany_NoWay : (xA_TooMany == xB_NoWay) = false)
    (hqk : QK K = [(tP17, ("law" : Str) ++ ".<locals>." ++ "<lambda>")]) :
    ∃ fd : FuncData, (∀ (s : Shared) (v : Value), BindsTo s fd ⟨[v], []⟩ [("_law_script", v)]) ∧ ∀ base : Heap, K.In base → base.Ns mainGlobals mg → (∀ p ∈ [((cP17, tP17) : Addr × Addr)], TabB base mg p.1 p.2) → FnG l.prog w K mg base 6 fa fd ["_law_script"] F_law := by
  have e := hfa.symm.trans (PySem.W.mg_of X G a17)
  cases e
  have B : Bt mg := ⟨PySem.W.mg_none_of X G z_abs, PySem.W.mg_none_of X G z_all, PySem.W.mg_none_of X G z_bool, PySem.W.mg_none_of X G z_enumerate, PySem.W.mg_none_of X G z_int, PySem.W.mg_none_of X G z_isinstance, PySem.W.mg_none_of X G z_len, PySem.W.mg_none_of X G z_list, PySem.W.mg_none_of X G z_range, PySem.W.mg_none_of X G z_repr, PySem.W.mg_none_of X G z_tuple⟩
  have K_MOST_BITS : Cn mg K "MOST_BITS" (D.int 60) := cn_mk X G y_MOST_BITS kd_int
  have K_MOST_BOXES : Cn mg K "MOST_BOXES" (D.int 4) := cn_mk X G y_MOST_BOXES kd_int
  have K_SMALL : Cn mg K "SMALL" (D.int 8) := cn_mk X G y_SMALL kd_int
  have X_TooMany : Xc mg K "TooMany" xA_TooMany := xc_mk X G xn_TooMany xx_TooMany xk_TooMany xt_TooMany ⟨xg_TooMany, xq_TooMany, xs_TooMany, xd_TooMany, xa_TooMany, xN, xT, xm_TooMany⟩
  have XS : Xs mg K xR xcs := (xs_cons X_TooMany (PySem.W.exm_ref xr2 xr3 xr4 xe_TooMany) (xs_nil (PySem.W.mg_of X G xr1)))
  have N_TooMany := xn_own (cs := xcs) (n := "TooMany") X G yn_TooMany yc_TooMany yt_TooMany yo_TooMany (ys_cons (c := "TooMany") xn_TooMany (kit_ref yc_TooMany yt_TooMany yS_TooMany_TooMany (fun z => by cases z)) ys_nil)
  have N_ValueError := xn_val (cs := xcs) X G zx_ValueError (ys_cons (c := "TooMany") xn_TooMany (kit_val yV_TooMany) ys_nil)
  have N_Loose := xn_own (cs := xcs) (n := "Loose") X G yn_Loose yc_Loose yt_Loose yo_Loose (ys_cons (c := "TooMany") xn_TooMany (kit_ref yc_Loose yt_Loose yS_TooMany_Loose (fun z => ref_ne o_TooMany_Loose)) ys_nil)
  have N_Needed := xn_own (cs := xcs) (n := "Needed") X G yn_Needed yc_Needed yt_Needed yo_Needed (ys_cons (c := "TooMany") xn_TooMany (kit_ref yc_Needed yt_Needed yS_TooMany_Needed (fun z => ref_ne o_TooMany_Needed)) ys_nil)
  have N_NoBack := xn_own (cs := xcs) (n := "NoBack") X G yn_NoBack yc_NoBack yt_NoBack yo_NoBack (ys_cons (c := "TooMany") xn_TooMany (kit_ref yc_NoBack yt_NoBack yS_TooMany_NoBack (fun z => ref_ne o_TooMany_NoBack)) ys_nil)
  have N_NoBook := xn_own (cs := xcs) (n := "NoBook") X G yn_NoBook yc_NoBook yt_NoBook yo_NoBook (ys_cons (c := "TooMany") xn_TooMany (kit_ref yc_NoBook yt_NoBook yS_TooMany_NoBook (fun z => ref_ne o_TooMany_NoBook)) ys_nil)
  have N_NoFit := xn_own (cs := xcs) (n := "NoFit") X G yn_NoFit yc_NoFit yt_NoFit yo_NoFit (ys_cons (c := "TooMany") xn_TooMany (kit_ref yc_NoFit yt_NoFit yS_TooMany_NoFit (fun z => ref_ne o_TooMany_NoFit)) ys_nil)
  have N_NoName := xn_own (cs := xcs) (n := "NoName") X G yn_NoName yc_NoName yt_NoName yo_NoName (ys_cons (c := "TooMany") xn_TooMany (kit_ref yc_NoName yt_NoName yS_TooMany_NoName (fun z => ref_ne o_TooMany_NoName)) ys_nil)
  have N_NoRow := xn_own (cs := xcs) (n := "NoRow") X G yn_NoRow yc_NoRow yt_NoRow yo_NoRow (ys_cons (c := "TooMany") xn_TooMany (kit_ref yc_NoRow yt_NoRow yS_TooMany_NoRow (fun z => ref_ne o_TooMany_NoRow)) ys_nil)
  have N_NoStep := xn_own (cs := xcs) (n := "NoStep") X G yn_NoStep yc_NoStep yt_NoStep yo_NoStep (ys_cons (c := "TooMany") xn_TooMany (kit_ref yc_NoStep yt_NoStep yS_TooMany_NoStep (fun z => ref_ne o_TooMany_NoStep)) ys_nil)
  have N_NotPlain := xn_own (cs := xcs) (n := "NotPlain") X G yn_NotPlain yc_NotPlain yt_NotPlain yo_NotPlain (ys_cons (c := "TooMany") xn_TooMany (kit_ref yc_NotPlain yt_NotPlain yS_TooMany_NotPlain (fun z => ref_ne o_TooMany_NotPlain)) ys_nil)
  have N_NotSure := xn_own (cs := xcs) (n := "NotSure") X G yn_NotSure yc_NotSure yt_NotSure yo_NotSure (ys_cons (c := "TooMany") xn_TooMany (kit_ref yc_NotSure yt_NotSure yS_TooMany_NotSure (fun z => ref_ne o_TooMany_NotSure)) ys_nil)
  have N_NoText := xn_own (cs := xcs) (n := "NoText") X G yn_NoText yc_NoText yt_NoText yo_NoText (ys_cons (c := "TooMany") xn_TooMany (kit_ref yc_NoText yt_NoText yS_TooMany_NoText (fun z => ref_ne o_TooMany_NoText)) ys_nil)
  have N_NoWay := xn_own (cs := xcs) (n := "NoWay") X G yn_NoWay yc_NoWay yt_NoWay yo_NoWay (ys_cons (c := "TooMany") xn_TooMany (kit_ref yc_NoWay yt_NoWay yS_TooMany_NoWay (fun z => ref_ne o_TooMany_NoWay)) ys_nil)
  have T_is_whole := fd_mk (ps := ["thing"]) (st := st_is_whole) X G a0 l0 c0 k0 fun _ _ _ _ _ _ us hl => match us, hl with | [_], _ => rfl
  have T_is_machine := fd_mk (ps := ["thing"]) (st := st_is_machine) X G a1 l1 c1 k1 fun _ _ _ _ _ _ us hl => match us, hl with | [_], _ => rfl
  have T_wrapped := fd_mk (ps := ["machine", "number"]) (st := st_wrapped) X G a2 l2 c2 k2 fun _ _ _ _ _ _ us hl => match us, hl with | [_, _], _ => rfl
  have T_is_small := fd_mk (ps := ["machine"]) (st := st_is_small) X G a3 l3 c3 k3 fun _ _ _ _ _ _ us hl => match us, hl with | [_], _ => rfl
  have T_stands := fd_mk (ps := ["machine"]) (st := st_stands) X G a4 l4 c4 k4 fun _ _ _ _ _ _ us hl => match us, hl with | [_], _ => rfl
  have T__law_pen := fd_mk (ps := ["_law_script"]) (st := st__law_pen) X G a5 l5 c5 k5 fun _ _ _ _ _ _ us hl => match us, hl with | [_], _ => rfl
  have T__law_draw := fd_mk (ps := ["_law_pen_here", "_law_many"]) (st := st__law_draw) X G a6 l6 c6 k6 fun _ _ _ _ _ _ us hl => match us, hl with | [_, _], _ => rfl
  have T__law_below := fd_mk (ps := ["_law_pen_here", "_law_many"]) (st := st__law_below) X G a7 l7 c7 k7 fun _ _ _ _ _ _ us hl => match us, hl with | [_, _], _ => rfl
  have T__law_machine := fd_mk (ps := ["_law_pen_here"]) (st := st__law_machine) X G a8 l8 c8 k8 fun _ _ _ _ _ _ us hl => match us, hl with | [_], _ => rfl
  have T__law_small := fd_mk (ps := ["_law_pen_here"]) (st := st__law_small) X G a9 l9 c9 k9 fun _ _ _ _ _ _ us hl => match us, hl with | [_], _ => rfl
  have T__law_is_whole := fd_mk (ps := ["_law_thing_here"]) (st := st__law_is_whole) X G a10 l10 c10 k10 fun _ _ _ _ _ _ us hl => match us, hl with | [_], _ => rfl
  have T__law_tells := fd_mk (ps := ["_law_found", "_law_due"]) (st := st__law_tells) X G a11 l11 c11 k11 fun _ _ _ _ _ _ us hl => match us, hl with | [_, _], _ => rfl
  have T__law_too_many := fd_mk (ps := ["_law_asked"]) (st := st__law_too_many) X G a12 l12 c12 k12 fun _ _ _ _ _ _ us hl => match us, hl with | [_], _ => rfl
  have T__law_is_machine := fd_mk (ps := ["_law_thing_here"]) (st := st__law_is_machine) X G a13 l13 c13 k13 fun _ _ _ _ _ _ us hl => match us, hl with | [_], _ => rfl
  have T__law_thing := fd_mk (ps := ["_law_pen_here"]) (st := st__law_thing) X G a14 l14 c14 k14 fun _ _ _ _ _ _ us hl => match us, hl with | [_], _ => rfl
  have T__law_wrapped_right := fd_mk (ps := ["_law_pen_here", "_law_machine_here"]) (st := st__law_wrapped_right) X G a15 l15 c15 k15 fun _ _ _ _ _ _ us hl => match us, hl with | [_, _], _ => rfl
  have T__law_stands_right := fd_mk (ps := ["_law_machine_here"]) (st := st__law_stands_right) X G a16 l16 c16 k16 fun _ _ _ _ _ _ us hl => match us, hl with | [_], _ => rfl
  have T_law := fd_mk (ps := ["_law_script"]) (st := st_law) X G a17 l17 c17 k17 fun _ _ _ _ _ _ us hl => match us, hl with | [_], _ => rfl
  refine ⟨PySem.W.fnOf "law" "law" (defArgs st_law) (defBody st_law) (defScope st_law) .none kV17 dc17 pm17 an17 (.ref cP17) ct17, fun s v => .of_eq rfl, fun base _ _ TBs => ?_⟩
  have HQ_law : (tP17, ("law" : Str) ++ ".<locals>." ++ "<lambda>") ∈ QK K := by rw [hqk]; simp
  have HU_law : ∀ p ∈ QK K, p.1 = tP17 → p.2 = ("law" : Str) ++ ".<locals>." ++ "<lambda>" := by
    rw [hqk]
    intro p hp e
    simp only [List.mem_cons, List.not_mem_nil, or_false] at hp
    rcases hp with rfl
    all_goals first | rfl | (exfalso; simp_all)
  have TB_law : TabB base mg cP17 tP17 := TBs (cP17, tP17) (by simp)
  have G_is_whole : FnG l.prog w K mg base 1 _ _ ["thing"] F_is_whole := (d_is_whole (k := 0) B T_is_whole.fu)
  have G_is_machine : FnG l.prog w K mg base 2 _ _ ["thing"] F_is_machine := (d_is_machine (k := 1) B T_is_machine.fu T_is_whole (G_is_whole.mono (by decide)) K_MOST_BITS K_MOST_BOXES)
  have G_wrapped : FnG l.prog w K mg base 1 _ _ ["machine", "number"] F_wrapped := (d_wrapped (k := 0) B T_wrapped.fu)
  have G_is_small : FnG l.prog w K mg base 1 _ _ ["machine"] F_is_small := (d_is_small (k := 0) B T_is_small.fu K_SMALL)
  have G_stands : FnG l.prog w K mg base 2 _ _ ["machine"] F_stands := (d_stands (k := 1) B T_stands.fu T_is_small (G_is_small.mono (by decide)) X_TooMany)
  have G__law_pen : FnG l.prog w K mg base 1 _ _ ["_law_script"] F__law_pen := (d__law_pen (k := 0) B T__law_pen.fu)
  have G__law_draw : FnG l.prog w K mg base 1 _ _ ["_law_pen_here", "_law_many"] F__law_draw := (d__law_draw (k := 0) B T__law_draw.fu)
  have G__law_below : FnG l.prog w K mg base 2 _ _ ["_law_pen_here", "_law_many"] F__law_below := (d__law_below (k := 1) B T__law_below.fu T__law_draw (G__law_draw.mono (by decide)))
  have G__law_machine : FnG l.prog w K mg base 2 _ _ ["_law_pen_here"] F__law_machine := (d__law_machine (k := 1) B T__law_machine.fu T__law_draw (G__law_draw.mono (by decide)))
  have G__law_small : FnG l.prog w K mg base 2 _ _ ["_law_pen_here"] F__law_small := (d__law_small (k := 1) B T__law_small.fu T__law_draw (G__law_draw.mono (by decide)))
  have G__law_is_whole : FnG l.prog w K mg base 1 _ _ ["_law_thing_here"] F__law_is_whole := (d__law_is_whole (k := 0) B T__law_is_whole.fu)
  have G__law_tells : FnG l.prog w K mg base 1 _ _ ["_law_found", "_law_due"] F__law_tells := (d__law_tells (k := 0) B T__law_tells.fu)
  have G__law_is_machine : FnG l.prog w K mg base 2 _ _ ["_law_thing_here"] F__law_is_machine := (d__law_is_machine (k := 1) B T__law_is_machine.fu T__law_is_whole (G__law_is_whole.mono (by decide)))
  have G__law_thing : FnG l.prog w K mg base 3 _ _ ["_law_pen_here"] F__law_thing := (d__law_thing (k := 2) B T__law_thing.fu T__law_draw (G__law_draw.mono (by decide)) T__law_machine (G__law_machine.mono (by decide)) T__law_below (G__law_below.mono (by decide))).fz
  have G__law_wrapped_right : FnG l.prog w K mg base 3 _ _ ["_law_pen_here", "_law_machine_here"] F__law_wrapped_right := (d__law_wrapped_right (k := 2) B T__law_wrapped_right.fu T__law_draw (G__law_draw.mono (by decide)) T__law_below (G__law_below.mono (by decide)) T_wrapped (G_wrapped.mono (by decide)) T__law_is_whole (G__law_is_whole.mono (by decide)))
  have G__law_stands_right : FnG l.prog w K mg base 3 _ _ ["_law_machine_here"] F__law_stands_right := (d__law_stands_right (k := 2) B T__law_stands_right.fu T_stands (G_stands.mono (by decide)) T__law_is_whole (G__law_is_whole.mono (by decide))).fz
  have G_law : FnG l.prog w K mg base 6 _ _ ["_law_script"] F_law := (d_law (k := 3) B T_law.fu T__law_pen (G__law_pen.mono (by decide)) T__law_thing (G__law_thing.mono (by decide)) T__law_machine (G__law_machine.mono (by decide)) T__law_small (G__law_small.mono (by decide)) T__law_wrapped_right (G__law_wrapped_right.mono (by decide)) T__law_stands_right (G__law_stands_right.mono (by decide)) T__law_tells (G__law_tells.mono (by decide)) T_stands (G_stands.mono (by decide)) T_is_machine (G_is_machine.mono (by decide)) T__law_is_machine (G__law_is_machine.mono (by decide)) T_is_small (G_is_small.mono (by decide)) T__law_too_many (d__law_too_many (k := 3) B T__law_too_many.fu XS N_TooMany N_ValueError N_Loose N_Needed N_NoBack N_NoBook N_NoFit N_NoName N_NoRow N_NoStep N_NotPlain N_NotSure N_NoText N_NoWay) rfl TB_law HQ_law HU_law)
  exact G_law
end K01

namespace K01
open PySem PySem.Spec PyProof.Rows L2 Pu
theorem draw_wp {ns : List Int} {a r m : Int} {t : HH} {Q : D → HH → Prop} (ha : 0 ≤ a) (hb : a < 1000000) (hr : 0 ≤ r) (hm : 0 < m) (hm2 : m < 2 ^ 250)
    (hq : ∀ k a' r', 0 ≤ k → k < m → a ≤ a' → a' ≤ a + 1 → 0 ≤ r' → Q (.int k) (.dic [(.inr "cells", .lst (ns.map D.int)), (.inr "at", .int a'), (.inr "left", .int r')] :: t)) :
    Wp Q noE (F__law_draw [.ref 0, .int m] (.dic [(.inr "cells", .lst (ns.map D.int)), (.inr "at", .int a), (.inr "left", .int r)] :: t)) := by
  simp only [Int.reducePow] at hm2
  simp [F__law_draw, r__law_draw, b__law_draw, dGet, dPut, sz]
  refine wi_dec (fun h0 => ?_) (fun h0 => ?_)
  · simp [hm, hm2, dGet, dPut, sz]
    exact hq _ _ _ (Int.emod_nonneg _ (by omega)) (Int.emod_lt_of_pos _ hm) (by omega) (by omega) (Int.ediv_nonneg hr (by omega))
  · simp [hm, hm2, dGet, dPut, sz]
    have c1 : ∀ c : Int, 0 ≤ c % 2147483549 ∧ c % 2147483549 < 2147483549 := fun c => by omega
    have c2 : 0 ≤ 91193 * a * a ∧ 91193 * a * a ≤ 91193 * 1000000 * 1000000 := ⟨Int.mul_nonneg (by omega) (by omega), Int.mul_le_mul (by omega) (by omega) (by omega) (by omega)⟩
    refine wi_dec (fun h1 => ?_) (fun h1 => ?_)
    · simp [dGet, dPut, sz]
      obtain ⟨x, e1, _⟩ := atI_some (xs := ns.map D.int) (Int.emod_nonneg a (b := (ns.length : Int)) (by omega)) (by rw [List.length_map]; exact Int.emod_lt_of_pos _ (by omega))
      obtain ⟨c, e2⟩ : ∃ c, x = .int c := by
        obtain ⟨y, _, z⟩ := List.mem_map.mp ‹x ∈ _›
        exact ⟨y, z.symm⟩
      subst e2
      simp [e1, hm, hm2, h1, dGet, dPut, sz]
      have := c1 c
      refine wi_of (fun h2 => ?_) (fun h2 => ?_)
      · simp [dGet, dPut, sz]
        refine wi_of (fun h2 => ?_) (fun h2 => ?_)
        · simp [hm, hm2, dGet, dPut, sz]
          exact hq _ _ _ (Int.emod_nonneg _ (by omega)) (Int.emod_lt_of_pos _ hm) (by omega) (by omega) (Int.ediv_nonneg (by split <;> omega) (by omega))
        · simp [hm, hm2, dGet, dPut, sz]
          refine ⟨by omega, by omega, by omega, ?_⟩
          exact hq _ _ _ (Int.emod_nonneg _ (by omega)) (Int.emod_lt_of_pos _ hm) (by omega) (by omega) hr
      · simp [hm, hm2, dGet, dPut, sz]
        refine ⟨by omega, by omega, by omega, ?_⟩
        exact hq _ _ _ (Int.emod_nonneg _ (by omega)) (Int.emod_lt_of_pos _ hm) (by omega) (by omega) hr
    · simp [hm, hm2, dGet, dPut, sz]
      have := c1 (17 * a + 3)
      refine wi_of (fun h2 => ?_) (fun h2 => ?_)
      · simp at h2; omega
      · simp [hm, hm2, dGet, dPut, sz]
        refine ⟨by omega, by omega, by omega, ?_⟩
        exact hq _ _ _ (Int.emod_nonneg _ (by omega)) (Int.emod_lt_of_pos _ hm) (by omega) (by omega) hr
theorem draws : DrawsD F__law_draw := DrawsD.of draw_wp
end K01

namespace K01
open PySem PySem.Spec PyProof.Rows L2 Pu
theorem below_wp {b m : Int} {t h : HH} {Q : D → HH → Prop} (hp : PenD b t h) (hb : b < 900000) (hm : 0 < m) (hm2 : m < 2 ^ 100)
    (hq : ∀ (k : Nat) h', (k : Int) < m → PenD (b + 5) t h' → Q (.int k) h') : Wp Q noE (F__law_below [.ref 0, .int m] h) := by
  simp only [Int.reducePow] at hm2
  simp [F__law_below, r__law_below, b__law_below]
  refine wi_dec (fun h2 => ?_) (fun h2 => ?_)
  · simp
    exact draws hp (by omega) hm (by simp only [Int.reducePow]; omega) fun k h' hk p => hq k h' hk (p.le (by omega))
  · simp
    refine wb_forI (fun i env h2 => ∃ (f : Int) (x : Option D), env = [some (.ref 0), some (.int m), some (.int f), x] ∧ PenD (b + i) t h2) ⟨0, none, rfl, by simpa using hp⟩ (fun _ _ _ _ => by simp) ?_ ?_
    · rintro i d env h2 hd ⟨f, x, rfl, p⟩
      have hi := (intsL_get hd).2
      rw [(intsL_get hd).1]
      simp
      refine draws p (by omega) (by omega) (by simp only [Int.reducePow]; omega) fun k h' hk p => ?_
      simp
      exact p.le (by omega)
    · rintro env h2 ⟨f, x, rfl, p⟩
      simp [hm]
      obtain ⟨k, hk⟩ := Int.eq_ofNat_of_zero_le (Int.emod_nonneg f (b := m) (by omega))
      rw [hk]
      exact hq k h2 (by rw [← hk]; exact Int.emod_lt_of_pos _ hm) (p.le (by simp))
/-- a machine: bits, boxes -/
structure Ma where
  bits : Nat
  boxes : Nat
  b1 : 1 ≤ bits
  b2 : bits ≤ 60
  x1 : 1 ≤ boxes
  x2 : boxes ≤ 4
def Ma.toD (m : Ma) : D := .tup [.int (m.bits : Nat), .int (m.boxes : Nat)]
def Ma.top (m : Ma) : Int := 2 ^ m.bits
theorem Ma.top_pos (m : Ma) : 2 ≤ m.top := by
  unfold Ma.top
  have h1 : 2 ^ 1 ≤ 2 ^ m.bits := Nat.pow_le_pow_right (by decide) m.b1
  have : ((2 ^ 1 : Nat) : Int) ≤ ((2 ^ m.bits : Nat) : Int) := Int.ofNat_le.mpr h1
  simpa using this
theorem Ma.top_le (m : Ma) : m.top ≤ 1152921504606846976 := by
  unfold Ma.top
  have h1 : 2 ^ m.bits ≤ 2 ^ 60 := Nat.pow_le_pow_right (by decide) m.b2
  have : ((2 ^ m.bits : Nat) : Int) ≤ ((2 ^ 60 : Nat) : Int) := Int.ofNat_le.mpr h1
  simpa using this
theorem machine_wp {b : Int} {t h : HH} {Q : D → HH → Prop} (hp : PenD b t h) (hb : b < 900000)
    (hq : ∀ (m : Ma) h', PenD (b + 3) t h' → Q m.toD h') : Wp Q noE (F__law_machine [.ref 0] h) := by
  simp [F__law_machine, r__law_machine, b__law_machine]
  refine draws hp (by omega) (by omega) (by simp only [Int.reducePow]; omega) fun w h1 hw p1 => ?_
  simp
  refine draws p1 (by omega) (by omega) (by simp only [Int.reducePow]; omega) fun k h2 hk p2 => ?_
  simp
  have fin : ∀ bits : Nat, 1 ≤ bits → bits ≤ 60 → Wp (fun a h3 => Q (.tup [.int (bits : Nat), .int (1 + (match a with | .int i => i | _ => 0))]) h3) noE (F__law_draw [.ref 0, .int 4] h2) := fun bits c1 c2 => by
    refine draws p2 (by omega) (by omega) (by simp only [Int.reducePow]; omega) fun x h3 hx p3 => ?_
    have := hq ⟨bits, 1 + x, c1, c2, by omega, by omega⟩ h3 (p3.le (by omega))
    simpa [Ma.toD] using this
  refine wi_dec (fun h4 => ?_) (fun h4 => ?_)
  · rcases (by omega : w = 0 ∨ w = 1 ∨ w = 2 ∨ w = 3 ∨ w = 4) with rfl | rfl | rfl | rfl | rfl <;> simp
    · refine draws p2 (by omega) (by omega) (by simp only [Int.reducePow]; omega) fun x h3 hx p3 => ?_
      have := hq ⟨1, 1 + x, by omega, by omega, by omega, by omega⟩ h3 (p3.le (by omega))
      simpa [Ma.toD] using this
    · refine draws p2 (by omega) (by omega) (by simp only [Int.reducePow]; omega) fun x h3 hx p3 => ?_
      have := hq ⟨2, 1 + x, by omega, by omega, by omega, by omega⟩ h3 (p3.le (by omega))
      simpa [Ma.toD] using this
    · refine draws p2 (by omega) (by omega) (by simp only [Int.reducePow]; omega) fun x h3 hx p3 => ?_
      have := hq ⟨3, 1 + x, by omega, by omega, by omega, by omega⟩ h3 (p3.le (by omega))
      simpa [Ma.toD] using this
    · refine draws p2 (by omega) (by omega) (by simp only [Int.reducePow]; omega) fun x h3 hx p3 => ?_
      have := hq ⟨8, 1 + x, by omega, by omega, by omega, by omega⟩ h3 (p3.le (by omega))
      simpa [Ma.toD] using this
    · refine draws p2 (by omega) (by omega) (by simp only [Int.reducePow]; omega) fun x h3 hx p3 => ?_
      have := hq ⟨60, 1 + x, by omega, by omega, by omega, by omega⟩ h3 (p3.le (by omega))
      simpa [Ma.toD] using this
  · simp
    refine draws p2 (by omega) (by omega) (by simp only [Int.reducePow]; omega) fun x h3 hx p3 => ?_
    have := hq ⟨1 + k, 1 + x, by omega, by omega, by omega, by omega⟩ h3 (p3.le (by omega))
    simpa [Ma.toD] using this
end K01

namespace K01
open PySem PySem.Spec PyProof.Rows L2 Pu
def isI : D → Bool
  | .int _ => true
  | _ => false
@[simp] theorem smR_frz {b} : smR (.frz b) = false := by unfold smR; rfl
@[simp] theorem smR_ref {b} : smR (.ref b) = false := by unfold smR; rfl
@[simp] theorem smR_ty {b} : smR (.ty b) = false := by unfold smR; rfl
@[simp] theorem smR_xc {b} : smR (.xc b) = false := by unfold smR; rfl
@[simp] theorem smR_tux {b} : smR (.tux b) = false := by unfold smR; rfl
@[simp] theorem smR_lam {f c q ds vs} : smR (.lam f c q ds vs) = false := by unfold smR; rfl
theorem whole_eq {d : D} {h : HH} (g : smR d = true) : F_is_whole [d] h = .ok (.bl (isI d)) h := by
  rw [← wp_eq]
  cases d with
  | frz xs => simp at g
  | ref xs => simp at g
  | ty xs => simp at g
  | xc xs => simp at g
  | tux xs => simp at g
  | lam f c q ds vs => simp at g
  | _ => simp [F_is_whole, r_is_whole, b_is_whole, isI]
theorem lwhole_eq {d : D} {h : HH} (g : smR d = true) : F__law_is_whole [d] h = .ok (.bl (isI d)) h := by
  rw [← wp_eq]
  cases d with
  | frz xs => simp at g
  | ref xs => simp at g
  | ty xs => simp at g
  | xc xs => simp at g
  | tux xs => simp at g
  | lam f c q ds vs => simp at g
  | _ => simp [F__law_is_whole, r__law_is_whole, b__law_is_whole, isI]
theorem wrapped_eq (m : Ma) {i : Int} {h : HH} : F_wrapped [m.toD, .int i] h = .ok (.int (i % m.top)) h := by
  rw [← wp_eq]
  have := m.b2
  have := m.top_pos
  have ht : m.top = 2 ^ m.bits := rfl
  simp [F_wrapped, r_wrapped, b_wrapped, Ma.toD]
  rw [← ht]
  refine ⟨by omega, by omega, ?_⟩
  simp
/-- a thing that is shown -/
structure Thg (n w : Nat) (d : D) : Prop where
  sm : smR d = true
  nn : noL d = true ∨ noK d = true
  dp : deep d ≤ n
  wt : wR d ≤ w
theorem Thg.le {n w n' w' : Nat} {d : D} (t : Thg n w d) (h1 : n ≤ n') (h2 : w ≤ w') : Thg n' w' d := ⟨t.sm, t.nn, Nat.le_trans t.dp h1, Nat.le_trans t.wt h2⟩
/-- an odd thing -/
structure Od (d : D) : Prop where
  sm : smR d = true
  nn : noL d = true ∨ noK d = true
  dp : deep d ≤ 2
  wt : wR d ≤ 120
/-- a plain thing -/
structure At (d : D) : Prop where
  sm : smR d = true
  nl : noL d = true
  nk : noK d = true
  dp : deep d ≤ 0
  wt : wR d ≤ 120
theorem At.int {i : Int} (h : i.natAbs < 2 ^ 100) : At (.int i) := ⟨by rw [smR_int]; exact decide_eq_true h, by simp, by simp, by simp, by simp⟩
theorem At.str {s : String} (h : s ∈ fineWords) (h2 : s.length ≤ 20) : At (.str s) := ⟨by rw [smR_str]; exact decide_eq_true h, by simp, by simp, by simp, by simp; omega⟩
theorem smRs_of : ∀ {xs : List D}, (∀ x ∈ xs, smR x = true) → smRs xs = true
  | [], _ => by simp
  | x :: xs, h => by simp [h x (by simp), smRs_of (xs := xs) fun y hy => h y (by simp [hy])]
theorem noLs_of : ∀ {xs : List D}, (∀ x ∈ xs, noL x = true) → noLs xs = true
  | [], _ => by simp
  | x :: xs, h => by simp [h x (by simp), noLs_of (xs := xs) fun y hy => h y (by simp [hy])]
theorem noKs_of : ∀ {xs : List D}, (∀ x ∈ xs, noK x = true) → noKs xs = true
  | [], _ => by simp
  | x :: xs, h => by simp [h x (by simp), noKs_of (xs := xs) fun y hy => h y (by simp [hy])]
theorem wRs_le {n : Nat} : ∀ {xs : List D}, (∀ x ∈ xs, wR x ≤ n) → wRs xs ≤ xs.length * (n + 2)
  | [], _ => by simp
  | x :: xs, h => by
    have h1 := h x (by simp)
    have h2 := wRs_le (n := n) (xs := xs) fun y hy => h y (by simp [hy])
    simp [Nat.add_mul] at h2 ⊢
    omega
theorem mem_cut {α : Type} {xs : List α} {a b : Option Int} {x : α} (h : x ∈ cut xs a b) : x ∈ xs := List.mem_of_mem_drop (List.mem_of_mem_take h)
theorem len_cut {α : Type} {xs : List α} {a b : Option Int} : (cut xs a b).length ≤ xs.length := by
  unfold cut
  rw [List.length_take, List.length_drop]
  omega
theorem tg_of {ys : List D} {o : D} (ho : Od o) (h : ∀ x ∈ ys, At x ∨ x = o) (hl : ys.length ≤ 10) : Thg 5 2000 (.tup ys) where
  sm := by
    rw [smR_tup]
    refine smRs_of fun x hx => ?_
    rcases h x hx with a | rfl
    · exact a.sm
    · exact ho.sm
  nn := by
    rcases ho.nn with n | n
    · left
      rw [noL_tup]
      refine noLs_of fun x hx => ?_
      rcases h x hx with a | rfl
      · exact a.nl
      · exact n
    · right
      rw [noK_tup]
      refine noKs_of fun x hx => ?_
      rcases h x hx with a | rfl
      · exact a.nk
      · exact n
  dp := by
    rw [deep_tup]
    have := deeps_le (xs := ys) (n := 2) fun x hx => by
      rcases h x hx with a | rfl
      · have := a.dp; omega
      · exact ho.dp
    omega
  wt := by
    rw [wR_tup]
    have := wRs_le (xs := ys) (n := 120) fun x hx => by
      rcases h x hx with a | rfl
      · exact a.wt
      · exact ho.wt
    have : ys.length * (120 + 2) ≤ 10 * 122 := Nat.mul_le_mul_right _ hl
    omega
theorem tg_at {ys : List D} (h : ∀ x ∈ ys, At x) (hl : ys.length ≤ 10) : Thg 5 2000 (.tup ys) :=
  tg_of (o := .int 0) ⟨by simp, by simp, by simp, by simp⟩ (fun x hx => .inl (h x hx)) hl
theorem tg_lst {ys : List D} (h : ∀ x ∈ ys, At x) (hl : ys.length ≤ 10) : Thg 5 2000 (.lst ys) where
  sm := by rw [smR_lst]; exact smRs_of fun x hx => (h x hx).sm
  nn := by right; rw [noK_lst]; exact noKs_of fun x hx => (h x hx).nk
  dp := by
    rw [deep_lst]
    have := deeps_le (xs := ys) (n := 2) fun x hx => by have := (h x hx).dp; omega
    omega
  wt := by
    rw [wR_lst]
    have := wRs_le (xs := ys) (n := 120) fun x hx => (h x hx).wt
    have : ys.length * (120 + 2) ≤ 10 * 122 := Nat.mul_le_mul_right _ hl
    omega
theorem top_abs (m : Ma) : m.top.natAbs < 2 ^ 100 := by
  have h1 := m.top_pos
  have h2 := m.top_le
  have : (2 : Nat) ^ 100 = 1267650600228229401496703205376 := by decide
  omega
theorem small {i : Int} (h : -200000000000000000000000000000 ≤ i ∧ i ≤ 200000000000000000000000000000) : i.natAbs < 2 ^ 100 := by
  have : (2 : Nat) ^ 100 = 1267650600228229401496703205376 := by decide
  omega
theorem od_at {d : D} (a : At d) : Od d := ⟨a.sm, .inl a.nl, by have := a.dp; omega, a.wt⟩
theorem od_int {i : Int} (h : -200000000000000000000000000000 ≤ i ∧ i ≤ 200000000000000000000000000000) : Od (.int i) := od_at (.int (small h))
theorem wo_get {xs : List D} {o : Nat} {q : D → Prop} (h1 : o < xs.length) (hq : ∀ d ∈ xs, q d) : Wo q xs[o]? := by
  rw [List.getElem?_eq_getElem h1]
  exact hq _ (List.getElem_mem h1)
/-- what a machine is -/
def machB : D → Bool
  | .tup [.int a, .int b] => decide (1 ≤ a ∧ a ≤ 60) && decide (1 ≤ b ∧ b ≤ 4)
  | _ => false
theorem isI_yes {d : D} (h : isI d = true) : ∃ i, d = .int i := by
  cases d <;> first | exact ⟨_, rfl⟩ | cases h
theorem machB_no {a b : D} (h : isI a = false ∨ isI b = false) : machB (.tup [a, b]) = false := by
  unfold machB
  split
  · rename_i x y e
    cases e
    rcases h with h | h <;> cases h
  · rfl
theorem machB_3 {a b c : D} {r : List D} : machB (.tup (a :: b :: c :: r)) = false := by
  unfold machB
  split
  · rename_i x y e
    cases e
  · rfl
theorem mach_eq {d : D} {h : HH} (g : smR d = true) : F_is_machine [d] h = .ok (.bl (machB d)) h := by
  rw [← wp_eq]
  cases d with
  | frz xs => simp at g
  | ref xs => simp at g
  | ty xs => simp at g
  | xc xs => simp at g
  | tux xs => simp at g
  | lam f c q ds vs => simp at g
  | tup xs =>
    rcases xs with _ | ⟨a, _ | ⟨b, _ | ⟨c, r⟩⟩⟩
    · simp [F_is_machine, r_is_machine, b_is_machine, machB]
    · simp [F_is_machine, r_is_machine, b_is_machine, machB]
    · simp at g
      simp [F_is_machine, r_is_machine, b_is_machine]
      rw [wp_of_eq (whole_eq g.1)]
      cases ha : isI a with
      | false =>
        simp [machB_no (.inl ha)]
      | true =>
        simp
        rw [wp_of_eq (whole_eq g.2)]
        cases hb : isI b with
        | false => simp [machB_no (.inr hb)]
        | true =>
          obtain ⟨i, rfl⟩ := isI_yes ha
          obtain ⟨j, rfl⟩ := isI_yes hb
          by_cases h1 : 1 ≤ i <;> by_cases h2 : i ≤ 60 <;> by_cases h3 : 1 ≤ j <;> by_cases h4 : j ≤ 4 <;> simp [machB, h1, h2, h3, h4]
    · have e : machB (.tup (a :: b :: c :: r)) = false := machB_3
      rw [e]
      simp [F_is_machine, r_is_machine, b_is_machine]
      refine wi_of (fun z => ?_) (fun z => ?_)
      · simp
      · exfalso
        simp at z
        omega
  | _ => simp [F_is_machine, r_is_machine, b_is_machine, machB]
theorem lmach_eq {d : D} {h : HH} (g : smR d = true) : F__law_is_machine [d] h = .ok (.bl (machB d)) h := by
  rw [← wp_eq]
  cases d with
  | frz xs => simp at g
  | ref xs => simp at g
  | ty xs => simp at g
  | xc xs => simp at g
  | tux xs => simp at g
  | lam f c q ds vs => simp at g
  | tup xs =>
    rcases xs with _ | ⟨a, _ | ⟨b, _ | ⟨c, r⟩⟩⟩
    · simp [F__law_is_machine, r__law_is_machine, b__law_is_machine, machB]
    · simp [F__law_is_machine, r__law_is_machine, b__law_is_machine, machB]
    · simp at g
      simp [F__law_is_machine, r__law_is_machine, b__law_is_machine, wb_for1, wb_for0]
      rw [wp_of_eq (lwhole_eq g.1)]
      cases ha : isI a with
      | false =>
        simp [machB_no (.inl ha)]
      | true =>
        obtain ⟨i, rfl⟩ := isI_yes ha
        by_cases h1 : i < 1
        · have : ¬ 1 ≤ i := by omega
          have e : machB (.tup [.int i, b]) = false := by
            unfold machB
            split
            · rename_i x y ee
              cases ee
              simp [this]
            · rfl
          simp [h1, e]
        by_cases h2 : 60 < i
        · have : ¬ i ≤ 60 := by omega
          have e : machB (.tup [.int i, b]) = false := by
            unfold machB
            split
            · rename_i x y ee
              cases ee
              simp [this]
            · rfl
          simp [h1, h2, e]
        simp [h1, h2, wb_for1, wb_for0]
        rw [wp_of_eq (lwhole_eq g.2)]
        cases hb : isI b with
        | false => simp [machB_no (.inr hb)]
        | true =>
          obtain ⟨j, rfl⟩ := isI_yes hb
          have h3 : 1 ≤ i := by omega
          have h4 : i ≤ 60 := by omega
          by_cases h5 : j < 1
          · have : ¬ 1 ≤ j := by omega
            simp [h5, machB, this]
          by_cases h6 : 4 < j
          · have : ¬ j ≤ 4 := by omega
            simp [h5, h6, machB, this]
          have h7 : 1 ≤ j := by omega
          have h8 : j ≤ 4 := by omega
          simp [h5, h6, machB, h3, h4, h7, h8, wb_for0]
    · have e : machB (.tup (a :: b :: c :: r)) = false := machB_3
      rw [e]
      simp [F__law_is_machine, r__law_is_machine, b__law_is_machine]
      refine wi_of (fun z => ?_) (fun z => ?_)
      · simp
      · exfalso
        simp at z
        omega
  | _ => simp [F__law_is_machine, r__law_is_machine, b__law_is_machine, machB]
end K01

namespace K01
open PySem PySem.Spec PyProof.Rows L2 Pu
theorem lc_mapT {α : Type} {fD φ : α → D} {c : List (Nat × List D)} {g : Tg} {f : Ex} {env : En} {h : HH} (hc : chkOk h c = true) : ∀ (xs : List α) (acc : List D), acc.length + xs.length ≤ sz →
    (∀ x ∈ xs, ∃ env1, g (fD x) env = some env1 ∧ f env1 h = .ok (φ x) h) → lcGo c g tYesD f env (xs.map fD) acc h = .ok (acc ++ xs.map φ) h
  | [], acc, _, _ => by unfold lcGo; simp [hc]
  | x :: xs, acc, hl, hs => by
    rw [List.map_cons]
    unfold lcGo
    rw [if_pos hc]
    obtain ⟨env1, e1, e2⟩ := hs x (by simp)
    rw [e1]
    simp only [ofO, tYesD, bindX, if_true, e2]
    rw [List.length_cons] at hl
    rw [if_pos (by omega), lc_mapT hc xs (acc ++ [φ x]) (by rw [List.length_append, List.length_singleton]; omega) fun d hd => hs d (by simp [hd])]
    simp
/-! ### rows made longer by one, so many times -/
def chs (E : List Int → List Int) : Nat → List (List Int)
  | 0 => [[]]
  | k + 1 => (chs E k).flatMap fun a => (E a).map fun b => a ++ [b]
def rowsD (l : List (List Int)) : List D := l.map fun r => FD r
theorem cl_FD {n : Nat} (r : List Int) : cl n (FD r) = true := by
  unfold FD cl
  exact cls_of fun d hd => by
    obtain ⟨k, _, rfl⟩ := List.mem_map.mp hd
    unfold cl; rfl
theorem cls_rowsD {n : Nat} (l : List (List Int)) : cls n (rowsD l) = true := cls_of fun d hd => by
  obtain ⟨r, _, rfl⟩ := List.mem_map.mp hd
  exact cl_FD r
theorem chs_len {E : List Int → List Int} : ∀ {k : Nat}, ∀ r ∈ chs E k, r.length = k
  | 0, r, h => by simp [chs] at h; rw [h]; rfl
  | k + 1, r, h => by
    obtain ⟨a, ha, hr⟩ := List.mem_flatMap.mp h
    obtain ⟨b, _, rfl⟩ := List.mem_map.mp hr
    simp [chs_len a ha]
theorem flatMap_take_le {α β : Type} (f : α → List β) : ∀ (l : List α) (i : Nat), ((l.take i).flatMap f).length ≤ (l.flatMap f).length
  | [], i => by simp
  | a :: l, 0 => by simp
  | a :: l, i + 1 => by
    have := flatMap_take_le f l i
    simp only [List.take_succ_cons, List.flatMap_cons, List.length_append]
    omega
theorem get3a {A : HH} {a b : O} {n : Nat} (h : n = A.length) : (A ++ [a] ++ [b])[n]? = some a := by subst h; simp
theorem get3b {A : HH} {a b : O} {n : Nat} (h : n = A.length + 1) : (A ++ [a] ++ [b])[n]? = some b := by subst h; simp
theorem set3b {A : HH} {a b c : O} {n : Nat} (h : n = A.length + 1) : (A ++ [a] ++ [b]).set n c = A ++ [a] ++ [c] := by subst h; simp
theorem chs_le {E : List Int → List Int} {n : Nat} (he : ∀ a, (E a).length ≤ n) : ∀ k : Nat, (chs E k).length ≤ n ^ k
  | 0 => by simp [chs]
  | k + 1 => by
    have ih := chs_le he k
    have : ∀ l : List (List Int), (l.flatMap fun a => (E a).map fun b => a ++ [b]).length ≤ l.length * n := fun l => by
      induction l with
      | nil => simp
      | cons a l ih =>
        rw [List.flatMap_cons, List.length_append, List.length_map, List.length_cons, Nat.add_mul]
        have := he a
        omega
    have h2 := this (chs E k)
    have h3 : (chs E k).length * n ≤ n ^ k * n := Nat.mul_le_mul_right n ih
    rw [Nat.pow_succ]
    exact Nat.le_trans h2 h3
def nmE (b : Nat) (_ : List Int) : List Int := (List.range (2 ^ b)).map fun i : Nat => (i : Int)
theorem lex_same {b c : Int} (h : b < c) : ∀ a : List Int, HT.lexLt (a ++ [b]) (a ++ [c]) = true
  | [] => by
    show (if b = c then HT.lexLt [] [] else decide (b < c)) = true
    rw [if_neg (by omega), decide_eq_true h]
  | x :: a => by
    rw [List.cons_append, List.cons_append, HT.lexLt_cons, if_pos rfl]
    exact lex_same h a
theorem lex_app {b c : Int} : ∀ {a a' : List Int}, a.length = a'.length → HT.lexLt a a' = true → HT.lexLt (a ++ [b]) (a' ++ [c]) = true
  | [], [], _, h => by cases h
  | [], _ :: _, e, _ => by simp at e
  | _ :: _, [], e, _ => by simp at e
  | x :: a, y :: a', e, h => by
    rw [List.cons_append, List.cons_append, HT.lexLt_cons]
    rw [HT.lexLt_cons] at h
    by_cases z : x = y
    · rw [if_pos z] at h ⊢
      exact lex_app (by simpa using e) h
    · rw [if_neg z] at h ⊢
      exact h
theorem chs_up {b : Nat} : ∀ k, (chs (nmE b) k).Pairwise fun r s => HT.lexLt r s = true
  | 0 => by simp [chs]
  | k + 1 => by
    have ih := chs_up (b := b) k
    rw [chs, List.pairwise_flatMap]
    refine ⟨fun a _ => ?_, ?_⟩
    · refine List.pairwise_map.mpr ?_
      unfold nmE
      exact List.pairwise_map.mpr (List.pairwise_lt_range.imp fun h => lex_same (by omega) a)
    · refine ih.imp_of_mem fun {a a'} ha ha' h x hx y hy => ?_
      obtain ⟨b, _, rfl⟩ := List.mem_map.mp hx
      obtain ⟨c, _, rfl⟩ := List.mem_map.mp hy
      exact lex_app (by rw [chs_len a ha, chs_len a' ha']) h
theorem chs_card {b : Nat} : ∀ k, (chs (nmE b) k).length = (2 ^ b) ^ k
  | 0 => by simp [chs]
  | k + 1 => by
    rw [chs, List.length_flatMap]
    have : ((chs (nmE b) k).map fun a => ((nmE b a).map fun b => a ++ [b]).length) = (chs (nmE b) k).map fun _ => 2 ^ b := List.map_congr_left fun a _ => by simp [nmE]
    rw [this, List.map_const', List.sum_replicate_nat, chs_card k, Nat.pow_succ]
theorem chs_in {b : Nat} : ∀ {k : Nat}, ∀ r ∈ chs (nmE b) k, ∀ x ∈ r, 0 ≤ x ∧ x < 2 ^ b
  | 0, r, h, x, hx => by
    simp [chs] at h
    subst h
    cases hx
  | k + 1, r, h, x, hx => by
    obtain ⟨a, ha, hr⟩ := List.mem_flatMap.mp h
    obtain ⟨y, hy, rfl⟩ := List.mem_map.mp hr
    rcases List.mem_append.mp hx with z | z
    · exact chs_in a ha x z
    · rw [List.mem_singleton.mp z]
      unfold nmE at hy
      obtain ⟨i, hi, rfl⟩ := List.mem_map.mp hy
      have := List.mem_range.mp hi
      refine ⟨by omega, ?_⟩
      exact_mod_cast this
theorem small_eq {a b : Int} {h : HH} (ha : 0 ≤ a ∧ a < 1000) (hb : 0 ≤ b ∧ b < 1000) : F_is_small [.tup [.int a, .int b]] h = .ok (.bl (decide (a * b ≤ 8))) h := by
  rw [← wp_eq]
  simp [F_is_small, r_is_small, b_is_small]
  omega
theorem stands_no {m : Ma} {h : HH} (hm : 8 < m.bits * m.boxes) : F_stands [m.toD] h = .exc "TooMany" h := by
  have hm2 : (8 : Int) < (m.bits : Int) * (m.boxes : Int) := by exact_mod_cast hm
  have h1 := m.b2
  have h2 := m.x2
  have : Wp (fun _ _ => False) (fun c h' => c = "TooMany" ∧ h' = h) (F_stands [m.toD] h) := by
    simp [F_stands, r_stands, b_stands]
    rw [show m.toD = .tup [.int (m.bits : Nat), .int (m.boxes : Nat)] from rfl, wp_of_eq (small_eq (by omega) (by omega))]
    have : ¬ (m.bits : Int) * (m.boxes : Int) ≤ 8 := by omega
    simp [this]
  cases e : F_stands [m.toD] h with
  | ok d h' => rw [e] at this; exact this.elim
  | exc c h' => rw [e] at this; obtain ⟨rfl, rfl⟩ := this; rfl
  | stuck => rw [e] at this; exact this.elim
theorem stands_wp {m : Ma} {h : HH} {Q : D → HH → Prop} (hm : m.bits * m.boxes ≤ 8) (hq : ∀ hs' : HH, hs'.length = m.boxes → hs'.all (clO 0) = true → Q (.ref (h.length + m.boxes)) (h ++ hs' ++ [.lst (rowsD (chs (nmE m.bits) m.boxes))])) : Wp Q noE (F_stands [m.toD] h) := by
  have hm2 : (m.bits : Int) * (m.boxes : Int) ≤ 8 := by exact_mod_cast hm
  have h1 := m.b2
  have b1 := m.b1
  have x1 := m.x1
  have h2 := m.x2
  have b8 : m.bits ≤ 8 := Nat.le_trans (Nat.le_mul_of_pos_right _ (by omega)) hm
  have p8 : 2 ^ m.bits ≤ 2 ^ 8 := Nat.pow_le_pow_right (by decide) b8
  have bound : ∀ j ≤ m.boxes, (chs (nmE m.bits) j).length ≤ 100000 := fun j hj => by
    rw [chs_card, ← Nat.pow_mul]
    have h2 : 2 ^ (m.bits * j) ≤ 2 ^ 8 := Nat.pow_le_pow_right (by decide) (Nat.le_trans (Nat.mul_le_mul_left _ hj) hm)
    omega
  simp [F_stands, r_stands, b_stands]
  rw [show m.toD = .tup [.int (m.bits : Nat), .int (m.boxes : Nat)] from rfl, wp_of_eq (small_eq (by omega) (by omega))]
  simp [hm2]
  rw [rgD_1 (by simp; omega)]
  simp
  refine wb_forI (fun i env h' => ∃ (z2 z3 z4 : Option D) (hs' : HH), hs'.length = i ∧ hs'.all (clO 0) = true ∧ env = [some (.tup [.int (m.bits : Nat), .int (m.boxes : Nat)]), some (.ref (h.length + i)), z2, z3, z4, none] ∧ h' = h ++ hs' ++ [.lst (rowsD (chs (nmE m.bits) i))]) ⟨none, none, none, [], rfl, rfl, rfl, by simp [chs, rowsD, FD]⟩ (fun _ _ _ _ => by simp) ?_ ?_
  · rintro i d env h' hd ⟨z2, z3, z4, hs', hl, hc, rfl, rfl⟩
    have hi : i < m.boxes := by simpa using (intsL_get hd).2
    have il : ((h ++ hs').length : Nat) = h.length + i := by rw [List.length_append, hl]
    have lsz := bound (i + 1) (by omega)
    simp [-List.append_assoc]
    rw [get3a (A := h ++ hs') il.symm]
    have el : (h ++ hs' ++ [O.lst (rowsD (chs (nmE m.bits) i))]).length = h.length + i + 1 := by rw [List.length_append, il]; rfl
    rw [el]
    simp only [wo_some]
    refine wb_forI (fun j env h' => ∃ z4 : Option D, env = [some (.tup [.int (m.bits : Nat), .int (m.boxes : Nat)]), some (.ref (h.length + i)), some d, some (.ref (h.length + i + 1)), z4, none] ∧ h' = h ++ hs' ++ [.lst (rowsD (chs (nmE m.bits) i))] ++ [.lst (rowsD (((chs (nmE m.bits) i).take j).flatMap fun a => (nmE m.bits a).map fun b => a ++ [b]))]) ⟨z4, rfl, by simp [rowsD]⟩ ?_ ?_ ?_
    · rintro j env h' ⟨z4, rfl, rfl⟩
      exact chkOk_self (d := .ref (h.length + i)) (itemsL_ref (by rw [← il]; exact get3a rfl))
    · rintro j d2 env h' hd2 ⟨z4, rfl, rfl⟩
      unfold rowsD at hd2
      rw [List.getElem?_map] at hd2
      obtain ⟨a, e2, rfl⟩ := Option.map_eq_some_iff.mp hd2
      have al := chs_len a (List.mem_of_getElem? e2)
      have et : (chs (nmE m.bits) i).take (j + 1) = (chs (nmE m.bits) i).take j ++ [a] := by rw [List.take_add_one, e2]; rfl
      have tl := flatMap_take_le (fun a => (nmE m.bits a).map fun b => a ++ [b]) (chs (nmE m.bits) i) (j + 1)
      have tl2 : ((chs (nmE m.bits) i).flatMap fun a => (nmE m.bits a).map fun b => a ++ [b]).length ≤ 100000 := lsz
      rw [et, List.flatMap_append, List.length_append] at tl
      have ex : ([a].flatMap fun a => (nmE m.bits a).map fun b => a ++ [b]) = (nmE m.bits a).map fun b => a ++ [b] := by simp
      rw [ex] at tl
      rw [et, List.flatMap_append, ex]
      have ln : (nmE m.bits a).length = 2 ^ m.bits := by simp [nmE]
      generalize ((chs (nmE m.bits) i).take j).flatMap (fun a => (nmE m.bits a).map fun b => a ++ [b]) = done at tl ⊢
      have e3 : rowsD (done ++ (nmE m.bits a).map fun b => a ++ [b]) = rowsD done ++ (nmE m.bits a).map fun b => FD (a ++ [b]) := by
        unfold rowsD; simp
      have gl : ∀ l : List D, (h ++ hs' ++ [O.lst (rowsD (chs (nmE m.bits) i))] ++ [O.lst l])[h.length + i + 1]? = some (.lst l) := fun l => by rw [← il]; exact get3b rfl
      have sl : ∀ l k : List D, (h ++ hs' ++ [O.lst (rowsD (chs (nmE m.bits) i))] ++ [O.lst l]).set (h.length + i + 1) (.lst k) = h ++ hs' ++ [O.lst (rowsD (chs (nmE m.bits) i))] ++ [O.lst k] := fun l k => by rw [← il]; exact set3b rfl
      have dl : (rowsD done).length = done.length := by simp [rowsD]
      rw [List.length_map] at tl
      have ei : intsL 0 (2 ^ m.bits) = (nmE m.bits a).map D.int := by
        unfold intsL nmE
        rw [List.map_map]
        exact List.map_congr_left fun i _ => by simp
      simp [-List.append_assoc, gl]
      refine ⟨by omega, ?_⟩
      rw [show (2 : Int) ^ m.bits = ((2 ^ m.bits : Nat) : Int) from (Int.natCast_pow 2 m.bits).symm]
      revert ei ln p8
      generalize 2 ^ m.bits = T
      intro p8 ln ei
      rw [rgD_1 (by simp; omega)]
      simp [-List.append_assoc, gl]
      rw [ei]
      refine wp_of (lc_mapT (fD := D.int) (φ := fun i => FD (a ++ [i])) rfl (nmE m.bits a) [] (by simp [sz]; omega) fun i hi => ⟨_, rfl, ?_⟩) ?_
      · rw [← wp_eq]
        simp [sz, FD]
        omega
      rw [List.nil_append]
      simp [-List.append_assoc, gl, sl, e3, dl]
      simp [sz]
      omega
    · rintro env h' ⟨z4, rfl, rfl⟩
      have e4 : (chs (nmE m.bits) i).take (rowsD (chs (nmE m.bits) i)).length = chs (nmE m.bits) i := by unfold rowsD; rw [List.length_map, List.take_length]
      rw [e4]
      simp [-List.append_assoc]
      refine ⟨_, _, _, hs' ++ [O.lst (rowsD (chs (nmE m.bits) i))], by simp [hl], ?_, ⟨by omega, rfl, rfl, rfl⟩, by rw [List.append_assoc h hs'], rfl⟩
      · intro x hx
        rcases List.mem_append.mp hx with z | z
        · exact List.all_eq_true.mp hc x z
        · rw [List.mem_singleton.mp z]
          simp [clO, cls_rowsD]
  · rintro env h' ⟨z2, z3, z4, hs', hl, hc, rfl, rfl⟩
    have e : (intsL 0 m.boxes).length = m.boxes := by simp [intsL]
    rw [e] at hl ⊢
    simp [-List.append_assoc]
    exact hq hs' hl hc
end K01

namespace K01
open PySem PySem.Spec PyProof.Rows L2 Pu
@[simp] theorem wp_eAct {i : Nat} {L : D} {t : HH → R D} {env : En} {h : HH} {q : D → HH → Prop} {e : String → HH → Prop} (he : env[i]? = some (some L)) : Wp q e (eAct i L t env h) ↔ Wp q e (t h) := by
  unfold eAct
  rw [he]
  dsimp only
  rw [if_pos (beqD_refl L)]
theorem many_eq {th : HH → R D} {h : HH} (e : th h = .exc "TooMany" h) (L : D) : F__law_too_many L th [L] h = .ok (.bl true) h := by
  have x1 : "TooMany" ∈ xcs := by decide
  rw [← wp_eq]
  simp [F__law_too_many, r__law_too_many, b__law_too_many, beqD_refl]
  rw [e]
  show "TooMany" ∈ xcs ∧ _
  simp [x1, subX]
theorem wp_ltT {a b : List Int} {h : HH} {q : D → HH → Prop} {e : String → HH → Prop} : Wp q e (opLt (.tup (a.map D.int)) (.tup (b.map D.int)) h) ↔ q (.bl (HT.lexLt a b)) h := by
  unfold opLt
  dsimp only
  rw [intsD_map, intsD_map]
  exact Iff.rfl
theorem sright_eq {m : Ma} {h : HH} (hm : m.bits * m.boxes ≤ 8) (hh : h.all (clO 0) = true) : F__law_stands_right [m.toD] h = .ok (.bl true) h := by
  have hm2 : (m.bits : Int) * (m.boxes : Int) ≤ 8 := by exact_mod_cast hm
  have h1 := m.b2
  have b1 := m.b1
  have x1 := m.x1
  have h2 := m.x2
  have b8 : m.bits ≤ 8 := Nat.le_trans (Nat.le_mul_of_pos_right _ (by omega)) hm
  have p8 : 2 ^ m.bits ≤ 2 ^ 8 := Nat.pow_le_pow_right (by decide) b8
  have p8i : (2 : Int) ^ m.bits ≤ 256 := by exact_mod_cast p8
  have p0i : (0 : Int) < 2 ^ m.bits := Int.pow_pos (by decide)
  rw [← wp_eq]
  refine wp_fP ?_
  simp [r__law_stands_right, b__law_stands_right]
  refine stands_wp hm fun hs' hl hc => ?_
  have eT : m.toD = .tup [.int (m.bits : Nat), .int (m.boxes : Nat)] := rfl
  have hg : (h ++ hs' ++ [O.lst (rowsD (chs (nmE m.bits) m.boxes))])[h.length + m.boxes]? = some (.lst (rowsD (chs (nmE m.bits) m.boxes))) := by
    rw [← hl, ← List.length_append]; simp
  simp [-List.append_assoc, eT]
  rw [rgD_1 (by simp; omega)]
  simp [-List.append_assoc]
  refine wb_forI (fun i env h' => ∃ z3 : Option D, env = [some (.tup [.int (m.bits : Nat), .int (m.boxes : Nat)]), some (.ref (h.length + m.boxes)), some (.int (((2 ^ m.bits) ^ i : Nat) : Int)), z3, none, none, none] ∧ h' = h ++ hs' ++ [.lst (rowsD (chs (nmE m.bits) m.boxes))]) ⟨none, by simp [eT], rfl⟩ (fun _ _ _ _ => by simp) ?_ ?_
  · rintro i d env h' hd ⟨z3, rfl, rfl⟩
    simp [-List.append_assoc]
    refine ⟨by omega, .inr ⟨by omega, by omega⟩, ?_⟩
    rw [Int.pow_succ]
  rintro env h' ⟨z3, rfl, rfl⟩
  have e1 : (intsL 0 m.boxes).length = m.boxes := by simp [intsL]
  rw [e1]
  have card := chs_card (b := m.bits) m.boxes
  have lR : (rowsD (chs (nmE m.bits) m.boxes)).length = (2 ^ m.bits) ^ m.boxes := by unfold rowsD; rw [List.length_map, card]
  simp [-List.append_assoc, hg, lR]
  have ee : enD (h ++ hs' ++ [O.lst (rowsD (chs (nmE m.bits) m.boxes))]) [D.ref (h.length + m.boxes)] = some ⟨numb 0 (rowsD (chs (nmE m.bits) m.boxes)), chkD (.ref (h.length + m.boxes)) (rowsD (chs (nmE m.bits) m.boxes))⟩ := by
    unfold enD
    dsimp only
    rw [itemsL_ref hg]
    rfl
  rw [ee]
  simp only [wo_some]
  have ck : chkOk (h ++ hs' ++ [O.lst (rowsD (chs (nmE m.bits) m.boxes))]) (chkD (.ref (h.length + m.boxes)) (rowsD (chs (nmE m.bits) m.boxes))) = true := chkOk_self (d := .ref (h.length + m.boxes)) (itemsL_ref hg)
  have up := chs_up (b := m.bits) m.boxes
  have ln : ∀ r ∈ chs (nmE m.bits) m.boxes, r.length = m.boxes := chs_len
  have inn : ∀ r ∈ chs (nmE m.bits) m.boxes, ∀ x ∈ r, 0 ≤ x ∧ x < 2 ^ m.bits := chs_in
  revert hg ck up ln inn
  clear ee lR card e1
  generalize chs (nmE m.bits) m.boxes = R
  intro hg ck up ln inn
  refine wb_forI (fun i env h' => h' = h ++ hs' ++ [.lst (rowsD R)] ∧ ∃ z4 z5 : Option D, env = [some (.tup [.int (m.bits : Nat), .int (m.boxes : Nat)]), some (.ref (h.length + m.boxes)), some (.int ((2 ^ m.bits) ^ m.boxes)), z3, z4, z5, none]) ⟨rfl, _, _, rfl⟩ (fun i env h' hI => ?_) ?_ ?_
  · obtain ⟨rfl, _⟩ := hI
    exact ck
  · rintro i d env h' hd ⟨rfl, z4, z5, rfl⟩
    obtain ⟨x, hx, rfl⟩ := numb_getI hd
    unfold rowsD at hx
    rw [List.getElem?_map] at hx
    obtain ⟨r, er, rfl⟩ := Option.map_eq_some_iff.mp hx
    have lr := ln r (List.mem_of_getElem? er)
    have ir := inn r (List.mem_of_getElem? er)
    simp [-List.append_assoc, FD, lr]
    refine wp_of (lc_mapT (fD := D.int) (φ := fun _ => D.bl true) rfl r [] (by simp [sz]; omega) fun x hx => ⟨_, rfl, ?_⟩) ?_
    · have := ir x hx
      rw [← wp_eq]
      simp
      rw [wp_of_eq (lwhole_eq (d := .int x) (by
        simp only [smR_int, decide_eq_true_eq]
        have : (2 : Nat) ^ 100 = 1267650600228229401496703205376 := by decide
        omega))]
      simp [isI, this.1, this.2]
      omega
    have e1 : ([] : List D) ++ r.map (fun _ => D.bl true) = (r.map fun _ => true).map D.bl := by simp
    rw [e1]
    have ea : (r.map fun _ => true).all id = true := List.all_eq_true.mpr fun x hx => by
      obtain ⟨_, _, rfl⟩ := List.mem_map.mp hx
      rfl
    simp only [wp_aNil, wp_aCons, wp_eVal, wp_cAll, itemsL_lst, wo_some, blsD_map, ea]
    simp [-List.append_assoc]
    cases i with
    | zero => simp
    | succ i =>
      have hi : i + 1 < R.length := (List.getElem?_eq_some_iff.mp er).1
      have e0 : R[i]? = some R[i] := List.getElem?_eq_getElem (by omega)
      have lt : HT.lexLt R[i] r = true := by
        have := List.pairwise_iff_getElem.mp up i (i + 1) (by omega) hi (by omega)
        rw [(List.getElem?_eq_some_iff.mp er).2] at this
        exact this
      have e2 : (rowsD R)[i]? = some (.tup (R[i].map D.int)) := by unfold rowsD; rw [List.getElem?_map, e0]; rfl
      have ei : ((i : Int) + 1 - 1) = (i : Int) := by omega
      simp [-List.append_assoc, hg, e2, ei]
      rw [wp_ltT, lt]
      simp [-List.append_assoc]
  · rintro env h' ⟨rfl, z4, z5, rfl⟩
    simp
    exact ⟨h, hs' ++ [.lst (rowsD R)], by simp, rfl, hh, by unfold cl; rfl, rfl, rfl⟩
end K01

namespace K01
open PySem PySem.Spec PyProof.Rows L2 Pu
theorem small_wp {b : Int} {t h : HH} {Q : D → HH → Prop} (hp : PenD b t h) (hb : b < 900000)
    (hq : ∀ (m : Ma) h', m.bits * m.boxes ≤ 8 → PenD (b + 1) t h' → Q m.toD h') : Wp Q noE (F__law_small [.ref 0] h) := by
  simp [F__law_small, r__law_small, b__law_small, sz]
  refine draws hp (by omega) (by omega) (by simp only [Int.reducePow]; omega) fun w h1 hw p1 => ?_
  have fin : ∀ x y : Nat, 1 ≤ x → x ≤ 60 → 1 ≤ y → y ≤ 4 → x * y ≤ 8 → Q (.tup [.int (x : Nat), .int (y : Nat)]) h1 := fun x y a1 a2 a3 a4 a5 => hq ⟨x, y, a1, a2, a3, a4⟩ h1 a5 p1
  simp
  refine wo_get (by simp; omega) fun d hd => ?_
  simp only [List.mem_cons, List.not_mem_nil, or_false] at hd
  rcases hd with rfl | rfl | rfl | rfl | rfl | rfl | rfl | rfl | rfl | rfl | rfl | rfl | rfl | rfl | rfl | rfl
  · exact fin 2 2 (by omega) (by omega) (by omega) (by omega) (by omega)
  · exact fin 1 4 (by omega) (by omega) (by omega) (by omega) (by omega)
  · exact fin 2 3 (by omega) (by omega) (by omega) (by omega) (by omega)
  · exact fin 3 2 (by omega) (by omega) (by omega) (by omega) (by omega)
  · exact fin 2 4 (by omega) (by omega) (by omega) (by omega) (by omega)
  · exact fin 1 3 (by omega) (by omega) (by omega) (by omega) (by omega)
  · exact fin 4 2 (by omega) (by omega) (by omega) (by omega) (by omega)
  · exact fin 1 2 (by omega) (by omega) (by omega) (by omega) (by omega)
  · exact fin 8 1 (by omega) (by omega) (by omega) (by omega) (by omega)
  · exact fin 3 1 (by omega) (by omega) (by omega) (by omega) (by omega)
  · exact fin 1 1 (by omega) (by omega) (by omega) (by omega) (by omega)
  · exact fin 2 1 (by omega) (by omega) (by omega) (by omega) (by omega)
  · exact fin 4 1 (by omega) (by omega) (by omega) (by omega) (by omega)
  · exact fin 5 1 (by omega) (by omega) (by omega) (by omega) (by omega)
  · exact fin 6 1 (by omega) (by omega) (by omega) (by omega) (by omega)
  · exact fin 7 1 (by omega) (by omega) (by omega) (by omega) (by omega)
theorem whole_mod {x t : Int} : (x % t - x) % t = 0 := by
  rw [Int.emod_def x t]
  have e : x - t * (x / t) - x = t * -(x / t) := by rw [Int.mul_neg]; omega
  rw [e]
  exact Int.mul_emod_right _ _
theorem wlast {K : Ks} {m : Ma} {x : Int} {z3 z4 z6 : Option D} {h : HH} (hn : K.nx [some (.ref 0), some m.toD, some (.int m.top), z3, z4, some (.int x), some (.int (x % m.top))] h) :
    Wb K ((sSeq (sSet 6 (eFn F_wrapped (aCons (eV 1) (aCons (eV 5) aNil))))
      (sIf (tOrP (tNotP (tV (eFn F__law_is_whole (aCons (eV 6) aNil)))) (tOrP (tNotP (Pu.tB (eChain opLe opLt (eC (D.int 0)) (eV 6) (eV 2)))) (Pu.tB (eOp opNe (eOp opMod (eOp opSub (eV 6) (eV 5)) (eV 2)) (eC (D.int 0)))))) (sRet (eC (D.bl false))) sNil)) [some (.ref 0), some m.toD, some (.int m.top), z3, z4, some (.int x), z6] h) := by
  have tp := m.top_pos
  have tl := m.top_le
  have e0 := Int.emod_nonneg x (show m.top ≠ 0 by omega)
  have e1 := Int.emod_lt_of_pos x (show 0 < m.top by omega)
  simp
  rw [wp_of_eq (wrapped_eq m)]
  simp
  rw [wp_of_eq (lwhole_eq (d := .int (x % m.top)) (by rw [smR_int]; exact decide_eq_true (small (by omega))))]
  simp [isI, e0, e1, whole_mod]
  exact ⟨by omega, hn⟩
theorem wright_wp (m : Ma) {b : Int} {t h : HH} {Q : D → HH → Prop} (hp : PenD b t h) (hb : b < 800000)
    (hq : ∀ h', PenD (b + 40) t h' → Q (.bl true) h') : Wp Q noE (F__law_wrapped_right [.ref 0, m.toD] h) := by
  have tp := m.top_pos
  have tl := m.top_le
  have hb2 := m.b2
  have ht : m.top = 2 ^ m.bits := rfl
  have eT : m.toD = .tup [.int (m.bits : Nat), .int (m.boxes : Nat)] := rfl
  have fw : ∀ (i : Int) (h : HH), F_wrapped [m.toD, .int i] h = .ok (.int (i % m.top)) h := fun i h => wrapped_eq m
  simp [F__law_wrapped_right, r__law_wrapped_right, b__law_wrapped_right]
  rw [eT]
  simp
  refine ⟨by omega, ?_⟩
  rw [← ht, ← eT]
  refine wb_forI (fun i env h2 => ∃ z3 z4 z5 z6 : Option D, env = [some (.ref 0), some m.toD, some (.int m.top), z3, z4, z5, z6] ∧ PenD (b + 8 * i) t h2) ⟨none, none, none, none, rfl, by simpa using hp⟩ (fun _ _ _ _ => by simp) ?_ ?_
  · rintro i d env h2 hd ⟨z3, z4, z5, z6, rfl, p⟩
    have hi := (intsL_get hd).2
    have hi : i < 4 := by simpa using hi
    simp
    refine draws p (by omega) (by omega) (by simp only [Int.reducePow]; omega) fun w h3 hw p3 => ?_
    simp
    refine below_wp p3 (by omega) (by omega) (by simp only [Int.reducePow]; omega) fun k h4 hk p4 => ?_
    rcases (by omega : w = 0 ∨ w = 1 ∨ w = 2 ∨ w = 3) with rfl | rfl | rfl | rfl
    · simp
      refine draws p4 (by omega) (by omega) (by simp only [Int.reducePow]; omega) fun u h5 hu p5 => ?_
      simp
      refine ⟨by omega, ?_⟩
      refine draws p5 (by omega) (by omega) (by simp only [Int.reducePow]; omega) fun v h6 hv p6 => ?_
      simp [-wb_sSeq]
      exact wlast ⟨_, _, _, _, rfl, p6.le (by omega)⟩
    · simp [-wb_sSeq]
      exact wlast ⟨_, _, _, _, rfl, p4.le (by omega)⟩
    · simp [-wb_sSeq]
      exact wlast ⟨_, _, _, _, rfl, p4.le (by omega)⟩
    · simp [-wb_sSeq]
      exact wlast ⟨_, _, _, _, rfl, p4.le (by omega)⟩
  · rintro env h2 ⟨z3, z4, z5, z6, rfl, p⟩
    simp
    exact hq h2 (p.le (by simp))
end K01

namespace K01
open PySem PySem.Spec PyProof.Rows L2 Pu
theorem at_int {i : Int} (h : -200000000000000000000000000000 ≤ i ∧ i ≤ 200000000000000000000000000000) : At (.int i) := .int (small h)
theorem thing_wp {b : Int} {t h : HH} {Q : D → HH → Prop} (hp : PenD b t h) (ht : t.all (clO 0) = true) (hb : b < 800000)
    (hq : ∀ d h', Thg 20 20000 d → PenD (b + 12) t h' → Q d h') : Wp Q noE (F__law_thing [.ref 0] h) := by
  refine wp_fP ?_
  have hl := hp.len
  simp [r__law_thing, b__law_thing]
  refine draws hp (by omega) (by omega) (by simp only [Int.reducePow]; omega) fun w h1 hw p1 => ?_
  simp
  refine draws p1 (by omega) (by omega) (by simp only [Int.reducePow]; omega) fun pl h2 hpl p2 => ?_
  simp
  refine draws p2 (by omega) (by omega) (by simp only [Int.reducePow]; omega) fun o h3 ho p3 => ?_
  simp
  refine machine_wp p3 (by omega) fun m h4 p4 => ?_
  have eT : m.toD = .tup [.int (m.bits : Nat), .int (m.boxes : Nat)] := rfl
  have b1 := m.b1
  have b2 := m.b2
  have x1 := m.x1
  have x2 := m.x2
  have mA : At (.int (m.bits : Nat)) := at_int (by omega)
  have mB : At (.int (m.boxes : Nat)) := at_int (by omega)
  have aI : ∀ i : Int, -1000 ≤ i ∧ i ≤ 1000 → At (.int i) := fun i h => at_int (by omega)
  have fin : ∀ (d : D) (h5 : HH) (g : HH), PenD (b + 12) t h5 → Thg 20 20000 d → cl 0 d = true → FzP h Q d (h5 ++ g) := fun d h5 g p5 tg c => FzP.mk (by rw [p5.len, hl]) (p5.pure ht) c (hq d h5 tg p5)
  have c2 : ∀ x y : D, cl 0 x = true → cl 0 y = true → cl 0 (.tup [x, y]) = true := fun x y h1 h2 => by unfold cl cls cls cls; rw [h1, h2]; rfl
  simp [-wp_cRepr]
  refine wi_of (fun c1 => ?_) (fun c1 => ?_)
  · simp
    refine below_wp p4 (by omega) (by omega) (by simp only [Int.reducePow]; omega) fun gr h5 hgr p5 => ?_
    have hgr : (gr : Int) < 100000000000000000000000000000 := by simpa using hgr
    simp [sz, eT]
    refine wo_get (by simp; omega) fun d hd => ?_
    have od : Od d ∧ cl 0 d = true := by
      simp only [List.mem_cons, List.not_mem_nil, or_false] at hd
      rcases hd with rfl | rfl | rfl | rfl | rfl | rfl | rfl | rfl | rfl | rfl | rfl | rfl | rfl | rfl | rfl | rfl
      · exact ⟨od_int (by omega), rfl⟩
      · exact ⟨od_int (by omega), rfl⟩
      · exact ⟨od_int (by omega), rfl⟩
      · exact ⟨od_int (by omega), rfl⟩
      · exact ⟨od_int (by omega), rfl⟩
      · exact ⟨od_int (by omega), rfl⟩
      · exact ⟨⟨by simp, by simp, by simp, by simp⟩, rfl⟩
      · exact ⟨⟨by simp, by simp, by simp, by simp⟩, rfl⟩
      · exact ⟨od_at (.str (by decide) (by decide)), rfl⟩
      · exact ⟨⟨by simp, by simp, by simp, by simp⟩, rfl⟩
      · exact ⟨⟨by simp, by simp, by simp, by simp⟩, rfl⟩
      · exact ⟨⟨by simp, by simp, by simp, by simp⟩, rfl⟩
      · exact ⟨⟨by simp, by simp, by simp, by simp⟩, rfl⟩
      · exact ⟨od_int (by omega), rfl⟩
      · exact ⟨od_int (by omega), rfl⟩
      · exact ⟨od_int (by omega), rfl⟩
    rcases (by omega : pl = 0 ∨ pl = 1) with rfl | rfl
    · simp [get_end, set_end, sz]
      refine fin _ _ _ (p5.le (by omega)) ((tg_of (ys := [d, .int (m.boxes : Nat)]) od.1 (fun x hx => ?_) (by simp)).le (by omega) (by omega)) (c2 _ _ od.2 rfl)
      simp at hx
      rcases hx with rfl | rfl
      · exact .inr rfl
      · exact .inl mB
    · simp [get_end, set_end, sz]
      refine fin _ _ _ (p5.le (by omega)) ((tg_of (ys := [.int (m.bits : Nat), d]) od.1 (fun x hx => ?_) (by simp)).le (by omega) (by omega)) (c2 _ _ rfl od.2)
      simp at hx
      rcases hx with rfl | rfl
      · exact .inl mA
      · exact .inr rfl
  simp
  refine wi_of (fun c2 => ?_) (fun c2 => ?_)
  · simp [sz, eT]
    refine wo_at (Int.emod_nonneg _ (by omega)) (by have := Int.emod_lt_of_pos (o : Int) (show (0 : Int) < 8 by omega); simpa using this) fun d hd => ?_
    rw [← List.append_nil h4]
    simp only [List.mem_cons, List.not_mem_nil, or_false] at hd
    have p4 := p4.le (show b + 1 + 1 + 1 + 3 ≤ b + 12 by omega)
    rcases hd with rfl | rfl | rfl | rfl | rfl | rfl | rfl | rfl
    · exact fin _ _ _ p4 ((tg_lst (by simp; exact ⟨mA, mB⟩) (by simp)).le (by omega) (by omega)) rfl
    · exact fin _ _ _ p4 ((tg_at (by simp; exact mA) (by simp)).le (by omega) (by omega)) rfl
    · exact fin _ _ _ p4 ((tg_at (by simp; exact mB) (by simp)).le (by omega) (by omega)) rfl
    · exact fin _ _ _ p4 ((tg_at (by simp; exact ⟨mA, mB, aI 1 (by omega)⟩) (by simp)).le (by omega) (by omega)) rfl
    · exact fin _ _ _ p4 ⟨by simp; omega, by simp, by simp, by simp⟩ rfl
    · exact fin _ _ _ p4 ((tg_at (by simp) (by simp)).le (by omega) (by omega)) rfl
    · exact fin _ _ _ p4 ((tg_at (by simp; exact ⟨mB, mA⟩) (by simp)).le (by omega) (by omega)) rfl
    · exact fin _ _ _ p4 ((tg_at (by simp; exact ⟨mA, mB, mA, mB⟩) (by simp)).le (by omega) (by omega)) rfl
  · simp [sz, eT]
    refine wo_get (by simp; omega) fun d hd => ?_
    rw [← List.append_nil h4]
    simp only [List.mem_cons, List.not_mem_nil, or_false] at hd
    have p4 := p4.le (show b + 1 + 1 + 1 + 3 ≤ b + 12 by omega)
    rcases hd with rfl | rfl | rfl | rfl | rfl | rfl | rfl | rfl | rfl | rfl | rfl | rfl | rfl | rfl | rfl | rfl
    · exact fin _ _ _ p4 ⟨by simp, by simp, by simp, by simp⟩ rfl
    · exact fin _ _ _ p4 ⟨by simp, by simp, by simp, by simp⟩ rfl
    · exact fin _ _ _ p4 ⟨by simp, by simp, by simp, by simp⟩ rfl
    · exact fin _ _ _ p4 ⟨by simp [fineWords], by simp, by simp, by simp⟩ rfl
    · exact fin _ _ _ p4 ⟨by rw [smR_str]; decide, by simp, by simp, by simp [show ("(1, 2)" : String).length = 6 from rfl]⟩ rfl
    · exact fin _ _ _ p4 ⟨by simp, by simp, by simp, by simp⟩ rfl
    · exact fin _ _ _ p4 ⟨by simp, by simp, by simp, by simp⟩ rfl
    · exact fin _ _ _ p4 ⟨by simp, by simp, by simp, by simp⟩ rfl
    · exact fin _ _ _ p4 ⟨by simp [merD, dPut], by simp [merD, dPut], by simp [merD, dPut, deep, deepk], by simp [merD, dPut, wR, wRk, wK]⟩ rfl
    · exact fin _ _ _ p4 ⟨by simp, by simp, by simp, by simp⟩ rfl
    · exact fin _ _ _ p4 ⟨by simp, by simp, by simp, by simp⟩ rfl
    · exact fin _ _ _ p4 ⟨by simp, by simp, by simp, by simp⟩ rfl
    · exact fin _ _ _ p4 ⟨by simp, by simp, by simp, by simp⟩ rfl
    · exact fin _ _ _ p4 ⟨by simp [fineWords], by simp, by simp, by simp [show ("1" : String).length = 1 from rfl, show ("2" : String).length = 1 from rfl]⟩ rfl
    · exact fin _ _ _ p4 ((tg_at (by simp; exact ⟨mA, mB⟩) (by simp)).le (by omega) (by omega)) rfl
    · exact fin _ _ _ p4 ⟨by simp; omega, by simp, by simp, by simp⟩ rfl
end K01

namespace K01
open PySem PySem.Spec PyProof.Rows L2 Pu
theorem tells_eq {a b : Bool} {h : HH} : F__law_tells [.bl a, .bl b] h = .ok (.bl (a == b)) h := by
  rw [← wp_eq]
  simp [F__law_tells, r__law_tells, b__law_tells]
theorem mach_yes {a b : Int} {h : HH} (ha : 1 ≤ a ∧ a ≤ 60) (hb : 1 ≤ b ∧ b ≤ 4) : F_is_machine [.tup [.int a, .int b]] h = .ok (.bl true) h := by
  rw [mach_eq (by simp [smR_int]; exact ⟨small (by omega), small (by omega)⟩)]
  simp [machB, ha, hb]
theorem exc_of {r : R D} {h : HH} (w : Wp (fun _ _ => False) (fun c h' => c = "TooMany" ∧ h' = h) r) : r = .exc "TooMany" h := by
  cases r with
  | ok d h' => exact w.elim
  | exc c h' => obtain ⟨rfl, rfl⟩ := w; rfl
  | stuck => exact w.elim
theorem wp_exc {r : R D} {c : String} {h : HH} {q : D → HH → Prop} {e : String → HH → Prop} (hr : r = .exc c h) (k : e c h) : Wp q e r := by rw [hr]; exact k
theorem law_ok : ∀ ns : List Int, ns.length ≤ 63 → ∃ h', F_law [.frz (ns.map D.int)] [] = .ok (.bl true) h' := fun ns hl => by
  have w : Wp (fun d _ => d = .bl true) noE (F_law [.frz (ns.map D.int)] []) := by
    simp [F_law, r_law, b_law, F__law_pen, r__law_pen, b__law_pen, dPut, merD]
    rw [← List.map_take]
    have p0 : PenD 0 [] [O.dic [(.inr "cells", .lst ((ns.take 63).map D.int)), (.inr "at", .int 0), (.inr "left", .int 0)]] := ⟨ns.take 63, 0, 0, rfl, by simp, by simp, by simp⟩
    generalize ([O.dic [(.inr "cells", .lst ((ns.take 63).map D.int)), (.inr "at", .int 0), (.inr "left", .int 0)]] : HH) = h0 at p0 ⊢
    refine wb_forI (fun i env h2 => h2 = h0 ∧ ∃ x y : Option D, env = [some (.frz (ns.map D.int)), some (.ref 0), x, y, none, none, none, none]) ⟨rfl, _, _, rfl⟩ (fun _ _ _ _ => by simp) ?_ ?_
    · rintro i d env h2 hd ⟨rfl, x, y, rfl⟩
      have hi : i < 60 := by simpa using (intsL_get hd).2
      rw [(intsL_get hd).1]
      simp
      refine wb_forI (fun j env h2' => h2' = h2 ∧ ∃ y : Option D, env = [some (.frz (ns.map D.int)), some (.ref 0), some (.int (1 + (i : Int))), y, none, none, none, none]) ⟨rfl, _, rfl⟩ (fun _ _ _ _ => by simp) ?_ ?_
      · rintro j d2 env h3 hd2 ⟨rfl, y, rfl⟩
        have hj : j < 4 := by simpa using (intsL_get hd2).2
        rw [(intsL_get hd2).1]
        simp
        rw [wp_of_eq (mach_yes (by omega) (by omega))]
        simp
        rw [wp_of_eq (small_eq (by omega) (by omega))]
        simp
        refine ⟨.inl (by omega), ?_⟩
        rw [wp_of_eq tells_eq]
        generalize (1 + (i : Int)) * (1 + (j : Int)) = z
        have : (decide (z ≤ 8) == decide (z < 9)) = true := by
          rw [beq_iff_eq]
          exact decide_eq_decide.mpr (by omega)
        simp [this]
      · rintro env h3 ⟨rfl, y, rfl⟩
        simp
    rintro env h2 ⟨rfl, x, y, rfl⟩
    simp
    refine wb_forI (fun i env h => ∃ z4 z5 z6 z7 : Option D, env = [some (.frz (ns.map D.int)), some (.ref 0), x, y, z4, z5, z6, z7] ∧ PenD (i * 100) [] h) ⟨_, _, _, _, rfl, by simpa using p0⟩ (fun _ _ _ _ => by simp) ?_ ?_
    · rintro i d env h2 hd ⟨z4, z5, z6, z7, rfl, p1⟩
      have hi : i < 8 := by simpa using (intsL_get hd).2
      rw [(intsL_get hd).1]
      simp [-wp_cRepr]
      refine thing_wp p1 (by simp) (by omega) fun th h3 t3 p3 => ?_
      have t1 := t3.dp
      have t2 := t3.wt
      have re := repr_gen (h := h3) t3.sm t3.nn (by omega) (by omega)
      simp [-wp_cRepr]
      rw [wp_of_eq re]
      simp [-wp_cRepr]
      rw [wp_of_eq (mach_eq t3.sm)]
      simp [-wp_cRepr]
      rw [wp_of_eq (lmach_eq t3.sm)]
      simp [-wp_cRepr]
      rw [wp_of_eq tells_eq]
      simp [-wp_cRepr]
      rw [wp_of_eq re]
      simp
      refine machine_wp p3 (by omega) fun m h4 p4 => ?_
      simp
      refine wright_wp m p4 (by omega) fun h5 p5 => ?_
      have eT : m.toD = .tup [.int (m.bits : Nat), .int (m.boxes : Nat)] := rfl
      have b2 := m.b2
      have x2 := m.x2
      simp [eT]
      refine ⟨.inl (by omega), ?_⟩
      refine wi_of (fun c1 => ?_) (fun c1 => ?_)
      · have c2 : 8 < m.bits * m.boxes := by
          simp at c1
          exact_mod_cast c1
        simp
        refine wp_lam (many_eq (exc_of ?_)) ?_
        · simp
          exact wp_exc (stands_no (m := m) c2) ⟨rfl, rfl⟩
        · simp
          exact p5.le (by omega)
      · simp
        exact p5.le (by omega)
    rintro env h2 ⟨z4, z5, z6, z7, rfl, p1⟩
    simp
    refine wb_forI (fun i env h => ∃ z4 z7 : Option D, ∃ t : HH, env = [some (.frz (ns.map D.int)), some (.ref 0), x, y, z4, z5, z6, z7] ∧ t.all (clO 0) = true ∧ PenD (1000 + i * 100) t h) ⟨_, _, [], rfl, rfl, p1.le (by simp)⟩ (fun _ _ _ _ => by simp) ?_ ?_
    · rintro i d env h3 hd ⟨z4, z7, t, rfl, ht, p3⟩
      have hi : i < 2 := by simpa using (intsL_get hd).2
      simp
      refine small_wp p3 (by omega) fun m h4 hm p4 => ?_
      simp
      rw [wp_of_eq (sright_eq hm (p4.pure ht))]
      simp
      refine stands_wp hm fun hs' hl' hc => ?_
      have hg : (h4 ++ hs' ++ [O.lst (rowsD (chs (nmE m.bits) m.boxes))])[h4.length + m.boxes]? = some (.lst (rowsD (chs (nmE m.bits) m.boxes))) := by
        rw [← hl', ← List.length_append]; simp
      have hs : (h4 ++ hs' ++ [O.lst (rowsD (chs (nmE m.bits) m.boxes))]).set (h4.length + m.boxes) (.lst []) = h4 ++ (hs' ++ [.lst []]) := by
        rw [← hl', ← List.length_append]; simp
      simp [-List.append_assoc, hg, hs]
      have cu : (hs' ++ [O.lst []]).all (clO 0) = true := by
        rw [List.all_append, hc]
        rfl
      have p5 := p4.app (hs' ++ [O.lst []])
      have ht2 : (t ++ (hs' ++ [O.lst []])).all (clO 0) = true := by rw [List.all_append, ht, cu]; rfl
      rw [wp_of_eq (sright_eq hm (p5.pure ht2))]
      simp
      exact ⟨_, List.all_eq_true.mp ht2, p5.le (by omega)⟩
    rintro env h3 ⟨z4, z7, t, rfl, ht, p3⟩
    have no : ∀ (a b : Nat) (a1 : 1 ≤ a) (a2 : a ≤ 60) (b1 : 1 ≤ b) (b2 : b ≤ 4), 8 < a * b → F_stands [.tup [.int (a : Nat), .int (b : Nat)]] h3 = .exc "TooMany" h3 := fun a b a1 a2 b1 b2 c => stands_no (m := ⟨a, b, a1, a2, b1, b2⟩) c
    have n1 := no 9 1 (by decide) (by decide) (by decide) (by decide) (by decide)
    have n2 := no 3 3 (by decide) (by decide) (by decide) (by decide) (by decide)
    have n3 := no 5 2 (by decide) (by decide) (by decide) (by decide) (by decide)
    have n4 := no 60 4 (by decide) (by decide) (by decide) (by decide) (by decide)
    simp
    rw [wb_for1]
    simp
    refine wp_lam (many_eq (exc_of ?_)) ?_
    · simp
      exact wp_exc n1 ⟨rfl, rfl⟩
    simp
    rw [wb_for1]
    simp
    refine wp_lam (many_eq (exc_of ?_)) ?_
    · simp
      exact wp_exc n2 ⟨rfl, rfl⟩
    simp
    rw [wb_for1]
    simp
    refine wp_lam (many_eq (exc_of ?_)) ?_
    · simp
      exact wp_exc n3 ⟨rfl, rfl⟩
    simp
    rw [wb_for1]
    simp
    refine wp_lam (many_eq (exc_of ?_)) ?_
    · simp
      exact wp_exc n4 ⟨rfl, rfl⟩
    simp
    rw [wb_for0]
    simp
  obtain ⟨d, h', e, rfl⟩ := wp_ex.mp w
  exact ⟨h', e⟩
end K01

open PySem PySem.W PyProof.Rows in
set_option maxRecDepth 100000 in
set_option maxHeartbeats 0 in
theorem PySem.Challenge.cw_rowlets_k01_machines_and_stands_holds : PySem.Challenge.rw_rowlets_k01_machines_and_stands.Holds := by
  w_on; o_law; k_head; (case hw => w_witness2)
  k_fill
  refine Pu.walk_GT (l := PySem.Challenge.rw_rowlets_k01_machines_and_stands) (n := 63) (k := 6) (x := "_law_script") (F := K01.F_law) (cs := [(?cP0, ?tP0)]) rfl (by decide) rfl ⟨rfl, by decide, by decide⟩ (fun w h Y => ⟨PySem.W.km_in_of Y, PySem.W.km_tabs_of Y⟩) ?cs ?nT ?C ?hQ ?F K01.law_ok
  case F =>
    intro w mg fa h KX G hmg
    refine' K01.all_mk KX G hmg ?a0 ?l0 ?c0 ?k0 ?a1 ?l1 ?c1 ?k1 ?a2 ?l2 ?c2 ?k2 ?a3 ?l3 ?c3 ?k3 ?a4 ?l4 ?c4 ?k4 ?a5 ?l5 ?c5 ?k5 ?a6 ?l6 ?c6 ?k6 ?a7 ?l7 ?c7 ?k7 ?a8 ?l8 ?c8 ?k8 ?a9 ?l9 ?c9 ?k9 ?a10 ?l10 ?c10 ?k10 ?a11 ?l11 ?c11 ?k11 ?a12 ?l12 ?c12 ?k12 ?a13 ?l13 ?c13 ?k13 ?a14 ?l14 ?c14 ?k14 ?a15 ?l15 ?c15 ?k15 ?a16 ?l16 ?c16 ?k16 ?a17 ?l17 ?c17 ?k17 ?z_abs ?z_all ?z_bool ?z_enumerate ?z_int ?z_isinstance ?z_len ?z_list ?z_range ?z_repr ?z_tuple ?y_MOST_BITS ?y_MOST_BOXES ?y_SMALL ?xN ?xT ?xn_TooMany ?xx_TooMany ?xk_TooMany ?xt_TooMany ?xg_TooMany ?xq_TooMany ?xs_TooMany ?xd_TooMany ?xa_TooMany ?xm_TooMany ?xr1 ?xr2 ?xr3 ?xr4 ?xe_TooMany ?yn_TooMany ?yc_TooMany ?yt_TooMany ?yo_TooMany ?yS_TooMany_TooMany ?zx_ValueError ?yV_TooMany ?yn_Loose ?yc_Loose ?yt_Loose ?yo_Loose ?yS_TooMany_Loose ?o_TooMany_Loose ?yn_Needed ?yc_Needed ?yt_Needed ?yo_Needed ?yS_TooMany_Needed ?o_TooMany_Needed ?yn_NoBack ?yc_NoBack ?yt_NoBack ?yo_NoBack ?yS_TooMany_NoBack ?o_TooMany_NoBack ?yn_NoBook ?yc_NoBook ?yt_NoBook ?yo_NoBook ?yS_TooMany_NoBook ?o_TooMany_NoBook ?yn_NoFit ?yc_NoFit ?yt_NoFit ?yo_NoFit ?yS_TooMany_NoFit ?o_TooMany_NoFit ?yn_NoName ?yc_NoName ?yt_NoName ?yo_NoName ?yS_TooMany_NoName ?o_TooMany_NoName ?yn_NoRow ?yc_NoRow ?yt_NoRow ?yo_NoRow ?yS_TooMany_NoRow ?o_TooMany_NoRow ?yn_NoStep ?yc_NoStep ?yt_NoStep ?yo_NoStep ?yS_TooMany_NoStep ?o_TooMany_NoStep ?yn_NotPlain ?yc_NotPlain ?yt_NotPlain ?yo_NotPlain ?yS_TooMany_NotPlain ?o_TooMany_NotPlain ?yn_NotSure ?yc_NotSure ?yt_NotSure ?yo_NotSure ?yS_TooMany_NotSure ?o_TooMany_NotSure ?yn_NoText ?yc_NoText ?yt_NoText ?yo_NoText ?yS_TooMany_NoText ?o_TooMany_NoText ?yn_NoWay ?yc_NoWay ?yt_NoWay ?yo_NoWay ?yS_TooMany_NoWay ?o_TooMany_NoWay ?hqk
    (case a0 => k_is)
    (case l0 => k_is)
    (case c0 => k_is)
    (case k0 => k_is)
    (case a1 => k_is)
    (case l1 => k_is)
    (case c1 => k_is)
    (case k1 => k_is)
    (case a2 => k_is)
    (case l2 => k_is)
    (case c2 => k_is)
    (case k2 => k_is)
    (case a3 => k_is)
    (case l3 => k_is)
    (case c3 => k_is)
    (case k3 => k_is)
    (case a4 => k_is)
    (case l4 => k_is)
    (case c4 => k_is)
    (case k4 => k_is)
    (case a5 => k_is)
    (case l5 => k_is)
    (case c5 => k_is)
    (case k5 => k_is)
    (case a6 => k_is)
    (case l6 => k_is)
    (case c6 => k_is)
    (case k6 => k_is)
    (case a7 => k_is)
    (case l7 => k_is)
    (case c7 => k_is)
    (case k7 => k_is)
    (case a8 => k_is)
    (case l8 => k_is)
    (case c8 => k_is)
    (case k8 => k_is)
    (case a9 => k_is)
    (case l9 => k_is)
    (case c9 => k_is)
    (case k9 => k_is)
    (case a10 => k_is)
    (case l10 => k_is)
    (case c10 => k_is)
    (case k10 => k_is)
    (case a11 => k_is)
    (case l11 => k_is)
    (case c11 => k_is)
    (case k11 => k_is)
    (case a12 => k_is)
    (case l12 => k_is)
    (case c12 => k_is)
    (case k12 => k_is)
    (case a13 => k_is)
    (case l13 => k_is)
    (case c13 => k_is)
    (case k13 => k_is)
    (case a14 => k_is)
    (case l14 => k_is)
    (case c14 => k_is)
    (case k14 => k_is)
    (case a15 => k_is)
    (case l15 => k_is)
    (case c15 => k_is)
    (case k15 => k_is)
    (case a16 => k_is)
    (case l16 => k_is)
    (case c16 => k_is)
    (case k16 => k_is)
    (case a17 => k_is)
    (case l17 => k_is)
    (case c17 => k_is)
    (case k17 => k_is)
    (case z_abs => k_is)
    (case z_all => k_is)
    (case z_bool => k_is)
    (case z_enumerate => k_is)
    (case z_int => k_is)
    (case z_isinstance => k_is)
    (case z_len => k_is)
    (case z_list => k_is)
    (case z_range => k_is)
    (case z_repr => k_is)
    (case z_tuple => k_is)
    (case y_MOST_BITS => k_is)
    (case y_MOST_BOXES => k_is)
    (case y_SMALL => k_is)
    (case xN => k_is)
    (case xT => k_is)
    (case xn_TooMany => k_is)
    (case xx_TooMany => k_exc)
    (case xk_TooMany => k_is)
    (case xt_TooMany => k_is)
    (case xg_TooMany => k_is)
    (case xq_TooMany => k_is)
    (case xs_TooMany => k_is)
    (case xd_TooMany => k_is)
    (case xa_TooMany => k_is)
    (case xm_TooMany => k_is)
    (case xr1 => k_is)
    (case xr2 => k_is)
    (case xr3 => k_is)
    (case xr4 => k_is)
    (case xe_TooMany => k_is)
    (case yn_TooMany => k_is)
    (case yc_TooMany => k_is)
    (case yt_TooMany => k_is)
    (case yo_TooMany => k_is)
    (case yS_TooMany_TooMany => k_is)
    (case zx_ValueError => k_is)
    (case yV_TooMany => k_is)
    (case yn_Loose => k_is)
    (case yc_Loose => k_is)
    (case yt_Loose => k_is)
    (case yo_Loose => k_is)
    (case yS_TooMany_Loose => k_is)
    (case o_TooMany_Loose => decide)
    (case yn_Needed => k_is)
    (case yc_Needed => k_is)
    (case yt_Needed => k_is)
    (case yo_Needed => k_is)
    (case yS_TooMany_Needed => k_is)
    (case o_TooMany_Needed => decide)
    (case yn_NoBack => k_is)
    (case yc_NoBack => k_is)
    (case yt_NoBack => k_is)
    (case yo_NoBack => k_is)
    (case yS_TooMany_NoBack => k_is)
    (case o_TooMany_NoBack => decide)
    (case yn_NoBook => k_is)
    (case yc_NoBook => k_is)
    (case yt_NoBook => k_is)
    (case yo_NoBook => k_is)
    (case yS_TooMany_NoBook => k_is)
    (case o_TooMany_NoBook => decide)
    (case yn_NoFit => k_is)
    (case yc_NoFit => k_is)
    (case yt_NoFit => k_is)
    (case yo_NoFit => k_is)
    (case yS_TooMany_NoFit => k_is)
    (case o_TooMany_NoFit => decide)
    (case yn_NoName => k_is)
    (case yc_NoName => k_is)
    (case yt_NoName => k_is)
    (case yo_NoName => k_is)
    (case yS_TooMany_NoName => k_is)
    (case o_TooMany_NoName => decide)
    (case yn_NoRow => k_is)
    (case yc_NoRow => k_is)
    (case yt_NoRow => k_is)
    (case yo_NoRow => k_is)
    (case yS_TooMany_NoRow => k_is)
    (case o_TooMany_NoRow => decide)
    (case yn_NoStep => k_is)
    (case yc_NoStep => k_is)
    (case yt_NoStep => k_is)
    (case yo_NoStep => k_is)
    (case yS_TooMany_NoStep => k_is)
    (case o_TooMany_NoStep => decide)
    (case yn_NotPlain => k_is)
    (case yc_NotPlain => k_is)
    (case yt_NotPlain => k_is)
    (case yo_NotPlain => k_is)
    (case yS_TooMany_NotPlain => k_is)
    (case o_TooMany_NotPlain => decide)
    (case yn_NotSure => k_is)
    (case yc_NotSure => k_is)
    (case yt_NotSure => k_is)
    (case yo_NotSure => k_is)
    (case yS_TooMany_NotSure => k_is)
    (case o_TooMany_NotSure => decide)
    (case yn_NoText => k_is)
    (case yc_NoText => k_is)
    (case yt_NoText => k_is)
    (case yo_NoText => k_is)
    (case yS_TooMany_NoText => k_is)
    (case o_TooMany_NoText => decide)
    (case yn_NoWay => k_is)
    (case yc_NoWay => k_is)
    (case yt_NoWay => k_is)
    (case yo_NoWay => k_is)
    (case yS_TooMany_NoWay => k_is)
    (case o_TooMany_NoWay => decide)
    (case hqk => rfl)
  case cs =>
    intro p hp
    simp only [List.mem_cons, List.not_mem_nil, or_false] at hp ⊢
    rcases hp with rfl <;> simp
  case nT =>
    intro w p hp
    simp only [List.mem_cons, List.not_mem_nil, or_false] at hp
    rcases hp with rfl <;> rfl
  case C =>
    intro w p hp
    simp only [List.mem_cons, List.not_mem_nil, or_false] at hp
    rcases hp with rfl <;> rfl
  case hQ => exact fun w => rfl
