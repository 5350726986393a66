import PyProof.Rows.All
import Wide.All
import OpenK.AllK
import Wide.FinOn
import HandS.ForMost
import HandS.Flow
import HandS.TupAny
import HandS.TupMul
import HandS.Deep
import HandS.Wide
import HandS.WideBits
import HandS.Zip
import HandS.IsInst
import HandS.Replace
import PyProof.ReprRoads
import HandS.SortInts
import HandS.Exc
import HandS.ExcOwn
import HandS.ExcIs
import HandS.TryOnly
import HandS.Lambda
import HandS.WordsExc
import KE.KExcIs
import KE.KNestM
import PyProof.CodeObj
import HandS.SetFor
import HandS.Style
import PyProof.ReprLen
import KE.GoesMore
import KE.GoesEnum
import HandS.Strs
import HandS.SortKw
import KE.DataMinMax
import PyProof.Rows.SumAny
import HandS.Conv
import HandS.Dict
import HandS.DictComp
import HandS.More
import PyProof.DictUpdate
import KE.DataFind
import KE.KSlice
import PyProof.StrOps2
import PySem.Challenge.RW_rowkinds_k07_sums_of_lots
set_option Elab.async false
set_option linter.all false
set_option maxRecDepth 100000
set_option maxHeartbeats 4000000
/-! Z: a layer of plain data over the hand layer. -/
namespace Z
open PySem L2
abbrev D := PyData
/-- a list that is read: tracked, locked, or a plain one of the written part -/
def SqP (K : PySem.W.Frag) (H : Hp) (a : Addr) (xs : List V) : Prop :=
  Rd H a (.lst xs) ∨ ∃ its : List Value, K.lookup a = some { cls := .type "list", data := .seq its.toArray } ∧ xs.length ≤ sizeLine ∧ Vals xs its
theorem SqP.sql {K : PySem.W.Frag} {H : Hp} {a : Addr} {xs : List V} (h : SqP K H a xs) : SqL K H a xs := by
  rcases h with h | ⟨its, h, hz, r⟩
  · exact .inl h
  · exact .inr ⟨_, its.toArray, 0, h, rfl, rfl, rfl, by rw [List.size_toArray, ← r.length]; exact hz, by simpa using r⟩
/-- a tuple that is read: tracked, or a plain one of the written part -/
def SqTP (K : PySem.W.Frag) (H : Hp) (a : Addr) (xs : List V) : Prop :=
  H a = some (.tup xs) ∨
    ∃ (o : Obj) (its : Array Value) (n : Nat), K.lookup a = some o ∧ o.cls = .type "tuple" ∧ o.data = .seq its n ∧ its.size ≤ sizeLine ∧ Vals xs its.toList ∧ xs ≠ []
theorem SqTP.sqt {K : PySem.W.Frag} {H : Hp} {a : Addr} {xs : List V} (h : SqTP K H a xs) : SqT K H a xs := h.imp .inl fun ⟨o, its, n, h1, h2, h3, h4, h5, _⟩ => ⟨o, its, n, h1, h2, h3, h4, h5⟩
mutual
/-- the value v tells the data d, in what never changes (G) -/
inductive Rp (K : PySem.W.Frag) (G : Hp) : V → D → Prop
  | non : Rp K G .non .none
  | bl (b : Bool) : Rp K G (.bl b) (.bool b)
  | int (i : Int) : Rp K G (.int i) (.int i)
  | str (x : Str) : Rp K G (.str x) (.str x)
  | lst {a : Addr} {xs : List V} {ds : List D} : SqP K G a xs → RpAll K G xs ds → Rp K G (.ref a) (.list ds)
  | tup {a : Addr} {xs : List V} {ds : List D} : SqTP K G a xs → RpAll K G xs ds → Rp K G (.ref a) (.tuple ds)
  | emp {a : Addr} : G a = some (.dK []) → Rp K G (.ref a) (.dict [])
  /-- an exception's object; one with a dict of its own -/
  | exc {a C : Addr} {φ : Heap → Prop} : G a = some (.ext φ) → (∀ h, φ h → ∃ (ob : Obj) (fs : Array Value), h.get? a = some ob ∧ (ob.cls = .ref C ∧ ob.dict = none) ∧ ob.data = .fields fs) → Rp K G (.ref a) (.dict [(.none, .int (C : Nat))])
  | exf {a dx C : Addr} {φ : Heap → Prop} {ks : List Str} {vs : List V} {ds : List D} : G a = some (.ext φ) → (∀ h, φ h → ∃ (ob : Obj) (fs : Array Value), h.get? a = some ob ∧ (ob.cls = .ref C ∧ ob.dict = some dx) ∧ ob.data = .fields fs) →
      G dx = some (.xd (ks.zip vs)) → RpAll K G vs ds → Rp K G (.ref a) (.dict ((.none, .int (C : Nat)) :: (ks.map PyData.str).zip ds))
  /-- a def as a value -/
  | fn {a : Addr} : Rp K G (.ref a) (.dict [(.bool true, .int (a : Nat))])
inductive RpAll (K : PySem.W.Frag) (G : Hp) : List V → List D → Prop
  | nil : RpAll K G [] []
  | cons {v : V} {vs : List V} {d : D} {ds : List D} : Rp K G v d → RpAll K G vs ds → RpAll K G (v :: vs) (d :: ds)
end
theorem same_seqT {K : PySem.W.Frag} {H H' : Hp} {a : Addr} {xs : List V} (e : Same H H') (h : SqTP K H a xs) : SqT K H' a xs :=
  h.imp (fun h => .inl (e _ _ h)) fun ⟨o, its, n, h1, h2, h3, h4, h5, _⟩ => ⟨o, its, n, h1, h2, h3, h4, h5⟩
theorem same_rd {H H' : Hp} {a : Addr} {u : HO} (e : Same H H') (h : Rd H a u) : Rd H' a u := by
  rcases h with h | ⟨o, h⟩
  · exact .inl (e _ _ h)
  · exact .inr ⟨o, e _ _ h⟩
theorem same_sqp {K : PySem.W.Frag} {H H' : Hp} {a : Addr} {xs : List V} (e : Same H H') (h : SqP K H a xs) : SqP K H' a xs := by
  rcases h with h | h
  · exact .inl (same_rd e h)
  · exact .inr h
section
variable {K : PySem.W.Frag} {G G' : Hp}
theorem Rp.mono (e : Same G G') {v : V} {d : D} (h : Rp K G v d) : Rp K G' v d :=
  Rp.rec (motive_1 := fun v d _ => Rp K G' v d) (motive_2 := fun vs ds _ => RpAll K G' vs ds) .non (fun b => .bl b) (fun i => .int i) (fun x => .str x) (fun h _ a => .lst (same_sqp e h) a)
    (fun h _ a => .tup (h.imp (e _ _) id) a) (fun h => .emp (e _ _ h)) (fun h z => .exc (e _ _ h) z) (fun h z h2 _ a => .exf (e _ _ h) z (e _ _ h2) a) .fn .nil (fun _ _ r a => .cons r a) h
/-- what is all of a list, by its items -/
theorem RpAll.ind {Q : List V → List D → Prop} (n : Q [] []) (c : ∀ {v vs d ds}, Rp K G v d → RpAll K G vs ds → Q vs ds → Q (v :: vs) (d :: ds)) {vs : List V} {ds : List D} (h : RpAll K G vs ds) : Q vs ds :=
  RpAll.rec (motive_1 := fun _ _ _ => True) (motive_2 := fun vs ds _ => Q vs ds) trivial (fun _ => trivial) (fun _ => trivial) (fun _ => trivial) (fun _ _ _ => trivial) (fun _ _ _ => trivial) (fun _ => trivial) (fun _ _ => trivial)
    (fun _ _ _ _ _ => trivial) trivial n (fun r t _ q => c r t q) h
theorem RpAll.mono (e : Same G G') {vs : List V} {ds : List D} (h : RpAll K G vs ds) : RpAll K G' vs ds :=
  RpAll.ind (Q := fun vs ds => RpAll K G' vs ds) .nil (fun r _ q => .cons (Rp.mono e r) q) h
theorem RpAll.length {vs : List V} {ds : List D} (h : RpAll K G vs ds) : vs.length = ds.length :=
  RpAll.ind (Q := fun vs ds => vs.length = ds.length) rfl (fun _ _ q => congrArg Nat.succ q) h
theorem RpAll.getD {vs : List V} {ds : List D} {i : Nat} {d : D} (h : RpAll K G vs ds) (e : ds[i]? = some d) : ∃ v, vs[i]? = some v ∧ Rp K G v d :=
  RpAll.ind (Q := fun vs ds => ∀ i d, ds[i]? = some d → ∃ v, vs[i]? = some v ∧ Rp K G v d) (fun _ _ e => by simp at e) (fun r _ q i v e => by
    cases i with
    | zero => cases e; exact ⟨_, rfl, r⟩
    | succ i => exact q i v e) h i d e
theorem RpAll.append {vs ws : List V} {ds es : List D} (h : RpAll K G vs ds) (s : RpAll K G ws es) : RpAll K G (vs ++ ws) (ds ++ es) :=
  RpAll.ind (Q := fun vs ds => RpAll K G (vs ++ ws) (ds ++ es)) s (fun r _ q => .cons r q) h
theorem RpAll.take {vs : List V} {ds : List D} (n : Nat) (h : RpAll K G vs ds) : RpAll K G (vs.take n) (ds.take n) :=
  RpAll.ind (Q := fun vs ds => ∀ n, RpAll K G (vs.take n) (ds.take n)) (fun n => by rw [List.take_nil, List.take_nil]; exact .nil) (fun r _ q n => by
    cases n with
    | zero => exact .nil
    | succ n => exact .cons r (q n)) h n
theorem RpAll.drop {vs : List V} {ds : List D} (n : Nat) (h : RpAll K G vs ds) : RpAll K G (vs.drop n) (ds.drop n) :=
  RpAll.ind (Q := fun vs ds => ∀ n, RpAll K G (vs.drop n) (ds.drop n)) (fun n => by rw [List.drop_nil, List.drop_nil]; exact .nil) (fun r t q n => by
    cases n with
    | zero => exact .cons r t
    | succ n => exact q n) h n
theorem RpAll.set {v : V} {d : D} (r : Rp K G v d) {vs : List V} {ds : List D} (i : Nat) (h : RpAll K G vs ds) : RpAll K G (vs.set i v) (ds.set i d) :=
  RpAll.ind (Q := fun vs ds => ∀ i, RpAll K G (vs.set i v) (ds.set i d)) (fun _ => .nil) (fun q t s i => by
    cases i with
    | zero => exact .cons r t
    | succ i => exact .cons q (s i)) h i
theorem RpAll.reverse {vs : List V} {ds : List D} (h : RpAll K G vs ds) : RpAll K G vs.reverse ds.reverse :=
  RpAll.ind (Q := fun vs ds => RpAll K G vs.reverse ds.reverse) .nil (fun r _ q => by
    rw [List.reverse_cons, List.reverse_cons]
    exact q.append (.cons r .nil)) h
/-- what can be laid has no dicts -/
theorem Rp.dp {v : V} {d : D} (h : Rp K G v d) : d.canLay0 = true → Dp K G v d :=
  Rp.rec (motive_1 := fun v d _ => d.canLay0 = true → Dp K G v d) (motive_2 := fun vs ds _ => PyData.canLayAll0 ds = true → DpAll K G vs ds) (fun _ => .non) (fun b _ => .bl b) (fun i _ => .int i) (fun x _ => .str x)
    (fun h _ q c => .lst h.sql (q (by rw [PyData.canLay0] at c; exact c))) (fun h _ q c => .tup h.sqt (q (by rw [PyData.canLay0] at c; exact c))) (fun _ c => by rw [PyData.canLay0] at c; cases c)
    (fun _ _ c => by rw [PyData.canLay0] at c; cases c) (fun _ _ _ _ _ c => by rw [PyData.canLay0] at c; cases c) (fun c => by rw [PyData.canLay0] at c; cases c) (fun _ => .nil)
    (fun _ _ q t c => by rw [PyData.canLayAll0, Bool.and_eq_true] at c; exact .cons (q c.1) (t c.2)) h
theorem RpAll.dp {vs : List V} {ds : List D} (h : RpAll K G vs ds) (c : PyData.canLayAll0 ds = true) : DpAll K G vs ds :=
  RpAll.ind (Q := fun vs ds => PyData.canLayAll0 ds = true → DpAll K G vs ds) (fun _ => .nil) (fun r _ q c => by rw [PyData.canLayAll0, Bool.and_eq_true] at c; exact .cons (r.dp c.1) (q c.2)) h c
end
/-! ### the store: what the defs share and change -/
structure Sto where
  T : Type
  /-- where tables of code objects may stand -/
  tb : Addr → Prop
  R : PySem.W.Frag → T → Hp → (Addr → Prop) → Hp → Prop
  st : ∀ {K t G G' F H H'}, R K t G F H → Same G G' → (∀ a, F a → H' a = H a) → R K t G' F H'
/-- from one state to a later one: what is said for ever grows, what isn't the store's stands -/
def NewT (F : Addr → Prop) (H : Hp) (a : Addr) : Prop := H a = none ∨ (∃ vs, H a = some (.tup vs)) ∧ ¬ F a
structure Step (G : Hp) (F : Addr → Prop) (H G' : Hp) (F' : Addr → Prop) (H' : Hp) : Prop where
  g : Same G G'
  h : ∀ a o, ¬ F a → H a = some o → H' a = some o
  gn : ∀ a o, G' a = some o → G a = some o ∨ NewT F H a
  fn : ∀ a, F' a → F a ∨ H a = none
  ff : ∀ a, F a → F' a
  dom : ∀ a, H a ≠ none → H' a ≠ none
structure Ok (S : Sto) (K : PySem.W.Frag) (t : S.T) (G : Hp) (F : Addr → Prop) (H : Hp) : Prop where
  same : Same G H
  gf : ∀ a, F a → G a = none
  fh : ∀ a, F a → H a ≠ none
  r : S.R K t G F H
  nt : ∀ a ps, H a = some (.tbl ps) → S.tb a
  nx : ∀ a φ, H a = some (.ext φ) → G a = some (.ext φ)
theorem Step.refl (G : Hp) (F : Addr → Prop) (H : Hp) : Step G F H G F H :=
  ⟨Same.refl G, fun _ _ _ h => h, fun _ _ h => .inl h, fun _ h => .inl h, fun _ h => h, fun _ h => h⟩
theorem Step.trans {G F H G1 F1 H1 G2 F2 H2} (a : Step G F H G1 F1 H1) (b : Step G1 F1 H1 G2 F2 H2) : Step G F H G2 F2 H2 where
  g := a.g.trans b.g
  h := fun p o nf e => by
    refine b.h p o (fun z => ?_) (a.h p o nf e)
    rcases a.fn p z with z | z
    · exact nf z
    · rw [z] at e; cases e
  gn := fun p o e => by
    rcases b.gn p o e with z | z
    · exact a.gn p o z
    · refine .inr ?_
      rcases z with z | ⟨⟨vs, z⟩, nf⟩
      · exact .inl (Classical.byContradiction fun q => a.dom p q z)
      · have nf' : ¬ F p := fun y => nf (a.ff p y)
        cases q : H p with
        | none => exact .inl q
        | some u =>
          have := a.h p u nf' q
          rw [z] at this
          cases this
          exact .inr ⟨⟨vs, q⟩, nf'⟩
  fn := fun p e => by
    rcases b.fn p e with z | z
    · exact a.fn p z
    · exact .inr (Classical.byContradiction fun q => a.dom p q z)
  ff := fun p e => b.ff p (a.ff p e)
  dom := fun p e => b.dom p (a.dom p e)
/-- a new object that will never change -/
theorem Step.new {G F H p o} (n : H p = none) (s : Same G H) (nf : ∀ a, F a → H a ≠ none) : Step G F H (upd G p o) F (upd H p o) where
  g := fun a u e => by
    have : a ≠ p := ne_of_none (s a u e) n
    rw [upd_ne this]; exact e
  h := fun a u _ e => by rw [upd_ne (ne_of_none e n)]; exact e
  gn := fun a u e => by
    by_cases q : a = p
    · subst q; exact .inr (.inl n)
    · rw [upd_ne q] at e; exact .inl e
  fn := fun a e => .inl e
  ff := fun a e => e
  dom := fun a e => by
    by_cases q : a = p
    · subst q; exact absurd n e
    · rw [upd_ne q]; exact e
/-- a new object that may change -/
theorem Step.alloc {G F H p o} (n : H p = none) : Step G F H G F (upd H p o) where
  g := Same.refl G
  h := fun a u _ e => by rw [upd_ne (ne_of_none e n)]; exact e
  gn := fun a u e => .inl e
  fn := fun a e => .inl e
  ff := fun a e => e
  dom := fun a e => by
    by_cases q : a = p
    · subst q; exact absurd n e
    · rw [upd_ne q]; exact e
section
variable {S : Sto} {K : PySem.W.Frag} {t : S.T} {G G' H H' : Hp} {F : Addr → Prop} {p : Addr} {o : HO}
theorem Ok.nt' (k : Ok S K t G F H) (n : ∀ ps, o ≠ .tbl ps) : ∀ a ps, (upd H p o) a = some (.tbl ps) → S.tb a := fun a ps e => by
  by_cases q : a = p
  · subst q; rw [upd_same] at e; exact absurd (Option.some.inj e) (n ps)
  · rw [upd_ne q] at e; exact k.nt a ps e
theorem Ok.nx' (k : Ok S K t G F H) (n : ∀ φ, o ≠ .ext φ) : ∀ a φ, (upd H p o) a = some (.ext φ) → G a = some (.ext φ) := fun a φ e => by
  by_cases q : a = p
  · subst q; rw [upd_same] at e; exact absurd (Option.some.inj e) (n φ)
  · rw [upd_ne q] at e; exact k.nx a φ e
theorem Ok.new (k : Ok S K t G F H) (n : H p = none) (nt : ∀ ps, o ≠ .tbl ps := by intro _ z; cases z) : Ok S K t (upd G p o) F (upd H p o) where
  nt := k.nt' nt
  nx := fun a φ e => by
    by_cases q : a = p
    · subst q; rw [upd_same] at e ⊢; exact e
    · rw [upd_ne q] at e ⊢; exact k.nx a φ e
  same := fun a u e => by
    by_cases q : a = p
    · subst q; rw [upd_same] at e ⊢; exact e
    · rw [upd_ne q] at e ⊢; exact k.same a u e
  gf := fun a e => by
    have : a ≠ p := fun z => by subst z; exact k.fh _ e n
    rw [upd_ne this]; exact k.gf a e
  fh := fun a e => by
    have : a ≠ p := fun z => by subst z; exact k.fh _ e n
    rw [upd_ne this]; exact k.fh a e
  r := S.st k.r (Step.new (F := F) (o := o) n k.same k.fh).g fun a e => by
    have : a ≠ p := fun z => by subst z; exact k.fh _ e n
    rw [upd_ne this]
theorem Ok.alloc (k : Ok S K t G F H) (n : H p = none) (nt : ∀ ps, o ≠ .tbl ps := by intro _ z; cases z) (nx : ∀ φ, o ≠ .ext φ := by intro _ z; cases z) : Ok S K t G F (upd H p o) where
  nt := k.nt' nt
  nx := k.nx' nx
  same := fun a u e => by rw [upd_ne (ne_of_none (k.same a u e) n)]; exact k.same a u e
  gf := k.gf
  fh := fun a e => by
    have : a ≠ p := fun z => by subst z; exact k.fh _ e n
    rw [upd_ne this]; exact k.fh a e
  r := S.st k.r (Same.refl G) fun a e => by
    have : a ≠ p := fun z => by subst z; exact k.fh _ e n
    rw [upd_ne this]
/-- an object that is neither the store's nor said for ever is changed -/
theorem Ok.mut (k : Ok S K t G F H) (n : G p = none) (nf : ¬ F p) (nt : ∀ ps, o ≠ .tbl ps := by intro _ z; cases z) (nx : ∀ φ, o ≠ .ext φ := by intro _ z; cases z) : Ok S K t G F (upd H p o) where
  nt := k.nt' nt
  nx := k.nx' nx
  same := fun a u e => by rw [upd_ne (ne_of_none e n)]; exact k.same a u e
  gf := k.gf
  fh := fun a e => by
    have : a ≠ p := fun z => by subst z; exact nf e
    rw [upd_ne this]; exact k.fh a e
  r := S.st k.r (Same.refl G) fun a e => by
    have : a ≠ p := fun z => by subst z; exact nf e
    rw [upd_ne this]
/-- an object of one's own is said for ever from now on -/
theorem Ok.frz (k : Ok S K t G F H) (e : H p = some o) (n : G p = none) (nf : ¬ F p) : Ok S K t (upd G p o) F H where
  nt := k.nt
  nx := fun a φ z => by
    by_cases q : a = p
    · subst q; rw [upd_same]; rw [e] at z; exact z
    · rw [upd_ne q]; exact k.nx a φ z
  same := fun a u z => by
    by_cases q : a = p
    · subst q; rw [upd_same] at z; cases z; exact e
    · rw [upd_ne q] at z; exact k.same a u z
  gf := fun a z => by
    have : a ≠ p := fun z' => by subst z'; exact nf z
    rw [upd_ne this]; exact k.gf a z
  fh := k.fh
  r := S.st k.r (fun a u z => by rw [upd_ne (ne_of_none z n)]; exact z) fun a _ => rfl
end
/-! ### what slots and results hold -/
inductive SV where
  /-- nothing that is known -/
  | no
  /-- data -/
  | d (x : D)
  /-- a list of one's own -/
  | ol (xs : List D)
  /-- a list of one's own, looked at -/
  | vw (xs : List D)
  /-- a value as it is -/
  | raw (v : V)
/-- a list that is read -/
def SV.lst? : SV → Option (List D)
  | .d (.list xs) => some xs
  | .ol xs => some xs
  | .vw xs => some xs
  | _ => none
/-- a list of one's own at p: neither said for ever, nor the store's -/
structure Own (K : PySem.W.Frag) (H0 G : Hp) (F : Addr → Prop) (H : Hp) (p : Addr) (xs : List D) : Prop where
  at' : ∃ vs, H p = some (.lst vs) ∧ RpAll K G vs xs
  g : G p = none
  f : ¬ F p
  new : H0 p = none
theorem Own.step {K : PySem.W.Frag} {H0 G F H G' F' H' p xs} (o : Own K H0 G F H p xs) (s : Step G F H G' F' H') : Own K H0 G' F' H' p xs := by
  obtain ⟨⟨vs, e, a⟩, g, f, n⟩ := o
  refine ⟨⟨vs, s.h p _ f e, a.mono s.g⟩, ?_, fun z => ?_, n⟩
  · cases q : G' p with
    | none => rfl
    | some u =>
      rcases s.gn p u q with z | z
      · rw [g] at z; cases z
      · rcases z with z | ⟨⟨_, z⟩, _⟩
        · rw [e] at z; cases z
        · rw [e] at z; cases z
  · rcases s.fn p z with z | z
    · exact f z
    · rw [e] at z; cases z
/-- a slot -/
def SvR (K : PySem.W.Frag) (H0 G : Hp) (F : Addr → Prop) (H : Hp) : SV → Option V → Prop
  | .no, _ => True
  | .d x, o => ∃ v, o = some v ∧ Rp K G v x
  | .ol xs, o => ∃ p, o = some (.ref p) ∧ Own K H0 G F H p xs
  | .vw _, _ => False
  | .raw v, o => o = some v
theorem SvR.step {K : PySem.W.Frag} {H0 G F H G' F' H' o} (st : Step G F H G' F' H') : ∀ {s : SV}, SvR K H0 G F H s o → SvR K H0 G' F' H' s o
  | .no, _ => trivial
  | .d _, ⟨v, e, r⟩ => ⟨v, e, r.mono st.g⟩
  | .ol _, ⟨p, e, w⟩ => ⟨p, e, w.step st⟩
  | .vw _, h => h.elim
  | .raw _, h => h
structure EnvR (K : PySem.W.Frag) (H0 G : Hp) (F : Addr → Prop) (H : Hp) (σ : L2.St) (env : List SV) : Prop where
  len : σ.length = env.length
  at' : ∀ (i : Nat) (s : SV), env[i]? = some s → SvR K H0 G F H s (σ[i]?.join)
  sep : ∀ (i j : Nat) (xs ys : List D), i ≠ j → env[i]? = some (.ol xs) → env[j]? = some (.ol ys) → σ[i]?.join ≠ σ[j]?.join
theorem EnvR.step {K : PySem.W.Frag} {H0 G F H G' F' H' σ env} (e : EnvR K H0 G F H σ env) (st : Step G F H G' F' H') : EnvR K H0 G' F' H' σ env :=
  ⟨e.len, fun i s h => (e.at' i s h).step st, e.sep⟩
/-- a result: H is the heap ahead -/
def Res (K : PySem.W.Frag) (Ha G : Hp) (F : Addr → Prop) (H : Hp) : SV → V → Prop
  | .no, _ => False
  | .d x, v => Rp K G v x
  | .ol xs, v => ∃ p, v = .ref p ∧ Own K Ha G F H p xs
  | .vw xs, v => ∃ p vs, v = .ref p ∧ H p = some (.lst vs) ∧ RpAll K G vs xs ∧ ¬ F p
  | .raw u, v => v = u
theorem Res.step {K : PySem.W.Frag} {Ha G F H G' F' H' v} (st : Step G F H G' F' H') {s : SV} (h : Res K Ha G F H s v) : Res K Ha G' F' H' s v := by
  cases s with
  | no => exact h.elim
  | raw _ => exact h
  | d x => exact Rp.mono st.g h
  | ol xs =>
    obtain ⟨p, e, w⟩ := h
    exact ⟨p, e, w.step st⟩
  | vw xs =>
    obtain ⟨p, vs, e, e2, a, nf⟩ := h
    refine ⟨p, vs, e, st.h p _ nf e2, a.mono st.g, fun z => ?_⟩
    rcases st.fn p z with z | z
    · exact nf z
    · rw [e2] at z; cases z
/-- the heap ahead may be an earlier one -/
theorem Res.back {K : PySem.W.Frag} {Ha Hb G F H v} (b : ∀ a, Ha a = none → Hb a = none) {s : SV} (h : Res K Ha G F H s v) : Res K Hb G F H s v := by
  cases s with
  | ol xs =>
    obtain ⟨p, e, w⟩ := h
    exact ⟨p, e, w.at', w.g, w.f, b p w.new⟩
  | _ => exact h
/-- what is read as a list -/
theorem Res.sql {K : PySem.W.Frag} {Ha G F H v} (sm : Same G H) {s : SV} {xs : List D} (h : Res K Ha G F H s v) (z : s.lst? = some xs) : ∃ p vs, v = .ref p ∧ SqP K H p vs ∧ RpAll K G vs xs := by
  cases s with
  | no => exact h.elim
  | raw _ => cases z
  | ol _ =>
    obtain ⟨p, e, w⟩ := h
    cases z
    obtain ⟨vs, e2, a⟩ := w.at'
    exact ⟨p, vs, e, .inl (.inl e2), a⟩
  | vw _ =>
    obtain ⟨p, vs, e, e2, a, _⟩ := h
    cases z
    exact ⟨p, vs, e, .inl (.inl e2), a⟩
  | d x =>
    have hr : Rp K G v x := h
    clear h
    cases hr with
    | lst h a => cases z; exact ⟨_, _, rfl, same_sqp sm h, a⟩
    | _ => cases z
/-! ### where a def stands -/
structure Bk where
  S : Sto
  K : PySem.W.Frag
  G : Hp
  F : Addr → Prop
  H : Hp
abbrev Bk.T (B : Bk) := B.S.T
structure StR (B : Bk) (G : Hp) (F : Addr → Prop) (σ : L2.St) (H : Hp) (env : List SV) (τ : B.T) : Prop where
  s : Step B.G B.F B.H G F H
  k : Ok B.S B.K τ G F H
  e : EnvR B.K B.H G F H σ env
theorem StR.step {B : Bk} {G F σ H env τ G' F' H' τ'} (s : StR B G F σ H env τ) (st : Step G F H G' F' H') (k : Ok B.S B.K τ' G' F' H') : StR B G' F' σ H' env τ' :=
  ⟨s.s.trans st, k, s.e.step st⟩
/-- readings by data -/
abbrev W (T : Type) := List SV → T → (SV → T → Prop) → Prop
abbrev WT (T : Type) := List SV → T → (Bool → T → Prop) → Prop
abbrev WA (T : Type) := List SV → T → (List SV → T → Prop) → Prop
structure Fin (B : Bk) (G : Hp) (F : Addr → Prop) (H : Hp) (τ' : B.T) (G' : Hp) (F' : Addr → Prop) (H' : Hp) : Prop where
  s : Step G F H G' F' H'
  k : Ok B.S B.K τ' G' F' H'
theorem Fin.trans {B : Bk} {G F H τ1 G1 F1 H1 τ2 G2 F2 H2} (a : Fin B G F H τ1 G1 F1 H1) (b : Fin B G1 F1 H1 τ2 G2 F2 H2) : Fin B G F H τ2 G2 F2 H2 := ⟨a.s.trans b.s, b.k⟩
theorem StR.fin {B : Bk} {G F σ H env τ G' F' H' τ'} (s : StR B G F σ H env τ) (f : Fin B G F H τ' G' F' H') : StR B G' F' σ H' env τ' := s.step f.s f.k
theorem StR.refl {B : Bk} {G F σ H env τ} (s : StR B G F σ H env τ) : Fin B G F H τ G F H := ⟨Step.refl _ _ _, s.k⟩
def lift (B : Bk) (t : W B.T) : TE := fun σ H Q => ∃ G F env τ Qd, StR B G F σ H env τ ∧ t env τ Qd ∧
  ∀ r τ' G' F' H' v, Fin B G F H τ' G' F' H' → Res B.K H G' F' H' r v → Qd r τ' → Q v H'
def liftT (B : Bk) (t : WT B.T) : TT := fun σ H Q => ∃ G F env τ Qd, StR B G F σ H env τ ∧ t env τ Qd ∧
  ∀ b τ' G' F' H', Fin B G F H τ' G' F' H' → Qd b τ' → Q b H'
/-- each of several results -/
inductive ResAll (K : PySem.W.Frag) (Ha G : Hp) (F : Addr → Prop) (H : Hp) : List SV → List V → Prop
  | nil : ResAll K Ha G F H [] []
  | cons {r : SV} {rs : List SV} {v : V} {vs : List V} : Res K Ha G F H r v → ResAll K Ha G F H rs vs → ResAll K Ha G F H (r :: rs) (v :: vs)
theorem ResAll.back {K : PySem.W.Frag} {Ha Hb G F H} (b : ∀ a, Ha a = none → Hb a = none) : ∀ {rs : List SV} {vs : List V}, ResAll K Ha G F H rs vs → ResAll K Hb G F H rs vs
  | _, _, .nil => .nil
  | _, _, .cons r t => .cons (r.back b) (t.back b)
theorem ResAll.length {K : PySem.W.Frag} {Ha G F H} : ∀ {rs : List SV} {vs : List V}, ResAll K Ha G F H rs vs → rs.length = vs.length
  | _, _, .nil => rfl
  | _, _, .cons _ t => congrArg Nat.succ t.length
def liftA (B : Bk) (t : WA B.T) : TA := fun σ H Q => ∃ G F env τ Qd, StR B G F σ H env τ ∧ t env τ Qd ∧
  ∀ rs τ' G' F' H' vs, Fin B G F H τ' G' F' H' → ResAll B.K H G' F' H' rs vs → Qd rs τ' → Q vs H'
/-- one elimination for all of these -/
theorem ex53 {α β γ δ ε : Sort _} {P A B : α → β → γ → δ → ε → Prop} {R : Prop} (h : ∃ a b c d e, P a b c d e ∧ A a b c d e ∧ B a b c d e)
    (k : ∀ a b c d e, P a b c d e → A a b c d e → B a b c d e → R) : R := by
  obtain ⟨a, b, c, d, e, h1, h2, h3⟩ := h
  exact k a b c d e h1 h2 h3
theorem dead {H H' : Hp} (d : ∀ a, H a ≠ none → H' a ≠ none) (a : Addr) (n : H' a = none) : H a = none :=
  Classical.byContradiction fun q => d a q n
section
variable {X : Cx} {e : Expr} {t t' : TE}
theorem pe_imp (h : PE X e t) (i : ∀ σ H Q, t' σ H Q → t σ H Q) : PE X e t' := ⟨fun pins s σ H Q I z => h.run pins s σ H Q I (i σ H Q z)⟩
theorem pt_imp {t t' : TT} (h : PT X e t) (i : ∀ σ H Q, t' σ H Q → t σ H Q) : PT X e t' := ⟨fun pins s σ H Q I z => h.run pins s σ H Q I (i σ H Q z)⟩
theorem pa_imp {es : List Expr} {t t' : TA} (h : PA X es t) (i : ∀ σ H Q, t' σ H Q → t σ H Q) : PA X es t' := ⟨fun pos pins s σ H Q I z => h.run pos pins s σ H Q I (i σ H Q z)⟩
theorem ps_imp {st : Stmt} {t t' : TS} (h : PS X st t) (i : ∀ D σ H, t' D σ H → t D σ H) : PS X st t' := ⟨fun pins s σ H D I z => h.run pins s σ H D I (i D σ H z)⟩
theorem pss_imp {st : List Stmt} {t t' : TS} (h : PSs X st t) (i : ∀ D σ H, t' D σ H → t D σ H) : PSs X st t' := ⟨fun pins s σ H D I z => h.run pins s σ H D I (i D σ H z)⟩
end
/-! ### names, constants -/
section
variable {X : Cx} {B : Bk} {e : Expr}
/-- the name in slot i -/
def kV {T : Type} (Q : SV → T → Prop) (τ : T) : Option SV → Prop
  | some (.d x) => Q (.d x) τ
  | some (.ol xs) => Q (.vw xs) τ
  | some (.raw v) => Q (.raw v) τ
  | _ => False
def dVar {T : Type} (i : Nat) : W T := fun env τ Q => kV Q τ env[i]?
theorem de_var {i : Nat} (h : PE X e (tVar i)) : PE X e (lift B (dVar i)) := by
  refine pe_imp h fun σ H Q z9 => ex53 z9 fun G F env τ Qd s t k => ?_
  have t : kV Qd τ env[i]? := t
  cases q : env[i]? with
  | none => rw [q] at t; exact False.elim t
  | some sv =>
    rw [q] at t
    have r := s.e.at' i sv q
    cases sv with
    | no => exact False.elim t
    | vw _ => exact False.elim t
    | d x =>
      obtain ⟨v, e1, r⟩ := r
      have e2 : σ[i]? = some (some v) := by
        cases z : σ[i]? with
        | none => rw [z] at e1; cases e1
        | some o => rw [z] at e1; exact congrArg some e1
      exact ⟨v, e2, k (.d x) _ _ _ _ _ s.refl r t⟩
    | ol xs =>
      obtain ⟨p, e1, w⟩ := r
      have e2 : σ[i]? = some (some (.ref p)) := by
        cases z : σ[i]? with
        | none => rw [z] at e1; cases e1
        | some o => rw [z] at e1; exact congrArg some e1
      obtain ⟨vs, h1, h2⟩ := w.at'
      exact ⟨_, e2, k (.vw xs) _ _ _ _ _ s.refl ⟨p, vs, rfl, h1, h2, w.f⟩ t⟩
    | raw v =>
      have e1 : σ[i]?.join = some v := r
      have e2 : σ[i]? = some (some v) := by
        cases z : σ[i]? with
        | none => rw [z] at e1; cases e1
        | some o => rw [z] at e1; exact congrArg some e1
      exact ⟨v, e2, k (.raw v) _ _ _ _ _ s.refl rfl t⟩
/-- what is always the same data -/
def dC {T : Type} (x : D) : W T := fun _ τ Q => Q (.d x) τ
theorem de_c {v : V} {x : D} (h : PE X e (tC v)) (r : ∀ G, Rp B.K G v x) : PE X e (lift B (dC x)) :=
  pe_imp h fun σ H Q z9 => ex53 z9 fun G F env τ Qd s t k => k (.d x) _ _ _ _ _ s.refl (r G) t
theorem de_int {i j pos} : PE X (.Constant (.int i) j pos) (lift B (dC (.int i))) := de_c pe_int fun _ => .int i
theorem de_bl {b j pos} : PE X (.Constant (.bool b) j pos) (lift B (dC (.bool b))) := de_c pe_bl fun _ => .bl b
def dRaw {T : Type} (v : V) : W T := fun _ τ Q => Q (.raw v) τ
theorem de_raw {v : V} (h : PE X e (tC v)) : PE X e (lift B (dRaw v)) :=
  pe_imp h fun σ H Q z9 => ex53 z9 fun G F env τ Qd s t k => k (.raw v) _ _ _ _ _ s.refl rfl t
end
end Z
namespace Z
open PySem L2
/-- what follows a result -/
abbrev FinT (B : Bk) (G : Hp) (F : Addr → Prop) (H : Hp) (τ : B.T) (Qv : SV → Prop) (Q : VK) : Prop := ∀ z G' F' H' v, Fin B G F H τ G' F' H' → Res B.K H G' F' H' z v → Qv z → Q v H'
section
variable {B : Bk} {G : Hp} {F : Addr → Prop} {H : Hp} {τ : B.T} {Qv : SV → Prop} {Q : VK}
theorem Fin.rfl' (k : Ok B.S B.K τ G F H) : Fin B G F H τ G F H := ⟨Step.refl _ _ _, k⟩
theorem FinT.d {v : V} {x : D} (fin : FinT B G F H τ Qv Q) (k : Ok B.S B.K τ G F H) (r : Rp B.K G v x) (h : Qv (.d x)) : Q v H := fin (.d x) G F H v (.rfl' k) r h
/-- a new list: one's own -/
theorem new_lst {p : Addr} {vs : List V} {xs : List D} (k : Ok B.S B.K τ G F H) (n : H p = none) (a : RpAll B.K G vs xs) : Fin B G F H τ G F (upd H p (.lst vs)) ∧ Res B.K H G F (upd H p (.lst vs)) (.ol xs) (.ref p) := by
  refine ⟨⟨Step.alloc n, k.alloc n⟩, p, rfl, ⟨vs, upd_same, a⟩, ?_, fun z => k.fh p z n, n⟩
  cases q : G p with
  | none => rfl
  | some u => rw [k.same _ _ q] at n; cases n
/-- a new tuple: said for ever -/
theorem new_tup {p : Addr} {vs : List V} {xs : List D} (k : Ok B.S B.K τ G F H) (n : H p = none) (a : RpAll B.K G vs xs) :
    Fin B G F H τ (upd G p (.tup vs)) F (upd H p (.tup vs)) ∧ Res B.K H (upd G p (.tup vs)) F (upd H p (.tup vs)) (.d (.tuple xs)) (.ref p) := by
  have st := Step.new (o := .tup vs) n k.same k.fh
  exact ⟨⟨st, k.new n⟩, Rp.tup (.inl upd_same) (a.mono st.g)⟩
theorem FinT.ol {p : Addr} {vs : List V} {xs : List D} (fin : FinT B G F H τ Qv Q) (k : Ok B.S B.K τ G F H) (n : H p = none) (a : RpAll B.K G vs xs) (h : Qv (.ol xs)) : Q (.ref p) (upd H p (.lst vs)) :=
  fin _ _ _ _ _ (new_lst k n a).1 (new_lst k n a).2 h
theorem FinT.tup {p : Addr} {vs : List V} {xs : List D} (fin : FinT B G F H τ Qv Q) (k : Ok B.S B.K τ G F H) (n : H p = none) (a : RpAll B.K G vs xs) (h : Qv (.d (.tuple xs))) : Q (.ref p) (upd H p (.tup vs)) :=
  fin _ _ _ _ _ (new_tup k n a).1 (new_tup k n a).2 h
end
/-! ### operations by values -/
def OpD (B : Bk) (r : R2) (g : SV → SV → (SV → Prop) → Prop) : Prop :=
  ∀ (x y : SV) (vx vy : V) (Ha Hb G : Hp) (F : Addr → Prop) (H : Hp) (τ : B.T) (Qv : SV → Prop) (Q : VK), Ok B.S B.K τ G F H → Res B.K Ha G F H x vx → Res B.K Hb G F H y vy → g x y Qv →
    FinT B G F H τ Qv Q → r vx vy H Q
def dOp {T : Type} (g : SV → SV → (SV → Prop) → Prop) (ta tb : W T) : W T := fun env τ Q => ta env τ fun x τ1 => tb env τ1 fun y τ2 => g x y fun z => Q z τ2
theorem OpD.or {B : Bk} {r r' : R2} {g g' : SV → SV → (SV → Prop) → Prop} (a : OpD B r g) (b : OpD B r' g') : OpD B (fun x y H Q => r x y H Q ∨ r' x y H Q) (fun x y Q => g x y Q ∨ g' x y Q) :=
  fun x y vx vy Ha Hb G F H τ Qv Q k rx ry h q => h.elim (fun h => .inl (a x y vx vy Ha Hb G F H τ Qv Q k rx ry h q)) fun h => .inr (b x y vx vy Ha Hb G F H τ Qv Q k rx ry h q)
theorem OpD.imp {B : Bk} {r : R2} {g g' : SV → SV → (SV → Prop) → Prop} (a : OpD B r g) (i : ∀ x y Q, g' x y Q → g x y Q) : OpD B r g' :=
  fun x y vx vy Ha Hb G F H τ Qv Q k rx ry h q => a x y vx vy Ha Hb G F H τ Qv Q k rx ry (i _ _ _ h) q
section
variable {X : Cx} {B : Bk} {a b c : Expr} {pos : Pos} {ta tb tc : W B.T} {r r' : R2} {g g' : SV → SV → (SV → Prop) → Prop}
theorem lift_op (hd : OpD B r g) : ∀ σ H Q, lift B (dOp g ta tb) σ H Q → tOp r (lift B ta) (lift B tb) σ H Q := fun σ H Q z9 => ex53 z9 fun G F env τ Qd s t k =>
  ⟨G, F, env, τ, _, s, t, fun x τ1 G1 F1 H1 vx f1 r1 q1 => ⟨G1, F1, env, τ1, _, s.fin f1, q1, fun y τ2 G2 F2 H2 vy f2 r2 q2 =>
    hd x y vx vy _ _ G2 F2 H2 τ2 _ _ f2.k (r1.step f2.s) r2 q2 fun z G3 F3 H3 v f3 r3 q3 => k z τ2 G3 F3 H3 v (f1.trans (f2.trans f3)) (r3.back (dead (f1.trans f2).s.dom)) q3⟩⟩
theorem de_op {op : Operator} (ho : OpR X (binaryOp op) r) (hd : OpD B r g) (ha : PE X a (lift B ta)) (hb : PE X b (lift B tb)) : PE X (.BinOp a op b pos) (lift B (dOp g ta tb)) :=
  pe_imp (pe_op ho ha hb) (lift_op hd)
theorem de_cmp {op : CmpOp} (ho : OpR X (compareOp op) r) (hd : OpD B r g) (ha : PE X a (lift B ta)) (hb : PE X b (lift B tb)) (hm : behindInMarks op b = false) : PE X (.Compare a [op] [b] pos) (lift B (dOp g ta tb)) :=
  pe_imp (pe_cmpR ho ha hb hm) (lift_op hd)
/-- a truth value as a test -/
def kG {T : Type} (Q : SV → T → Prop) (τ : T) (z : SV) : Prop := Q z τ
def kTb {T : Type} (Q : Bool → T → Prop) (τ : T) : Option Bool → Prop
  | some b => Q b τ
  | none => False
def SV.bl? : SV → Option Bool
  | .d (.bool b) => some b
  | _ => none
def kT {T : Type} (Q : Bool → T → Prop) (x : SV) (τ : T) : Prop := kTb Q τ x.bl?
theorem kTb_of {T : Type} {Q : Bool → T → Prop} {τ : T} {o : Option Bool} (h : kTb Q τ o) : ∃ b, o = some b ∧ Q b τ := by
  cases o with
  | none => exact False.elim h
  | some b => exact ⟨b, rfl, h⟩
theorem kTb_bl {T : Type} {Q : Bool → T → Prop} {τ : T} {x : SV} (h : kTb Q τ x.bl?) : ∃ b, x = .d (.bool b) ∧ Q b τ := by
  unfold SV.bl? at h
  split at h
  · exact ⟨_, rfl, h⟩
  · exact False.elim h
def dT {T : Type} (t : W T) : WT T := fun env τ Q => t env τ (kT Q)
theorem rbl {K : PySem.W.Frag} {Ha G F H v k} (h : Res K Ha G F H (.d (.bool k)) v) : v = .bl k := by
  have h : Rp K G v (.bool k) := h
  cases h
  rfl
theorem rint {K : PySem.W.Frag} {Ha G F H v k} (h : Res K Ha G F H (.d (.int k)) v) : v = .int k := by
  have h : Rp K G v (.int k) := h
  cases h
  rfl
theorem rstr {K : PySem.W.Frag} {Ha G F H v k} (h : Res K Ha G F H (.d (.str k)) v) : v = .str k := by
  have h : Rp K G v (.str k) := h
  cases h
  rfl
theorem rtup {K : PySem.W.Frag} {Ha G F H v xs} (h : Res K Ha G F H (.d (.tuple xs)) v) : ∃ p vs, v = .ref p ∧ SqTP K G p vs ∧ RpAll K G vs xs := by
  have h : Rp K G v (.tuple xs) := h
  cases h with
  | tup h1 a => exact ⟨_, _, rfl, h1, a⟩
theorem lift_tst {te : TE} (i : ∀ σ H Q, lift B ta σ H Q → te σ H Q) : ∀ σ H Q, liftT B (dT ta) σ H Q → tTest te σ H Q := fun σ H Q z9 => ex53 z9 fun G F env τ Qd s t k =>
  i _ _ _ ⟨G, F, env, τ, _, s, t, fun x τ1 G1 F1 H1 vx f1 r1 q0 => by
    obtain ⟨b, e, q⟩ := kTb_bl q0
    subst e
    exact ⟨b, rbl r1, k b τ1 G1 F1 H1 f1 q⟩⟩
theorem dt_cmp {op : CmpOp} (ho : OpR X (compareOp op) r) (hd : OpD B r g) (ha : PE X a (lift B ta)) (hb : PE X b (lift B tb)) (hm : behindInMarks op b = false) : PT X (.Compare a [op] [b] pos) (liftT B (dT (dOp g ta tb))) :=
  pt_imp (pt_cmpR ho ha hb hm) (lift_tst (lift_op hd))
/-- a < b < c -/
def kCh3 {T : Type} (Q : SV → T → Prop) (τ : T) (u : SV) : Prop := Q u τ
def kCh4 {T : Type} (g' : SV → SV → (SV → Prop) → Prop) (y : SV) (Q : SV → T → Prop) (w : SV) (τ : T) : Prop := g' y w (kG Q τ)
def kChB {T : Type} (tc : W T) (env : List SV) (g' : SV → SV → (SV → Prop) → Prop) (y : SV) (Q : SV → T → Prop) (b : Bool) (τ : T) : Prop := if b = true then tc env τ (kCh4 g' y Q) else Q (.d (.bool false)) τ
def kCh2 {T : Type} (tc : W T) (env : List SV) (g g' : SV → SV → (SV → Prop) → Prop) (Q : SV → T → Prop) (x y : SV) (τ : T) : Prop := g x y (kG (kT (kChB tc env g' y Q)) τ)
def kCh1 {T : Type} (tb tc : W T) (env : List SV) (g g' : SV → SV → (SV → Prop) → Prop) (Q : SV → T → Prop) (x : SV) (τ : T) : Prop := tb env τ (kCh2 tc env g g' Q x)
def dChain {T : Type} (g g' : SV → SV → (SV → Prop) → Prop) (ta tb tc : W T) : W T := fun env τ Q => ta env τ (kCh1 tb tc env g g' Q)
end
/-! ### truth, and, or, not, if -/
def SV.truth : SV → Option Bool
  | .d .none => some false
  | .d (.bool b) => some b
  | .d (.int i) => some (i != 0)
  | .d (.str y) => if y.length ≤ sizeLine then some ((y.length : Int) != 0) else none
  | .d (.tuple xs) => some (!xs.isEmpty)
  | .d (.list xs) => some (!xs.isEmpty)
  | .d (.dict _) => none
  | .ol xs => some (!xs.isEmpty)
  | .vw xs => some (!xs.isEmpty)
  | _ => none
theorem isE {K : PySem.W.Frag} {G : Hp} {vs : List V} {xs : List D} (a : RpAll K G vs xs) : (!xs.isEmpty) = !vs.isEmpty := by
  cases a <;> rfl
theorem Res.truth {K : PySem.W.Frag} {Ha G F H v k} (sm : Same G H) {x : SV} (h : Res K Ha G F H x v) (e : x.truth = some k) : TruV K v H k := by
  cases x with
  | no => exact h.elim
  | raw _ => cases e
  | ol xs =>
    obtain ⟨p, e1, w⟩ := h
    cases e
    subst e1
    obtain ⟨vs, e2, a⟩ := w.at'
    exact .inl ⟨_, .of e2, isE a⟩
  | vw xs =>
    obtain ⟨p, vs, e1, e2, a, _⟩ := h
    cases e
    subst e1
    exact .inl ⟨_, .of e2, isE a⟩
  | d x =>
    have hr : Rp K G v x := h
    clear h
    cases hr with
    | non => cases e; rfl
    | bl b => cases e; rfl
    | int i => cases e; rfl
    | str y =>
      have e' : (if y.length ≤ sizeLine then some ((y.length : Int) != 0) else none) = some k := e
      split at e'
      · rename_i h
        cases e'
        exact ⟨h, rfl⟩
      · cases e'
    | tup h a => cases e; exact .inr (.inl ⟨_, same_seqT sm h, isE a⟩)
    | lst h a => cases e; exact .inl ⟨_, (same_sqp sm h).sql, isE a⟩
    | _ => cases e
section
variable {X : Cx} {B : Bk} {a b c : Expr} {pos : Pos} {ta tb tc : W B.T} {rest : List Expr} {tA tB' : WT B.T}
def kTru {T : Type} (Q : Bool → T → Prop) (x : SV) (τ : T) : Prop := kTb Q τ x.truth
def dTru {T : Type} (t : W T) : WT T := fun env τ Q => t env τ (kTru Q)
theorem dt_tru (hK : X.K = B.K) (ha : PE X a (lift B ta)) (he : ∀ whole, isTrue a X.env whole = (do let v ← whole; standAt a.pos; holding [v] (truthy v)) := by intro _; rfl) : PT X a (liftT B (dTru ta)) :=
  pt_imp (pt_truth ha he) fun σ H Q z9 => ex53 z9 fun G F env τ Qd s t k => ⟨G, F, env, τ, _, s, t, fun x τ1 G1 F1 H1 vx f1 r1 q0 => by
    obtain ⟨b, e, q⟩ := kTb_of q0
    exact ⟨b, by rw [hK]; exact r1.truth f1.k.same e, k b τ1 G1 F1 H1 f1 q⟩⟩
def dAndT {T : Type} (t u : WT T) : WT T := fun env τ Q => t env τ fun c τ1 => if c = true then u env τ1 Q else Q false τ1
def dOrT {T : Type} (t u : WT T) : WT T := fun env τ Q => t env τ fun c τ1 => if c = true then Q true τ1 else u env τ1 Q
def dNotT {T : Type} (t : WT T) : WT T := fun env τ Q => t env τ fun c τ1 => Q (!c) τ1
theorem dw_or1 (ha : PT X a (liftT B tA)) : PW X (.BoolOp .Or [a] pos) (liftT B tA) := pw_or1 ha
theorem pw_imp {e : Expr} {t t' : TT} (h : PW X e t) (i : ∀ σ H Q, t' σ H Q → t σ H Q) : PW X e t' := ⟨fun wh pins s σ H Q I z => h.run wh pins s σ H Q I (i σ H Q z)⟩
theorem dw_or (ha : PT X a (liftT B tA)) (hb : PW X (.BoolOp .Or (b :: rest) pos) (liftT B tB')) : PW X (.BoolOp .Or (a :: b :: rest) pos) (liftT B (dOrT tA tB')) :=
  pw_imp (pw_or ha hb) fun σ H Q z9 => ex53 z9 fun G F env τ Qd s t k => ⟨G, F, env, τ, _, s, t, fun c τ1 G1 F1 H1 f1 q => by
    cases c with
    | false =>
      refine iteF ⟨G1, F1, env, τ1, _, s.fin f1, q, fun d τ2 G2 F2 H2 f2 q2 => k d τ2 G2 F2 H2 (f1.trans f2) q2⟩
    | true => exact iteT (k true τ1 G1 F1 H1 f1 q)⟩
theorem dt_w (h : PW X a (liftT B tA)) : PT X a (liftT B tA) := h.pt
theorem dt_not (ha : PT X a (liftT B tA)) : PT X (.UnaryOp .Not a pos) (liftT B (dNotT tA)) :=
  pt_imp (pt_not ha) fun σ H Q z9 => ex53 z9 fun G F env τ Qd s t k => ⟨G, F, env, τ, _, s, t, fun c τ1 G1 F1 H1 f1 q => k (!c) τ1 G1 F1 H1 f1 q⟩
/-- as values -/
def kAndB {T : Type} (tb : W T) (env : List SV) (Q : SV → T → Prop) (x : SV) (τ : T) : Option Bool → Prop
  | some true => tb env τ Q
  | some false => Q x τ
  | none => False
def kOrB {T : Type} (tb : W T) (env : List SV) (Q : SV → T → Prop) (x : SV) (τ : T) : Option Bool → Prop
  | some true => Q x τ
  | some false => tb env τ Q
  | none => False
def kAnd {T : Type} (tb : W T) (env : List SV) (Q : SV → T → Prop) (x : SV) (τ : T) : Prop := kAndB tb env Q x τ x.truth
def kOr {T : Type} (tb : W T) (env : List SV) (Q : SV → T → Prop) (x : SV) (τ : T) : Prop := kOrB tb env Q x τ x.truth
def kNotB {T : Type} (Q : SV → T → Prop) (τ : T) : Option Bool → Prop
  | some b => Q (.d (.bool (!b))) τ
  | none => False
def kNot {T : Type} (Q : SV → T → Prop) (x : SV) (τ : T) : Prop := kNotB Q τ x.truth
theorem kAnd_of {T : Type} {tb : W T} {env : List SV} {Q : SV → T → Prop} {x : SV} {τ : T} (h : kAnd tb env Q x τ) : ∃ k, x.truth = some k ∧ if k = true then tb env τ Q else Q x τ := by
  unfold kAnd at h
  cases e : x.truth with
  | none => rw [e] at h; exact False.elim h
  | some k =>
    rw [e] at h
    cases k with
    | true => exact ⟨true, rfl, h⟩
    | false => exact ⟨false, rfl, h⟩
def dAnd {T : Type} (ta tb : W T) : W T := fun env τ Q => ta env τ (kAnd tb env Q)
def dOr {T : Type} (ta tb : W T) : W T := fun env τ Q => ta env τ (kOr tb env Q)
def dNot {T : Type} (ta : W T) : W T := fun env τ Q => ta env τ (kNot Q)
def dIf {T : Type} (t : WT T) (ta tb : W T) : W T := fun env τ Q => t env τ fun c τ1 => if c = true then ta env τ1 Q else tb env τ1 Q
theorem de_one {op} (h : PE X a (lift B ta)) : PE X (.BoolOp op [a] pos) (lift B ta) := pe_one h
theorem de_and (hK : X.K = B.K) (ha : PE X a (lift B ta)) (hb : PE X (.BoolOp .And (b :: rest) pos) (lift B tb)) : PE X (.BoolOp .And (a :: b :: rest) pos) (lift B (dAnd ta tb)) :=
  pe_imp (pe_andT ha hb) fun σ H Q z9 => ex53 z9 fun G F env τ Qd s t k => ⟨G, F, env, τ, _, s, t, fun x τ1 G1 F1 H1 vx f1 r1 q0 => let ⟨c, e, q⟩ := kAnd_of q0; ⟨c, by rw [hK]; exact r1.truth f1.k.same e, by
    cases c with
    | true => exact iteT ⟨G1, F1, env, τ1, _, s.fin f1, q, fun y τ2 G2 F2 H2 v f2 r2 q2 => k y τ2 G2 F2 H2 v (f1.trans f2) (r2.back (dead f1.s.dom)) q2⟩
    | false => exact iteF (k x τ1 G1 F1 H1 vx f1 r1 q)⟩⟩
theorem de_if (hc : PT X c (liftT B tA)) (ha : PE X a (lift B ta)) (hb : PE X b (lift B tb)) : PE X (.IfExp c a b pos) (lift B (dIf tA ta tb)) :=
  pe_imp (pe_ifExp hc ha hb) fun σ H Q z9 => ex53 z9 fun G F env τ Qd s t k => ⟨G, F, env, τ, _, s, t, fun c τ1 G1 F1 H1 f1 q => by
    cases c with
    | true => exact iteT ⟨G1, F1, env, τ1, _, s.fin f1, q, fun y τ2 G2 F2 H2 v f2 r2 q2 => k y τ2 G2 F2 H2 v (f1.trans f2) (r2.back (dead f1.s.dom)) q2⟩
    | false => exact iteF ⟨G1, F1, env, τ1, _, s.fin f1, q, fun y τ2 G2 F2 H2 v f2 r2 q2 => k y τ2 G2 F2 H2 v (f1.trans f2) (r2.back (dead f1.s.dom)) q2⟩⟩
end
/-! ### ints -/
def gI (C : Int → Int → Prop) (f : Int → Int → D) (x y : SV) (Q : SV → Prop) : Prop := match x, y with
  | .d (.int i), .d (.int j) => C i j ∧ Q (.d (f i j))
  | _, _ => False
theorem gI_of {C : Int → Int → Prop} {f : Int → Int → D} {x y : SV} {Q : SV → Prop} (h : gI C f x y Q) : ∃ i j, x = .d (.int i) ∧ y = .d (.int j) ∧ C i j ∧ Q (.d (f i j)) := by
  unfold gI at h
  split at h
  · exact ⟨_, _, rfl, rfl, h⟩
  · exact False.elim h
def noC (_ _ : Int) : Prop := True
section
variable {X : Cx} {B : Bk}
theorem od_I {C : Int → Int → Prop} {f : Int → Int → Int} : OpD B (rI C fun i j => .int (f i j)) (gI C fun i j => .int (f i j)) := fun x y vx vy Ha Hb G F H τ Qv Q k rx ry q0 fin => by
  obtain ⟨i, j, e1, e2, hc, q⟩ := gI_of q0
  subst e1 e2
  exact ⟨i, j, rint rx, rint ry, hc, fin.d k (Rp.int _) q⟩
theorem od_I0 {f : Int → Int → Int} : OpD B (rI0 fun i j => .int (f i j)) (gI noC fun i j => .int (f i j)) := fun x y vx vy Ha Hb G F H τ Qv Q k rx ry q0 fin => by
  obtain ⟨i, j, e1, e2, hc, q⟩ := gI_of q0
  subst e1 e2
  exact ⟨i, j, rint rx, rint ry, fin.d k (Rp.int _) q⟩
end
/-! ### + -/
section
variable {X : Cx} {B : Bk}
/-- list + list, of any lists that are read -/
def rCatL (K : PySem.W.Frag) : R2 := fun x y H Q => ∃ l b xs zs, x = .ref l ∧ y = .ref b ∧ SqP K H l xs ∧ SqP K H b zs ∧ xs.length + zs.length ≤ sizeLine ∧ ∀ p, H p = none → Q (.ref p) (upd H p (.lst (xs ++ zs)))
theorem SqP.isL {pins : List (Addr × Obj)} {σ : L2.St} {H : Hp} {s : Shared} {a : Addr} {xs : List V} (I : Inv X pins σ H s) (h : SqP X.K H a xs) :
    ∃ (its : List Value) (n : Nat), Vals xs its ∧ s.heap.get? a = some { cls := .type "list", data := .seq its.toArray n } ∧ xs.length ≤ sizeLine := by
  rcases h with h | ⟨its, h, hz, r⟩
  · obtain ⟨z, its, n, r, e⟩ := h.ok I.hok
    exact ⟨its, n, r, e, z⟩
  · exact ⟨its, 0, r, I.kIn a _ h, hz⟩
theorem op_catL : OpR X (binaryOp .Add) (rCatL X.K) := by
  intro pins s σ H x y v u Q I rx ry h
  obtain ⟨l, b, xs, zs, rfl, rfl, hH, hB, hz, q⟩ := h
  cases rx
  cases ry
  obtain ⟨its, n, r, e, _⟩ := hH.isL I
  obtain ⟨its2, n2, r2, e2, _⟩ := hB.isL I
  have hl := r.length
  have hl2 := r2.length
  refine PySem.P.add_list e e2 ?_ (by rw [List.size_toArray, List.size_toArray]; omega)
  have ea : its.toArray ++ its2.toArray = (its ++ its2).toArray := by simp
  rw [ea]
  exact ⟨.ref _, _, I.lnew (t' := s.toks) (r.append r2) (by rw [List.length_append]; omega), rfl, q _ I.fresh⟩
/-- + of ints, texts, tuples, lists -/
def rAddA (K : PySem.W.Frag) : R2 := fun x y H Q => (rI0 fun i j => .int (i + j)) x y H Q ∨ (∃ i j, x = .str i ∧ y = .str j ∧ i.length + j.length ≤ sizeLine ∧ Q (.str (i ++ j)) H) ∨ rCatA K x y H Q ∨ rCatL K x y H Q
theorem op_addA : OpR X (binaryOp .Add) (rAddA X.K) := op_add.or (op_add_str.or (op_catA.or op_catL))
def gAdd (x y : SV) (Q : SV → Prop) : Prop := match x, y with
  | .d (.int i), .d (.int j) => Q (.d (.int (i + j)))
  | .d (.str a), .d (.str b) => a.length + b.length ≤ sizeLine ∧ Q (.d (.str (a ++ b)))
  | .d (.tuple a), .d (.tuple b) => a.length + b.length ≤ sizeLine ∧ Q (.d (.tuple (a ++ b)))
  | x, y => ∃ xs ys, x.lst? = some xs ∧ y.lst? = some ys ∧ xs.length + ys.length ≤ sizeLine ∧ Q (.ol (xs ++ ys))
theorem od_add (hK : X.K = B.K) : OpD B (rAddA X.K) gAdd := fun x y vx vy Ha Hb G F H τ Qv Q k rx ry h fin => by
  rw [hK]
  unfold gAdd at h
  split at h
  · exact .inl ⟨_, _, rint rx, rint ry, fin.d k (Rp.int _) h⟩
  · exact .inr (.inl ⟨_, _, rstr rx, rstr ry, h.1, fin.d k (Rp.str _) h.2⟩)
  · obtain ⟨hz, h⟩ := h
    obtain ⟨p, vs, e1, s1, a1⟩ := rtup rx
    obtain ⟨q, ws, e2, s2, a2⟩ := rtup ry
    refine .inr (.inr (.inl ⟨p, q, vs, ws, e1, e2, same_seqT k.same s1, same_seqT k.same s2, by rw [a1.length, a2.length]; exact hz, fun z => ?_, fun z z2 => ?_, fun z z2 p' hp => ?_⟩))
    · subst z
      cases a1
      exact fin.d k (Rp.tup s2 a2) h
    · subst z2
      cases a2
      exact fin.d k (Rp.tup s1 (by rw [List.append_nil]; exact a1)) h
    · exact fin.tup k hp (a1.append a2) h
  · obtain ⟨xs, ys, e1, e2, hz, h⟩ := h
    obtain ⟨p, vs, e3, s1, a1⟩ := rx.sql k.same e1
    obtain ⟨q, ws, e4, s2, a2⟩ := ry.sql k.same e2
    refine .inr (.inr (.inr ⟨p, q, vs, ws, e3, e4, s1, s2, by rw [a1.length, a2.length]; exact hz, fun p' hp => ?_⟩))
    exact fin.ol k hp (a1.append a2) h
end
end Z
namespace Z
open PySem L2
/-! ### an own new list is said for ever -/
section
variable {B : Bk} {G G1 H H1 : Hp} {F F1 : Addr → Prop} {τ : B.T}
theorem Fin.frz {p : Addr} {xs : List D} (f : Fin B G F H τ G1 F1 H1) (o : Own B.K H G1 F1 H1 p xs) : ∃ G2, Fin B G F H τ G2 F1 H1 ∧ Same G1 G2 ∧ Rp B.K G2 (.ref p) (.list xs) := by
  obtain ⟨⟨vs, e, a⟩, g, nf, n⟩ := o
  have sm : Same G1 (upd G1 p (.lst vs)) := fun b u z => by rw [upd_ne (ne_of_none z g)]; exact z
  refine ⟨upd G1 p (.lst vs), ⟨⟨f.s.g.trans sm, f.s.h, fun b u z => ?_, f.s.fn, f.s.ff, f.s.dom⟩, f.k.frz e g nf⟩, sm, Rp.lst (.inl (.inl upd_same)) (a.mono sm)⟩
  by_cases q : b = p
  · subst q; exact .inr (.inl n)
  · rw [upd_ne q] at z; exact f.s.gn b u z
end
/-! ### arguments -/
def SV.arg : SV → Option SV
  | .ol xs => some (.d (.list xs))
  | .no => none
  | .d x => some (.d x)
  | .vw xs => some (.vw xs)
  | .raw v => some (.raw v)
def SV.dat? : SV → Option D
  | .d x => some x
  | .ol xs => some (.list xs)
  | _ => none
theorem Res.arg {B : Bk} {G H G1 H1 : Hp} {F F1 : Addr → Prop} {τ : B.T} {v : V} (f : Fin B G F H τ G1 F1 H1) : ∀ {r a : SV}, Res B.K H G1 F1 H1 r v → r.arg = some a →
    ∃ G2, Fin B G F H τ G2 F1 H1 ∧ Same G1 G2 ∧ Res B.K H G2 F1 H1 a v
  | .d x, _, r, e => by cases e; exact ⟨_, f, Same.refl _, r⟩
  | .vw x, _, r, e => by cases e; exact ⟨_, f, Same.refl _, r⟩
  | .raw x, _, r, e => by cases e; exact ⟨_, f, Same.refl _, r⟩
  | .no, _, r, _ => r.elim
  | .ol xs, _, ⟨p, e1, o⟩, e => by
    cases e
    subst e1
    obtain ⟨G2, f2, sm, r⟩ := f.frz o
    exact ⟨G2, f2, sm, r⟩
theorem Res.dat {B : Bk} {G H G1 H1 : Hp} {F F1 : Addr → Prop} {τ : B.T} {v : V} (f : Fin B G F H τ G1 F1 H1) : ∀ {r : SV} {x : D}, Res B.K H G1 F1 H1 r v → r.dat? = some x →
    ∃ G2, Fin B G F H τ G2 F1 H1 ∧ Same G1 G2 ∧ Rp B.K G2 v x
  | .d x, _, r, e => by cases e; exact ⟨_, f, Same.refl _, r⟩
  | .vw x, _, r, e => by cases e
  | .raw x, _, r, e => by cases e
  | .no, _, r, _ => r.elim
  | .ol xs, _, ⟨p, e1, o⟩, e => by
    cases e
    subst e1
    exact f.frz o
theorem Res.same {K : PySem.W.Frag} {Ha G G' F H v} (sm : Same G G') (nf : ∀ p, ¬ F p → G p = none → H p ≠ none → Ha p = none → G' p = none) : ∀ {s : SV}, Res K Ha G F H s v → (∀ xs, s ≠ .ol xs) → Res K Ha G' F H s v
  | .no, h, _ => h.elim
  | .d _, r, _ => r.mono sm
  | .ol _, _, n => absurd rfl (n _)
  | .vw _, ⟨p, vs, e, e2, a, nf⟩, _ => ⟨p, vs, e, e2, a.mono sm, nf⟩
  | .raw _, h, _ => h
section
variable {X : Cx} {B : Bk} {e : Expr} {es : List Expr} {pos : Pos} {t : W B.T} {ta : WA B.T}
def dNil {T : Type} : WA T := fun _ τ Q => Q [] τ
def kCo2 {T : Type} (Q : List SV → T → Prop) (a : SV) (rs : List SV) (τ : T) : Prop := Q (a :: rs) τ
def kCoB {T : Type} (ta : WA T) (env : List SV) (Q : List SV → T → Prop) (τ : T) : Option SV → Prop
  | some a => ta env τ (kCo2 Q a)
  | none => False
def kCo {T : Type} (ta : WA T) (env : List SV) (Q : List SV → T → Prop) (r : SV) (τ : T) : Prop := kCoB ta env Q τ r.arg
def dCons {T : Type} (t : W T) (ta : WA T) : WA T := fun env τ Q => t env τ (kCo ta env Q)
theorem kCo_of {T : Type} {ta : WA T} {env : List SV} {Q : List SV → T → Prop} {r : SV} {τ : T} (h : kCo ta env Q r τ) : ∃ a, r.arg = some a ∧ ta env τ (kCo2 Q a) := by
  unfold kCo at h
  cases e : r.arg with
  | none => rw [e] at h; exact False.elim h
  | some a => rw [e] at h; exact ⟨a, rfl, h⟩
theorem da_nil : PA X [] (liftA B dNil) := pa_imp pa_nil fun σ H Q z9 => ex53 z9 fun G F env τ Qd s t k => k [] τ G F H [] s.refl .nil t
theorem da_cons (he : PE X e (lift B t)) (hr : PA X es (liftA B ta)) (hs : starEach (e :: es) X.env = (false, eval e X.env) :: starEach es X.env := by rfl) : PA X (e :: es) (liftA B (dCons t ta)) :=
  pa_imp (pa_cons he hr hs) fun σ H Q z9 => ex53 z9 fun G F env τ Qd s t k => ⟨G, F, env, τ, _, s, t, fun r τ1 G1 F1 H1 v f1 r1 q0 => by
    obtain ⟨a, e, q⟩ := kCo_of q0
    obtain ⟨G2, f2, sm, r2⟩ := r1.arg f1 e
    exact ⟨G2, F1, env, τ1, _, s.fin f2, q, fun rs τ2 G3 F3 H3 vs f3 r3 q3 => k (a :: rs) τ2 G3 F3 H3 (v :: vs) (f2.trans f3) (.cons (r2.step f3.s) (r3.back (dead f2.s.dom))) q3⟩⟩
def allD : List SV → Option (List D)
  | [] => some []
  | .d x :: r => (allD r).map (x :: ·)
  | _ :: _ => none
theorem ResAll.allD {K : PySem.W.Frag} {Ha G F H} : ∀ {rs : List SV} {vs : List V} {xs : List D}, ResAll K Ha G F H rs vs → Z.allD rs = some xs → RpAll K G vs xs
  | _, _, _, .nil, e => by cases e; exact .nil
  | .d x :: r, _, _, .cons h t, e => by
    cases q : Z.allD r with
    | none => rw [Z.allD, q] at e; cases e
    | some ys => rw [Z.allD, q] at e; cases e; exact .cons h (t.allD q)
  | .no :: r, _, _, .cons h t, e => by cases e
  | .ol _ :: r, _, _, .cons h t, e => by cases e
  | .vw _ :: r, _, _, .cons h t, e => by cases e
  | .raw _ :: r, _, _, .cons h t, e => by cases e
def kTupB {T : Type} (Q : SV → T → Prop) (τ : T) : Option (List D) → Prop
  | some xs => xs.length ≤ sizeLine ∧ Q (.d (.tuple xs)) τ
  | none => False
def kTup {T : Type} (Q : SV → T → Prop) (rs : List SV) (τ : T) : Prop := kTupB Q τ (allD rs)
def dTup {T : Type} (ta : WA T) : W T := fun env τ Q => ta env τ (kTup Q)
def kLstB {T : Type} (Q : SV → T → Prop) (τ : T) : Option (List D) → Prop
  | some xs => xs.length ≤ sizeLine ∧ Q (.ol xs) τ
  | none => False
def kLst {T : Type} (Q : SV → T → Prop) (rs : List SV) (τ : T) : Prop := kLstB Q τ (allD rs)
def dLst {T : Type} (ta : WA T) : W T := fun env τ Q => ta env τ (kLst Q)
theorem kTup_of {T : Type} {Q : SV → T → Prop} {rs : List SV} {τ : T} (h : kTup Q rs τ) : ∃ xs, allD rs = some xs ∧ xs.length ≤ sizeLine ∧ Q (.d (.tuple xs)) τ := by
  unfold kTup at h
  cases e : allD rs with
  | none => rw [e] at h; exact False.elim h
  | some xs => rw [e] at h; exact ⟨xs, rfl, h⟩
theorem kLst_of {T : Type} {Q : SV → T → Prop} {rs : List SV} {τ : T} (h : kLst Q rs τ) : ∃ xs, allD rs = some xs ∧ xs.length ≤ sizeLine ∧ Q (.ol xs) τ := by
  unfold kLst at h
  cases e : allD rs with
  | none => rw [e] at h; exact False.elim h
  | some xs => rw [e] at h; exact ⟨xs, rfl, h⟩
theorem FinT.trans {G G1 H H1 : Hp} {F F1 : Addr → Prop} {τ1 : B.T} {Qv : SV → B.T → Prop} {Q : VK} (k : ∀ r τ' G' F' H' v, Fin B G F H τ' G' F' H' → Res B.K H G' F' H' r v → Qv r τ' → Q v H') (f : Fin B G F H τ1 G1 F1 H1) :
    FinT B G1 F1 H1 τ1 (fun r => Qv r τ1) Q := fun z G' F' H' v f' r q => k z τ1 G' F' H' v (f.trans f') (r.back (dead f.s.dom)) q
theorem de_tup {x1} (h : PA X es (liftA B ta)) : PE X (.Tuple es x1 pos) (lift B (dTup ta)) :=
  pe_imp (pe_tup h) fun σ H Q z9 => ex53 z9 fun G F env τ Qd s t k => ⟨G, F, env, τ, _, s, t, fun rs τ1 G1 F1 H1 vs f1 r1 q0 => by
    obtain ⟨xs, e, z, q⟩ := kTup_of q0
    have a := r1.allD e
    exact ⟨by rw [a.length]; exact z, fun p hp => (FinT.trans k f1).tup f1.k hp a q⟩⟩
theorem de_lst (h : PA X es (liftA B ta)) : PE X (.List es pos) (lift B (dLst ta)) :=
  pe_imp (pe_lst h) fun σ H Q z9 => ex53 z9 fun G F env τ Qd s t k => ⟨G, F, env, τ, _, s, t, fun rs τ1 G1 F1 H1 vs f1 r1 q0 => by
    obtain ⟨xs, e, z, q⟩ := kLst_of q0
    have a := r1.allD e
    exact ⟨by rw [a.length]; exact z, fun p hp => (FinT.trans k f1).ol f1.k hp a q⟩⟩
end
/-! ### calls of built-ins, by values -/
def CallD (B : Bk) (r : List V → Hp → VK → Prop) (g : List SV → (SV → Prop) → Prop) : Prop :=
  ∀ (rs : List SV) (vs : List V) (Ha G : Hp) (F : Addr → Prop) (H : Hp) (τ : B.T) (Qv : SV → Prop) (Q : VK), Ok B.S B.K τ G F H → ResAll B.K Ha G F H rs vs → g rs Qv → FinT B G F H τ Qv Q → r vs H Q
def dCB {T : Type} (g : List SV → (SV → Prop) → Prop) (ta : WA T) : W T := fun env τ Q => ta env τ fun rs τ1 => g rs fun z => Q z τ1
section
variable {X : Cx} {B : Bk} {e : Expr} {es : List Expr} {pos p : Pos} {t : W B.T} {ta : WA B.T} {r : List V → Hp → VK → Prop} {g : List SV → (SV → Prop) → Prop} {x : Str} {id T : String}
theorem lift_cb (hd : CallD B r g) : ∀ σ H Q, lift B (dCB g ta) σ H Q → tCB r (liftA B ta) σ H Q := fun σ H Q z9 => ex53 z9 fun G F env τ Qd s t k =>
  ⟨G, F, env, τ, _, s, t, fun rs τ1 G1 F1 H1 vs f1 r1 q1 => hd rs vs _ G1 F1 H1 τ1 _ _ f1.k r1 q1 (FinT.trans k f1)⟩
theorem de_callB (hc : CallR X (.builtin id) r) (hd : CallD B r g) (hg : Gl X x) (hm : X.mg x = none) (hv : bootBuiltins x = some (.builtin id)) (ha : PA X (e :: es) (liftA B ta)) (hn : x ≠ "__name__" := by decide) (hdb : (x == ("__debug__" : Str)) = false := by decide)
    (he : starEach (e :: es) X.env = (false, eval e X.env) :: starEach es X.env := by rfl) (hpl : (backTo pos (starEach es X.env)).any (·.1) = false := by rfl) : PE X (.Call (.Name x p) (e :: es) [] pos) (lift B (dCB g ta)) :=
  pe_imp (pe_callB hc hg hm hv ha hn hdb he hpl) (lift_cb hd)
theorem de_callTy (hc : CallR X (.type T) r) (hd : CallD B r g) (hg : Gl X x) (hm : X.mg x = none) (hv : bootBuiltins x = some (.type T)) (ha : PA X (e :: es) (liftA B ta)) (hn : x ≠ "__name__" := by decide) (hdb : (x == ("__debug__" : Str)) = false := by decide)
    (he : starEach (e :: es) X.env = (false, eval e X.env) :: starEach es X.env := by rfl) (hpl : (backTo pos (starEach es X.env)).any (·.1) = false := by rfl) : PE X (.Call (.Name x p) (e :: es) [] pos) (lift B (dCB g ta)) :=
  pe_imp (pe_callTy hc hg hm hv ha hn hdb he hpl) (lift_cb hd)
end
/-! ### statements -/
structure DEnds (T : Type) where
  nx : List SV → T → Prop
  rt : SV → T → Prop
  bk : List SV → T → Prop := fun _ _ => False
  ct : List SV → T → Prop := fun _ _ => False
abbrev WS (T : Type) := DEnds T → List SV → T → Prop
structure EndR (B : Bk) (G : Hp) (Dd : DEnds B.T) (D : Ends) : Prop where
  nx : ∀ G' F' σ' H' env' τ', Same G G' → StR B G' F' σ' H' env' τ' → Dd.nx env' τ' → D.nx σ' H'
  rt : ∀ r τ' G' F' H' v, Fin B B.G B.F B.H τ' G' F' H' → Res B.K B.H G' F' H' r v → Dd.rt r τ' → D.rt v H'
  bk : ∀ G' F' σ' H' env' τ', Same G G' → StR B G' F' σ' H' env' τ' → Dd.bk env' τ' → D.bk σ' H'
  ct : ∀ G' F' σ' H' env' τ', Same G G' → StR B G' F' σ' H' env' τ' → Dd.ct env' τ' → D.ct σ' H'
theorem EndR.mono {B : Bk} {G G1 : Hp} {Dd : DEnds B.T} {D : Ends} (E : EndR B G Dd D) (sm : Same G G1) : EndR B G1 Dd D :=
  ⟨fun G' F' σ' H' env' τ' s => E.nx G' F' σ' H' env' τ' (sm.trans s), E.rt, fun G' F' σ' H' env' τ' s => E.bk G' F' σ' H' env' τ' (sm.trans s), fun G' F' σ' H' env' τ' s => E.ct G' F' σ' H' env' τ' (sm.trans s)⟩
def liftS (B : Bk) (t : WS B.T) : TS := fun D σ H => ∃ G F env τ Dd, StR B G F σ H env τ ∧ t Dd env τ ∧ EndR B G Dd D
section
variable {X : Cx} {B : Bk} {st : Stmt} {rest : List Stmt} {e : Expr} {pos : Pos} {t u : WS B.T} {te : W B.T} {tc : WT B.T}
def dNext {T : Type} : WS T := fun D env τ => D.nx env τ
def dSeq {T : Type} (t u : WS T) : WS T := fun D env τ => t { D with nx := u D } env τ
theorem dss_nil : PSs X [] (liftS B dNext) := pss_imp pss_nil fun D σ H z9 => ex53 z9 fun G F env τ Dd s h E => E.nx G F σ H env τ (Same.refl G) s h
theorem dss_cons (h1 : PS X st (liftS B t)) (h2 : PSs X rest (liftS B u)) : PSs X (st :: rest) (liftS B (dSeq t u)) :=
  pss_imp (pss_cons h1 h2) fun D σ H z9 => ex53 z9 fun G F env τ Dd s h E => ⟨G, F, env, τ, { Dd with nx := u Dd }, s, h, ⟨fun G' F' σ' H' env' τ' sm s' h' => ⟨G', F', env', τ', Dd, s', h', E.mono sm⟩, E.rt, E.bk, E.ct⟩⟩
theorem dss_one (h1 : PS X st (liftS B t)) : PSs X [st] (liftS B t) := pss_one h1
def dBreak {T : Type} : WS T := fun D env τ => D.bk env τ
def dCont {T : Type} : WS T := fun D env τ => D.ct env τ
def dNever {T : Type} : WS T := fun _ _ _ => False
def dDrop {T : Type} (te : W T) : WS T := fun D env τ => te env τ fun _ τ1 => D.nx env τ1
def SV.out : SV → Bool
  | .vw _ => false
  | .no => false
  | _ => true
def dRet {T : Type} (te : W T) : WS T := fun D env τ => te env τ fun r τ1 => r.out = true ∧ D.rt r τ1
theorem StR.out {B : Bk} {G F σ H env τ} (s : StR B G F σ H env τ) : Fin B B.G B.F B.H τ G F H := ⟨s.s, s.k⟩
theorem ds_ret (he : PE X e (lift B te)) : PS X (.Return (some e) pos) (liftS B (dRet te)) :=
  ps_imp (ps_ret he) fun D σ H z9 => ex53 z9 fun G F env τ Dd s h E => ⟨G, F, env, τ, _, s, h, fun r τ1 G1 F1 H1 v f1 r1 ⟨_, q⟩ => E.rt r τ1 G1 F1 H1 v (s.out.trans f1) (r1.back (dead s.s.dom)) q⟩
def dRetN {T : Type} : WS T := fun D _ τ => D.rt (.d .none) τ
def dIfS {T : Type} (c : WT T) (t u : WS T) : WS T := fun D env τ => c env τ fun b τ1 => if b = true then t D env τ1 else u D env τ1
theorem ds_if {c : Expr} {a b : List Stmt} (hc : PT X c (liftT B tc)) (ha : PSs X a (liftS B t)) (hb : PSs X b (liftS B u)) : PS X (.If c a b pos) (liftS B (dIfS tc t u)) :=
  ps_imp (ps_if hc ha hb) fun D σ H z9 => ex53 z9 fun G F env τ Dd s h E => ⟨G, F, env, τ, _, s, h, fun b τ1 G1 F1 H1 f1 q => by
    cases b with
    | true => exact iteT ⟨G1, F1, env, τ1, Dd, s.fin f1, q, E.mono f1.s.g⟩
    | false => exact iteF ⟨G1, F1, env, τ1, Dd, s.fin f1, q, E.mono f1.s.g⟩⟩
end
end Z
namespace Z
open PySem L2
/-! ### a slot gets a value -/
section
variable {K : PySem.W.Frag} {H0 G H : Hp} {F : Addr → Prop} {σ : L2.St} {env : List SV}
theorem EnvR.set {i : Nat} {s : SV} {v : V} (E : EnvR K H0 G F H σ env) (hs : SvR K H0 G F H s (some v)) (hne : ∀ xs, s = .ol xs → ∀ (j : Nat) ys, env[j]? = some (.ol ys) → σ[j]?.join ≠ some v) :
    EnvR K H0 G F H (σ.set i (some v)) (env.set i s) := by
  refine ⟨by rw [List.length_set, List.length_set]; exact E.len, fun j s' e => ?_, fun j k xs ys hjk ej ek => ?_⟩
  · by_cases q : i = j
    · subst q
      by_cases hl : i < env.length
      · rw [List.getElem?_set_self hl] at e
        cases e
        rw [List.getElem?_set_self (by rw [E.len]; exact hl)]
        exact hs
      · rw [List.getElem?_eq_none (by rw [List.length_set]; omega)] at e
        cases e
    · rw [List.getElem?_set_ne q] at e ⊢
      exact E.at' j s' e
  · have get : ∀ (m : Nat) zs, (env.set i s)[m]? = some (.ol zs) → (m = i ∧ s = .ol zs ∧ (σ.set i (some v))[m]? = some (some v)) ∨ (m ≠ i ∧ env[m]? = some (.ol zs) ∧ (σ.set i (some v))[m]? = σ[m]?) := fun m zs em => by
      by_cases q : m = i
      · subst q
        by_cases hl : m < env.length
        · rw [List.getElem?_set_self hl] at em
          exact .inl ⟨rfl, Option.some.inj em, List.getElem?_set_self (by rw [E.len]; exact hl)⟩
        · rw [List.getElem?_eq_none (by rw [List.length_set]; omega)] at em
          cases em
      · rw [List.getElem?_set_ne (Ne.symm q)] at em ⊢
        exact .inr ⟨q, em, rfl⟩
    rcases get j xs ej with ⟨hj, hs1, hv1⟩ | ⟨hj, he1, hv1⟩
    · rcases get k ys ek with ⟨hk, _, _⟩ | ⟨hk, he2, hv2⟩
      · exact absurd (hj.trans hk.symm) hjk
      · rw [hv1, hv2]
        exact fun z => hne xs hs1 k ys he2 z.symm
    · rcases get k ys ek with ⟨hk, hs2, hv2⟩ | ⟨hk, he2, hv2⟩
      · rw [hv1, hv2]
        exact hne ys hs2 j xs he1
      · rw [hv1, hv2]
        exact E.sep j k xs ys hjk he1 he2
theorem EnvR.setD {i : Nat} {x : D} {v : V} (E : EnvR K H0 G F H σ env) (hs : Rp K G v x) : EnvR K H0 G F H (σ.set i (some v)) (env.set i (.d x)) := E.set ⟨v, rfl, hs⟩ fun _ z => by cases z
/-- what is known of a slot is forgotten -/
theorem EnvR.drop {i : Nat} (E : EnvR K H0 G F H σ env) : EnvR K H0 G F H σ (env.set i .no) := by
  have get : ∀ (m : Nat) s, (env.set i .no)[m]? = some s → s = .no ∨ env[m]? = some s := fun m s em => by
    by_cases q : m = i
    · subst q
      by_cases hl : m < env.length
      · rw [List.getElem?_set_self hl] at em
        exact .inl (Option.some.inj em).symm
      · rw [List.getElem?_eq_none (by rw [List.length_set]; omega)] at em
        cases em
    · rw [List.getElem?_set_ne (Ne.symm q)] at em
      exact .inr em
  refine ⟨by rw [List.length_set]; exact E.len, fun j s e => ?_, fun j k xs ys hjk ej ek => ?_⟩
  · rcases get j s e with z | z
    · subst z; trivial
    · exact E.at' j s z
  · rcases get j _ ej with z | z
    · cases z
    · rcases get k _ ek with z2 | z2
      · cases z2
      · exact E.sep j k xs ys hjk z z2
end
def SV.sto : SV → Option SV
  | .d x => some (.d x)
  | .ol xs => some (.ol xs)
  | .raw v => some (.raw v)
  | _ => none
section
variable {B : Bk} {G G1 H H1 : Hp} {F F1 : Addr → Prop} {σ : L2.St} {env : List SV} {τ τ1 : B.T}
theorem StR.sto {i : Nat} {v : V} (s : StR B G F σ H env τ) (f : Fin B G F H τ1 G1 F1 H1) : ∀ {r a : SV}, Res B.K H G1 F1 H1 r v → r.sto = some a → StR B G1 F1 (σ.set i (some v)) H1 (env.set i a) τ1
  | .d x, _, r, e => by
    cases e
    have s1 := s.fin f
    exact ⟨s1.s, s1.k, s1.e.setD r⟩
  | .raw x, _, r, e => by
    cases e
    have s1 := s.fin f
    have r : v = x := r
    subst r
    exact ⟨s1.s, s1.k, s1.e.set (s := .raw v) rfl fun _ z => by cases z⟩
  | .no, _, r, _ => r.elim
  | .vw _, _, _, e => by cases e
  | .ol xs, _, ⟨p, e1, o⟩, e => by
    cases e
    subst e1
    have s1 := s.fin f
    refine ⟨s1.s, s1.k, s1.e.set (s := .ol xs) ⟨p, rfl, ⟨o.at', o.g, o.f, dead s.s.dom p o.new⟩⟩ fun _ _ j ys ej z => ?_⟩
    obtain ⟨q, e2, w⟩ := s.e.at' j _ ej
    rw [e2] at z
    cases z
    obtain ⟨vs, e3, _⟩ := w.at'
    rw [o.new] at e3
    cases e3
end
/-! ### targets -/
inductive Tg where
  | nm (i : Nat)
  | tp (ts : List Tg)
mutual
def tgH (K : PySem.W.Frag) : Tg → TG
  | .nm i => gName i
  | .tp ts => gTup K ts.length (tgHs K ts)
def tgHs (K : PySem.W.Frag) : List Tg → TGs
  | [] => gNil
  | t :: ts => gCons (tgH K t) (tgHs K ts)
end
mutual
def tgE : Tg → D → List SV → Option (List SV)
  | .nm i, x, env => some (env.set i (.d x))
  | .tp ts, .tuple xs, env => tgEs ts xs env
  | .tp _, _, _ => none
def tgEs : List Tg → List D → List SV → Option (List SV)
  | [], [], env => some env
  | t :: ts, y :: ys, env => (tgE t y env).bind (tgEs ts ys)
  | _, _, _ => none
end
/-- what follows a target's store -/
def opt {α : Type} (o : Option α) (Q : α → Prop) : Prop := match o with
  | some a => Q a
  | none => False
theorem opt_some {α : Type} {a : α} {Q : α → Prop} : opt (some a) Q = Q a := rfl
theorem opt_of {α : Type} {o : Option α} {Q : α → Prop} (h : opt o Q) : ∃ a, o = some a ∧ Q a := by
  cases o with
  | none => exact h.elim
  | some a => exact ⟨a, rfl, h⟩
mutual
def Tg.all (p : Nat → Bool) : Tg → Bool
  | .nm i => p i
  | .tp ts => Tg.alls p ts
def Tg.alls (p : Nat → Bool) : List Tg → Bool
  | [] => true
  | t :: ts => t.all p && Tg.alls p ts
end
theorem tgEs_len : ∀ (ts : List Tg) (xs : List D) (env env' : List SV), tgEs ts xs env = some env' → xs.length = ts.length
  | [], [], _, _, _ => rfl
  | [], _ :: _, _, _, h => by simp [tgEs] at h
  | _ :: _, [], _, _, h => by simp [tgEs] at h
  | t :: ts, y :: ys, env, env', h => by
    rw [tgEs] at h
    cases e : tgE t y env with
    | none => rw [e] at h; cases h
    | some e1 =>
      rw [e] at h
      exact congrArg Nat.succ (tgEs_len ts ys e1 env' h)
theorem wipe_get (σ : L2.St) (k : Nat) : ∀ vs : List Nat, (wipe σ vs)[k]? = if k ∈ vs then (if k < σ.length then some none else none) else σ[k]?
  | [] => by simp [wipe]
  | v :: vs => by
    have ih := wipe_get σ k vs
    rw [wipe]
    by_cases q : v = k
    · subst q
      rw [if_pos (by simp)]
      by_cases hl : v < σ.length
      · rw [List.getElem?_set_self (by rw [wipe_length]; exact hl), if_pos hl]
      · rw [List.getElem?_eq_none (by rw [List.length_set, wipe_length]; omega), if_neg hl]
    · rw [List.getElem?_set_ne q, ih]
      have : (k ∈ v :: vs) ↔ k ∈ vs := by
        rw [List.mem_cons]
        exact ⟨fun h => h.resolve_left fun z => q z.symm, .inr⟩
      by_cases h : k ∈ vs
      · rw [if_pos h, if_pos (this.mpr h)]
      · rw [if_neg h, if_neg fun z => h (this.mp z)]
theorem wipe_set_in {v : V} {vs : List Nat} {σ : L2.St} {i : Nat} (h : i ∈ vs) : wipe (σ.set i (some v)) vs = wipe σ vs := by
  apply List.ext_getElem?
  intro k
  rw [wipe_get, wipe_get, List.length_set]
  by_cases q : k ∈ vs
  · rw [if_pos q, if_pos q]
  · rw [if_neg q, if_neg q, List.getElem?_set_ne]
    intro z
    subst z
    exact q h
section
variable {B : Bk} {G H : Hp} {F : Addr → Prop} {τ : B.T}
mutual
theorem tg_ok (vs : List Nat) : ∀ (t : Tg) {x : D} {v : V} {σ : L2.St} {env env' : List SV} {Q : L2.St → Hp → Prop}, StR B G F σ H env τ → Rp B.K G v x → tgE t x env = some env' →
    (∀ σ', StR B G F σ' H env' τ → (t.all (· ∈ vs) = true → wipe σ' vs = wipe σ vs) → Q σ' H) → tgH B.K t v σ H Q
  | .nm i, x, v, σ, env, env', Q, s, r, e, k => by
    rw [tgE] at e
    cases e
    rw [tgH]
    exact k _ ⟨s.s, s.k, s.e.setD r⟩ fun h => wipe_set_in (by simpa [Tg.all] using h)
  | .tp ts, .tuple xs, v, σ, env, env', Q, s, r, e, k => by
    rw [tgE] at e
    have hl := tgEs_len ts xs env env' e
    rw [tgH]
    cases r with
    | tup h a => exact ⟨_, _, rfl, same_seqT s.k.same h, by rw [a.length]; exact hl, tgs_ok vs ts s a e fun σ' s' w => k σ' s' fun h => w (by simpa [Tg.all] using h)⟩
  | .tp _, .none, _, _, _, _, _, _, _, e, _ => by rw [tgE] at e; cases e; all_goals (intro _ z; cases z)
  | .tp _, .bool _, _, _, _, _, _, _, _, e, _ => by rw [tgE] at e; cases e; all_goals (intro _ z; cases z)
  | .tp _, .int _, _, _, _, _, _, _, _, e, _ => by rw [tgE] at e; cases e; all_goals (intro _ z; cases z)
  | .tp _, .str _, _, _, _, _, _, _, _, e, _ => by rw [tgE] at e; cases e; all_goals (intro _ z; cases z)
  | .tp _, .list _, _, _, _, _, _, _, _, e, _ => by rw [tgE] at e; cases e; all_goals (intro _ z; cases z)
  | .tp _, .dict _, _, _, _, _, _, _, _, e, _ => by rw [tgE] at e; cases e; all_goals (intro _ z; cases z)
theorem tgs_ok (vs : List Nat) : ∀ (ts : List Tg) {xs : List D} {ws : List V} {σ : L2.St} {env env' : List SV} {Q : L2.St → Hp → Prop}, StR B G F σ H env τ → RpAll B.K G ws xs → tgEs ts xs env = some env' →
    (∀ σ', StR B G F σ' H env' τ → (Tg.alls (· ∈ vs) ts = true → wipe σ' vs = wipe σ vs) → Q σ' H) → tgHs B.K ts ws σ H Q
  | [], [], _, σ, env, env', Q, s, .nil, e, k => by
    rw [tgEs] at e
    cases e
    rw [tgHs]
    exact ⟨rfl, k σ s fun _ => rfl⟩
  | t :: ts, y :: ys, _, σ, env, env', Q, s, .cons r a, e, k => by
    rw [tgEs] at e
    cases e1 : tgE t y env with
    | none => rw [e1] at e; cases e
    | some env1 =>
      rw [e1] at e
      rw [tgHs]
      refine ⟨_, _, rfl, tg_ok vs t s r e1 fun σ1 s1 w1 => tgs_ok vs ts s1 a e fun σ2 s2 w2 => k σ2 s2 fun h => ?_⟩
      rw [Tg.alls, Bool.and_eq_true] at h
      exact (w2 h.2).trans (w1 h.1)
  | [], _ :: _, _, _, _, _, _, _, _, e, _ => by simp [tgEs] at e
  | _ :: _, [], _, _, _, _, _, _, _, e, _ => by simp [tgEs] at e
end
end
end Z
namespace Z
open PySem L2
section
variable {X : Cx} {B : Bk} {e tg : Expr} {pos : Pos} {te : W B.T} {t : Tg} {i : Nat} {x : Str}
/-! ### assignments -/
def kStB {T : Type} (i : Nat) (D : DEnds T) (env : List SV) (τ : T) : Option SV → Prop
  | some a => D.nx (env.set i a) τ
  | none => False
def kSet {T : Type} (i : Nat) (D : DEnds T) (env : List SV) (r : SV) (τ : T) : Prop := kStB i D env τ r.sto
theorem kSet_of {T : Type} {i : Nat} {D : DEnds T} {env : List SV} {r : SV} {τ : T} (h : kSet i D env r τ) : ∃ a, r.sto = some a ∧ D.nx (env.set i a) τ := by
  unfold kSet at h
  cases e : r.sto with
  | none => rw [e] at h; exact False.elim h
  | some a => rw [e] at h; exact ⟨a, rfl, h⟩
def dSet {T : Type} (i : Nat) (te : W T) : WS T := fun D env τ => te env τ (kSet i D env)
theorem lift_set {te' : TE} (h : ∀ σ H Q, lift B te σ H Q → te' σ H Q) : ∀ D σ H, liftS B (dSet i te) D σ H → tAsg te' (gName i) D σ H := fun D σ H z9 => ex53 z9 fun G F env τ Dd s z E =>
  h _ _ _ ⟨G, F, env, τ, _, s, z, fun r τ1 G1 F1 H1 v f1 r1 q => by
    obtain ⟨a, e, q⟩ := kSet_of q
    exact E.nx G1 F1 _ H1 _ τ1 f1.s.g (s.sto f1 r1 e) q⟩
theorem ds_set {pos' : Pos} (hN : X.N.Nodup) (hi : X.N[i]? = some x) (hx : Loc X.env.scope x) (he : PE X e (lift B te)) (hs : swapsWith e (some (.Name x pos')) pos.line X.env = pure false := by rfl)
    (hf : X.fn x = true ∨ X.env.scope.names.lookup x = some .local := by first | exact .inl rfl | exact .inr rfl | assumption) : PS X (.Assign [.Name x pos'] e pos) (liftS B (dSet i te)) :=
  ps_imp (ps_set hN hi hx he hs hf) (lift_set fun _ _ _ h => h)
/-- target = e -/
def kEnv {T : Type} (D : DEnds T) (τ : T) : Option (List SV) → Prop
  | some env => D.nx env τ
  | none => False
def kAsB {T : Type} (t : Tg) (D : DEnds T) (env : List SV) (τ : T) : Option Z.D → Prop
  | some x => kEnv D τ (tgE t x env)
  | none => False
def kAsg {T : Type} (t : Tg) (D : DEnds T) (env : List SV) (r : SV) (τ : T) : Prop := kAsB t D env τ r.dat?
def dAsg {T : Type} (t : Tg) (te : W T) : WS T := fun D env τ => te env τ (kAsg t D env)
theorem dg_nm {pos' : Pos} (hN : X.N.Nodup) (hi : X.N[i]? = some x) (hx : Loc X.env.scope x) (hf : X.fn x = true ∨ X.env.scope.names.lookup x = some .local := by first | exact .inl rfl | exact .inr rfl | assumption) : PG X (.Name x pos') (tgH B.K (.nm i)) := by
  rw [tgH]
  exact pg_name hN hi hx hf
theorem dg_nil : PGs X [] (tgHs B.K []) := by
  rw [tgHs]
  exact pgs_nil
theorem dg_cons {es : List Expr} {t : Tg} {ts : List Tg} (h1 : PG X e (tgH B.K t)) (h2 : PGs X es (tgHs B.K ts)) (hs : (assignEach (e :: es) X.env).map (·.2) = assign e X.env :: (assignEach es X.env).map (·.2) := by rfl) : PGs X (e :: es) (tgHs B.K (t :: ts)) := by
  rw [tgHs]
  exact pgs_cons h1 h2 hs
theorem dg_tp (hK : X.K = B.K) {es : List Expr} {k : Nat} {ts : List Tg} (hc : X.calm = true) (h : PGs X es (tgHs B.K ts)) (hn : (assignEach es X.env).length = ts.length := by rfl) (hst : (assignEach es X.env).findIdx? (·.1) = none := by rfl) :
    PG X (.Tuple es k pos) (tgH B.K (.tp ts)) := by
  rw [tgH, ← hK]
  rw [← hK] at h
  exact pg_tup hc h hn hst
/-- a, b = x, y -/
def dPar {T : Type} (i j : Nat) (ta : WA T) : WS T := fun D env τ => ta env τ fun rs τ1 => match rs with
  | [.d x, .d y] => D.nx ((env.set i (.d x)).set j (.d y)) τ1
  | _ => False
theorem kPr2 {Q : D → D → Prop} {rs : List SV} (h : match rs with
  | [.d x, .d y] => Q x y
  | _ => False) : ∃ x y, rs = [.d x, .d y] ∧ Q x y := by
  cases rs with
  | nil => exact h.elim
  | cons a r =>
    cases r with
    | nil => cases a <;> exact h.elim
    | cons b r =>
      cases r with
      | nil => cases a with
        | d x => cases b with
          | d y => exact ⟨x, y, rfl, h⟩
          | _ => exact h.elim
        | _ => exact h.elim
      | cons _ _ => cases a with
        | d x => cases b <;> exact h.elim
        | _ => exact h.elim
theorem ds_par {j : Nat} {y : Str} {a b : Expr} {ta : WA B.T} {px py pt : Pos} {kt k2 pt2} (hc : X.calm = true) (hN : X.N.Nodup) (hi : X.N[i]? = some x) (hj : X.N[j]? = some y) (hij : i ≠ j)
    (hx : X.env.scope.names.lookup x = some .local) (hy : X.env.scope.names.lookup y = some .local) (ha : PA X [a, b] (liftA B ta))
    (hw : swappedStores [.Tuple [.Name x px, .Name y py] kt pt] (.Tuple [a, b] k2 pt2) X.env = pure (some [x, y]))
    (hs : swapsWithSole [.Tuple [.Name x px, .Name y py] kt pt] (.Tuple [a, b] k2 pt2) pos.line X.env = pure false := by rfl) :
    PS X (.Assign [.Tuple [.Name x px, .Name y py] kt pt] (.Tuple [a, b] k2 pt2) pos) (liftS B (dPar i j ta)) :=
  ps_imp (ps_par hc hN hi hj hij hx hy ha hw hs) fun D σ H z9 => ex53 z9 fun G F env τ Dd s z E => ⟨G, F, env, τ, _, s, z, fun rs τ1 G1 F1 H1 vs f1 r1 q => by
    obtain ⟨x, y, rfl, q⟩ := kPr2 q
    have s1 := s.fin f1
    cases r1 with
    | cons r2 r1 =>
      cases r1 with
      | cons r3 r1 =>
        cases r1
        exact ⟨_, _, rfl, E.nx G1 F1 _ H1 _ τ1 f1.s.g ⟨s1.s, s1.k, (s1.e.setD r2).setD r3⟩ q⟩⟩
/-! ### what is walked -/
/-- J walks xs from a state whose lasting part holds G on -/
structure ItR (B : Bk) (J : It) (G : Hp) (xs : List D) : Prop where
  go : ∀ (G1 H1 : Hp) (F1 : Addr → Prop) (τ1 : B.T), Same G G1 → Ok B.S B.K τ1 G1 F1 H1 → ∀ (i : Nat) (x : D), xs[i]? = some x → J.go i H1 ∧ ∀ v H2, J.yld i H1 v H2 → ∃ G2, Fin B G1 F1 H1 τ1 G2 F1 H2 ∧ Rp B.K G2 v x
  stop : ∀ (G1 H1 : Hp) (F1 : Addr → Prop) (τ1 : B.T), Same G G1 → Ok B.S B.K τ1 G1 F1 H1 → ∀ (i : Nat), xs.length ≤ i → J.stop i H1
abbrev WI (T : Type) := List SV → T → (List D → T → Prop) → Prop
def liftI (B : Bk) (ti : WI B.T) : TI := fun σ H R => ∃ G F env τ Qd, StR B G F σ H env τ ∧ ti env τ Qd ∧
  ∀ xs τ' G' F' H' J, Fin B G F H τ' G' F' H' → ItR B J G' xs → Qd xs τ' → R J H'
theorem pi_imp {iter : Expr} {w w' : TI} (h : PI X tg iter w) (i : ∀ σ H R, w' σ H R → w σ H R) : PI X tg iter w' := ⟨fun pins s σ H R I z => h.run pins s σ H R I (i σ H R z)⟩
/-- a list, a tuple or a text -/
def iSeq (K : PySem.W.Frag) (tl : TE) : TI := fun σ H R => tl σ H fun x H1 => (∃ a, x = .ref a ∧ (∃ xs, SqL K H1 a xs) ∧ R (Itl K a) H1) ∨ (∃ a, x = .ref a ∧ (∃ xs, SqT K H1 a xs) ∧ R (Itt K a) H1) ∨ ∃ z, x = .str z ∧ R (Its z) H1
theorem pi_seq {l : Expr} {tl : TE} (hl : PE X l tl) : PI X tg l (iSeq X.K tl) := by
  refine ⟨fun pins s σ H R I h => thn (hl.run pins s σ H _ I h) fun v s1 z => ?_⟩
  obtain ⟨x, H1, I1, r1, q1⟩ := z
  rcases q1 with ⟨a, ea, ⟨xs, hq⟩, q⟩ | ⟨a, ea, ⟨xs, hq⟩, q⟩ | ⟨w, ew, q⟩
  · subst ea; cases r1
    obtain ⟨its, rv, p, hz⟩ := I1.list hq
    exact wpAny_pyIter_list p.isList (pi_one (tk := s1.toks) I1 _ (turn_list a _) ⟨_, Heap.get?_push_size _ rfl, rfl, rfl⟩ q)
  · subst ea; cases r1
    obtain ⟨its, rv, p, hz⟩ := I1.tuple hq
    exact wpAny_pyIter_tuple (show s1.heap.IsTuple a its.toArray from p) (pi_one (tk := s1.toks) I1 _ (turn_tuple a _) ⟨_, Heap.get?_push_size _ rfl, rfl, rfl⟩ q)
  · subst ew
    obtain ⟨t, rfl⟩ := r1
    cases ha : w.cps.all (· < 128)
    · exact wpAny_pyIter_wide ha (pi_one (tk := s1.toks) I1 _ (turn_str _ w t "str_iterator" (.inr rfl)) ⟨_, Heap.get?_push_size _ rfl, rfl, rfl⟩ q)
    · exact wpAny_pyIter_ascii ha (pi_one (tk := s1.toks) I1 _ (turn_str _ w t "str_ascii_iterator" (.inl rfl)) ⟨_, Heap.get?_push_size _ rfl, rfl, rfl⟩ q)
/-- one sign as a text -/
def sg (c : Nat) : D := .str ⟨#[c]⟩
def SV.seq? : SV → Option (List D)
  | .d (.list xs) => some xs
  | .d (.tuple xs) => some xs
  | .d (.str z) => some (z.cps.toList.map sg)
  | .ol xs => some xs
  | _ => none
def kSqB {T : Type} (Q : List D → T → Prop) (τ : T) : Option (List D) → Prop
  | some xs => Q xs τ
  | none => False
def kSq {T : Type} (Q : List D → T → Prop) (r : SV) (τ : T) : Prop := kSqB Q τ r.seq?
theorem kSq_of {T : Type} {Q : List D → T → Prop} {r : SV} {τ : T} (h : kSq Q r τ) : ∃ xs, r.seq? = some xs ∧ Q xs τ := by
  unfold kSq at h
  cases e : r.seq? with
  | none => rw [e] at h; exact False.elim h
  | some xs => rw [e] at h; exact ⟨xs, rfl, h⟩
def dSeqI {T : Type} (te : W T) : WI T := fun env τ Q => te env τ (kSq Q)
theorem itr_l {G : Hp} {a : Addr} {vs : List V} {xs : List D} (h : SqP B.K G a vs) (r : RpAll B.K G vs xs) : ItR B (Itl B.K a) G xs where
  go := fun G1 H1 F1 τ1 sm k i x e => by
    obtain ⟨v, ev, rv⟩ := r.getD e
    refine ⟨⟨vs, v, (same_sqp (sm.trans k.same) h).sql, ev⟩, fun w H2 ⟨e2, y⟩ => ?_⟩
    subst e2
    have := y vs ((same_sqp (sm.trans k.same) h).sql)
    rw [ev] at this
    cases this
    exact ⟨G1, .rfl' k, rv.mono sm⟩
  stop := fun G1 H1 F1 τ1 sm k i hi => ⟨vs, (same_sqp (sm.trans k.same) h).sql, by rw [r.length]; exact hi⟩
theorem itr_t {G : Hp} {a : Addr} {vs : List V} {xs : List D} (h : SqTP B.K G a vs) (r : RpAll B.K G vs xs) : ItR B (Itt B.K a) G xs where
  go := fun G1 H1 F1 τ1 sm k i x e => by
    obtain ⟨v, ev, rv⟩ := r.getD e
    refine ⟨⟨vs, v, same_seqT (sm.trans k.same) h, ev⟩, fun w H2 ⟨e2, y⟩ => ?_⟩
    subst e2
    have := y vs (same_seqT (sm.trans k.same) h)
    rw [ev] at this
    cases this
    exact ⟨G1, .rfl' k, rv.mono sm⟩
  stop := fun G1 H1 F1 τ1 sm k i hi => ⟨vs, same_seqT (sm.trans k.same) h, by rw [r.length]; exact hi⟩
theorem itr_s {G : Hp} {z : Str} : ItR B (Its z) G (z.cps.toList.map sg) where
  go := fun G1 H1 F1 τ1 sm k i x e => by
    rw [List.getElem?_map] at e
    cases q : z.cps.toList[i]? with
    | none => rw [q] at e; cases e
    | some c =>
      rw [q] at e
      cases e
      have q' : z.cps[i]? = some c := by simpa using q
      refine ⟨(Array.getElem?_eq_some_iff.mp q').1, fun w H2 ⟨e2, c', e3, e4⟩ => ?_⟩
      subst e2 e4
      rw [q'] at e3
      cases e3
      exact ⟨G1, .rfl' k, .str _⟩
  stop := fun G1 H1 F1 τ1 sm k i hi => by
    rw [List.length_map, Array.length_toList] at hi
    exact hi
theorem di_seq (hK : X.K = B.K) {l : Expr} (hl : PE X l (lift B te)) : PI X tg l (liftI B (dSeqI te)) :=
  pi_imp (pi_seq hl) fun σ H R z9 => ex53 z9 fun G F env τ Qd s t k => ⟨G, F, env, τ, _, s, t, fun r τ1 G1 F1 H1 v f1 r1 q => by
    obtain ⟨xs, e, q⟩ := kSq_of q
    rw [hK]
    cases r with
    | d x =>
      have hr : Rp B.K G1 v x := r1
      clear r1
      cases hr with
      | lst h a => cases e; exact .inl ⟨_, rfl, ⟨_, (same_sqp f1.k.same h).sql⟩, k _ _ _ _ _ _ f1 (itr_l h a) q⟩
      | tup h a => cases e; exact .inr (.inl ⟨_, rfl, ⟨_, same_seqT f1.k.same h⟩, k _ _ _ _ _ _ f1 (itr_t h a) q⟩)
      | str z => cases e; exact .inr (.inr ⟨z, rfl, k _ _ _ _ _ _ f1 itr_s q⟩)
      | _ => cases e
    | ol ys =>
      obtain ⟨p, e1, o⟩ := r1
      cases e
      subst e1
      obtain ⟨G2, f2, sm, r2⟩ := f1.frz o
      cases r2 with
      | lst h a => exact .inl ⟨_, rfl, ⟨_, (same_sqp f2.k.same h).sql⟩, k _ _ _ _ _ _ f2 (itr_l h a) q⟩
    | _ => cases e⟩
/-- lo, lo + 1, .. -/
def rgI (lo : Int) (n : Nat) : List D := (List.range n).map fun i => .int (lo + (i : Nat))
theorem itr_r {G : Hp} {lo : Int} {n : Nat} : ItR B (Itr lo n) G (rgI lo n) where
  go := fun G1 H1 F1 τ1 sm k i x e => by
    unfold rgI at e
    rw [List.getElem?_map] at e
    by_cases hi : i < n
    · rw [List.getElem?_range hi] at e
      cases e
      refine ⟨hi, fun w H2 ⟨e2, e3⟩ => ?_⟩
      subst e2 e3
      exact ⟨G1, .rfl' k, .int _⟩
    · rw [List.getElem?_eq_none (by rw [List.length_range]; omega)] at e
      cases e
  stop := fun G1 H1 F1 τ1 sm k i hi => by
    unfold rgI at hi
    rw [List.length_map, List.length_range] at hi
    exact hi
def kR1 {T : Type} (Q : List D → T → Prop) (rs : List SV) (τ : T) : Prop := match rs with
  | [.d (.int j)] => (-(2 ^ 62) ≤ j ∧ j < 2 ^ 62) ∧ Q (rgI 0 j.toNat) τ
  | _ => False
def kR2 {T : Type} (Q : List D → T → Prop) (rs : List SV) (τ : T) : Prop := match rs with
  | [.d (.int i), .d (.int j)] => (-(2 ^ 62) ≤ i ∧ i < 2 ^ 62 ∧ -(2 ^ 62) ≤ j ∧ j < 2 ^ 62) ∧ Q (rgI i (j - i).toNat) τ
  | _ => False
theorem kR1_of {T : Type} {Q : List D → T → Prop} {rs : List SV} {τ : T} (h : kR1 Q rs τ) : ∃ j : Int, rs = [.d (.int j)] ∧ (-(2 ^ 62) ≤ j ∧ j < 2 ^ 62) ∧ Q (rgI 0 j.toNat) τ := by
  unfold kR1 at h
  split at h
  · exact ⟨_, rfl, h⟩
  · exact False.elim h
theorem kR2_of {T : Type} {Q : List D → T → Prop} {rs : List SV} {τ : T} (h : kR2 Q rs τ) : ∃ i j : Int, rs = [.d (.int i), .d (.int j)] ∧ (-(2 ^ 62) ≤ i ∧ i < 2 ^ 62 ∧ -(2 ^ 62) ≤ j ∧ j < 2 ^ 62) ∧ Q (rgI i (j - i).toNat) τ := by
  unfold kR2 at h
  split at h
  · exact ⟨_, _, rfl, h⟩
  · exact False.elim h
def dRng1 {T : Type} (ta : WA T) : WI T := fun env τ Q => ta env τ (kR1 Q)
def dRng2 {T : Type} (ta : WA T) : WI T := fun env τ Q => ta env τ (kR2 Q)
theorem di_range1 {a : Expr} {ta : WA B.T} {p : Pos} (hg : Gl X "range") (hm : X.mg "range" = none) (ha : PA X [a] (liftA B ta)) (hs : starEach [a] X.env = [(false, eval a X.env)] := by rfl) : PI X tg (.Call (.Name "range" p) [a] [] pos) (liftI B (dRng1 ta)) :=
  pi_imp (pi_range1 hg hm ha hs) fun σ H R z9 => ex53 z9 fun G F env τ Qd s t k => ⟨G, F, env, τ, _, s, t, fun rs τ1 G1 F1 H1 vs f1 r1 q0 => by
    obtain ⟨j, e, h, q⟩ := kR1_of q0
    subst e
    cases r1 with
    | cons r r' =>
      cases r'
      exact ⟨j, by rw [rint r], h.1, h.2, k _ _ _ _ _ _ f1 itr_r q⟩⟩
theorem di_range2 {a b : Expr} {ta : WA B.T} {p : Pos} (hg : Gl X "range") (hm : X.mg "range" = none) (ha : PA X [a, b] (liftA B ta)) (hs : starEach [a, b] X.env = [(false, eval a X.env), (false, eval b X.env)] := by rfl) (hs2 : starEach [b] X.env = [(false, eval b X.env)] := by rfl) :
    PI X tg (.Call (.Name "range" p) [a, b] [] pos) (liftI B (dRng2 ta)) :=
  pi_imp (pi_range2 hg hm ha hs hs2) fun σ H R z9 => ex53 z9 fun G F env τ Qd s t k => ⟨G, F, env, τ, _, s, t, fun rs τ1 G1 F1 H1 vs f1 r1 q0 => by
    obtain ⟨i, j, e, h, q⟩ := kR2_of q0
    subst e
    cases r1 with
    | cons r r' =>
      cases r' with
      | cons r2 r3 =>
        cases r3
        exact ⟨i, j, by rw [rint r, rint r2], h, k _ _ _ _ _ _ f1 itr_r q⟩⟩
end
end Z
namespace Z
open PySem L2
section
variable {X : Cx} {B : Bk} {e tg iter : Expr} {pos : Pos} {te : W B.T} {t : Tg} {i : Nat} {x : Str} {body : List Stmt} {tb : WS B.T} {ti : WI B.T} {tc : WT B.T}
/-! ### for -/
def forW {T : Type} (t : Tg) (tb : WS T) (D : DEnds T) : List Z.D → List SV → T → Prop
  | [], env, τ => D.nx env τ
  | x :: xs, env, τ => opt (tgE t x env) fun env' => tb { D with nx := forW t tb D xs, ct := forW t tb D xs, bk := D.nx } env' τ
def dFor {T : Type} (ti : WI T) (t : Tg) (tb : WS T) : WS T := fun D env τ => ti env τ fun xs τ1 => forW t tb D xs env τ1
theorem ds_for (hp : PassesOwn (model X.prog X.w) X.A X.env X.xe) (hc : X.calm = true) (hi : PI X tg iter (liftI B ti)) (hg : PG X tg (tgH B.K t)) (hb : PSs X body (liftS B tb))
    (hs : ∀ x, foldedSetIterable iter X.env x = pure x := by intro _; rfl) : PS X (.For tg iter body [] pos) (liftS B (dFor ti t tb)) :=
  ps_imp (ps_for hp hc hi hg hb hs) fun D σ H z9 => ex53 z9 fun G F env τ Dd s h E => ⟨G, F, env, τ, _, s, h, fun xs τ1 G1 F1 H1 J f1 it q => by
    refine ⟨fun i m σ H => m = xs.length - i ∧ i ≤ xs.length ∧ ∃ G2 F2 env2 τ2, StR B G2 F2 σ H env2 τ2 ∧ Same G1 G2 ∧ forW t tb Dd (xs.drop i) env2 τ2, ⟨_, rfl, Nat.zero_le _, G1, F1, env, τ1, s.fin f1, Same.refl _, q⟩, ?_⟩
    rintro i m σ2 H2 ⟨rfl, hi, G2, F2, env2, τ2, s2, sm, q2⟩
    by_cases hl : i < xs.length
    · have hx : xs[i]? = some xs[i] := List.getElem?_eq_getElem hl
      obtain ⟨g, y⟩ := it.go G2 H2 F2 τ2 sm s2.k i _ hx
      rw [List.drop_eq_getElem_cons hl, forW] at q2
      obtain ⟨env3, e3, q3⟩ := opt_of q2
      refine .inr ⟨g, fun σ' H' => ∃ G4 F4 env4 τ4, StR B G4 F4 σ' H' env4 τ4 ∧ Same G1 G4 ∧ forW t tb Dd (xs.drop (i + 1)) env4 τ4, fun σ' H' n => ⟨_, by omega, rfl, by omega, n⟩, fun v H3 yl => ?_⟩
      obtain ⟨G3, f3, r3⟩ := y v H3 yl
      refine tg_ok [] t (s2.fin f3) r3 e3 fun σ' s' _ => ⟨G3, F2, env3, τ2, _, s', q3, ⟨?_, E.rt, ?_, ?_⟩⟩
      · exact fun G' F' σ' H' env' τ' smx sx qx => ⟨G', F', env', τ', sx, sm.trans (f3.s.g.trans smx), qx⟩
      · exact fun G' F' σ' H' env' τ' smx sx qx => E.nx G' F' σ' H' env' τ' (f1.s.g.trans (sm.trans (f3.s.g.trans smx))) sx qx
      · exact fun G' F' σ' H' env' τ' smx sx qx => ⟨G', F', env', τ', sx, sm.trans (f3.s.g.trans smx), qx⟩
    · rw [List.drop_eq_nil_of_le (by omega), forW] at q2
      exact .inl ⟨it.stop G2 H2 F2 τ2 sm s2.k i (by omega), E.nx G2 F2 σ2 H2 env2 τ2 (f1.s.g.trans sm) s2 q2⟩⟩
/-! ### while -/
def whileW {T : Type} (c : WT T) (tb : WS T) (D : DEnds T) : Nat → List SV → T → Prop
  | 0, _, _ => False
  | n + 1, env, τ => c env τ fun k τ1 => if k = true then tb { D with nx := whileW c tb D n, ct := whileW c tb D n, bk := D.nx } env τ1 else D.nx env τ1
def dWhile {T : Type} (c : WT T) (tb : WS T) : WS T := fun D env τ => ∃ n, whileW c tb D n env τ
/-! ### comprehensions -/
def wipeE (env : List SV) : List Nat → List SV
  | [] => env
  | v :: vs => (wipeE env vs).set v .no
theorem EnvR.wipe {K : PySem.W.Frag} {H0 G H : Hp} {F : Addr → Prop} {σ : L2.St} {env : List SV} (E : EnvR K H0 G F H σ env) : ∀ vs : List Nat, EnvR K H0 G F H (L2.wipe σ vs) (wipeE env vs)
  | [] => E
  | v :: vs => by
    have ih := (E.wipe vs).drop (i := v)
    rw [L2.wipe, wipeE]
    refine ⟨by rw [List.length_set]; exact ih.len, fun j s e => ?_, fun j k xs ys hjk ej ek => ?_⟩
    · have a := ih.at' j s e
      by_cases q : v = j
      · subst q
        by_cases hl : v < (wipeE env vs).length
        · rw [List.getElem?_set_self hl] at e
          cases e
          trivial
        · rw [List.getElem?_eq_none (by rw [List.length_set]; omega)] at e
          cases e
      · rw [List.getElem?_set_ne q]
        exact a
    · have no : ∀ (m : Nat) zs, ((wipeE env vs).set v .no)[m]? = some (.ol zs) → v ≠ m := fun m zs em q => by
        subst q
        by_cases hl : v < (wipeE env vs).length
        · rw [List.getElem?_set_self hl] at em
          cases em
        · rw [List.getElem?_eq_none (by rw [List.length_set]; omega)] at em
          cases em
      rw [List.getElem?_set_ne (no j xs ej), List.getElem?_set_ne (no k ys ek)]
      exact ih.sep j k xs ys hjk ej ek
def lcW {T : Type} (t : Tg) (tt : WT T) (te : W T) (Q : List D → T → Prop) : List D → List D → List SV → T → Prop
  | [], acc, _, τ => Q acc τ
  | x :: xs, acc, env, τ => opt (tgE t x env) fun env' => tt env' τ fun b τ1 => if b = true then te env' τ1 fun r τ2 => opt r.dat? fun y => acc.length < sizeLine ∧ lcW t tt te Q xs (acc ++ [y]) env τ2 else lcW t tt te Q xs acc env τ1
def dLc {T : Type} (ti : WI T) (t : Tg) (tt : WT T) (te : W T) (vs : List Nat) : W T := fun env τ Q => ti env τ fun xs τ1 => lcW t tt te (fun acc τ2 => Q (.ol acc) τ2) xs [] (wipeE env vs) τ1
theorem wipe_idem (σ : L2.St) (vs : List Nat) : wipe (wipe σ vs) vs = wipe σ vs := by
  apply List.ext_getElem?
  intro k
  rw [wipe_get, wipe_get, wipe_length]
  by_cases q : k ∈ vs
  · rw [if_pos q, if_pos q]
  · rw [if_neg q, if_neg q]
/-- an own list, newer than H, is changed -/
theorem Fin.mut {G G2 H H' : Hp} {F F2 : Addr → Prop} {τ : B.T} {p : Addr} {acc acc' : List D} {ws : List V} (f : Fin B G F H τ G2 F2 H') (o : Own B.K H G2 F2 H' p acc) (a : RpAll B.K G2 ws acc') :
    Fin B G F H τ G2 F2 (upd H' p (.lst ws)) ∧ Own B.K H G2 F2 (upd H' p (.lst ws)) p acc' := by
  refine ⟨⟨⟨f.s.g, fun b u nf e => ?_, f.s.gn, f.s.fn, f.s.ff, fun b e => ?_⟩, f.k.mut o.g o.f⟩, ⟨⟨ws, upd_same, a⟩, o.g, o.f, o.new⟩⟩
  · rw [upd_ne (ne_of_none e o.new)]
    exact f.s.h b u nf e
  · by_cases q : b = p
    · subst q
      exact absurd o.new e
    · rw [upd_ne q]
      exact f.s.dom b e
theorem lift_lc {tt : WT B.T} {vs : List Nat} (ht : t.all (· ∈ vs) = true) : ∀ σ H Q, lift B (dLc ti t tt te vs) σ H Q → tLc (liftI B ti) (tgH B.K t) (liftT B tt) (lift B te) vs σ H Q := fun σ H Q z9 => ex53 z9 fun G F env τ Qd s h k => by
  refine ⟨G, F, env, τ, _, s, h, fun xs τ1 G1 F1 H1 J f1 it q D hD => ?_⟩
  let P : Nat → Hp → Prop := fun i H' => ∃ G2 F2 τ2 acc, Fin B G1 F1 H1 τ2 G2 F2 H' ∧ Own B.K H1 G2 F2 H' D acc ∧ lcW t tt te (fun acc τ2 => Qd (.ol acc) τ2) (xs.drop i) acc (wipeE env vs) τ2
  refine ⟨fun i m H' => m = xs.length - i ∧ i ≤ xs.length ∧ P i H', ⟨_, rfl, Nat.zero_le _, ?_⟩, ?_⟩
  · obtain ⟨f2, p, e, o⟩ := new_lst (p := D) f1.k hD (.nil : RpAll B.K G1 [] [])
    cases e
    exact ⟨G1, F1, τ1, [], f2, o, q⟩
  rintro i m H2 ⟨rfl, hi, G2, F2, τ2, acc, f2, o2, q2⟩
  by_cases hl : i < xs.length
  · have hx : xs[i]? = some xs[i] := List.getElem?_eq_getElem hl
    obtain ⟨g, y⟩ := it.go G2 H2 F2 τ2 f2.s.g f2.k i _ hx
    rw [List.drop_eq_getElem_cons hl, lcW] at q2
    obtain ⟨env3, e3, q3⟩ := opt_of q2
    refine .inr ⟨g, P (i + 1), fun H' n => ⟨_, by omega, rfl, by omega, n⟩, fun v H3 yl => ?_⟩
    obtain ⟨G3, f3, r3⟩ := y v H3 yl
    have f23 := f2.trans f3
    have s3 := (s.fin f1).fin f23
    have o3 := o2.step f3.s
    refine tg_ok vs t ⟨s3.s, s3.k, s3.e.wipe vs⟩ r3 e3 fun σ' s' w => ⟨(w ht).trans (wipe_idem σ vs), G3, F2, env3, τ2, _, s', q3, fun b τ4 G4 F4 H4 f4 q4 => ?_⟩
    have f24 := f23.trans f4
    have o4 := o3.step f4.s
    cases b with
    | false => exact iteF ⟨G4, F4, τ4, acc, f24, o4, q4⟩
    | true =>
      refine iteT ⟨G4, F4, env3, τ4, _, s'.fin f4, q4, fun r τ5 G5 F5 H5 v5 f5 r5 q5 => ?_⟩
      obtain ⟨z, e5, hz, q5⟩ := opt_of q5
      obtain ⟨G6, f6, sm, r6⟩ := r5.dat f5 e5
      have f26 := f24.trans f6
      have o6 := o4.step f6.s
      obtain ⟨ws, ew, aw⟩ := o6.at'
      obtain ⟨f7, o7⟩ := f26.mut o6 (aw.append (.cons r6 .nil))
      exact ⟨ws, ew, by rw [aw.length]; exact hz, G6, F5, τ5, acc ++ [z], f7, o7, q5⟩
  · rw [List.drop_eq_nil_of_le (by omega), lcW] at q2
    exact .inl ⟨it.stop G2 H2 F2 τ2 f2.s.g f2.k i (by omega), k (.ol acc) τ2 G2 F2 H2 (.ref D) (f1.trans f2) ⟨D, rfl, o2.at', o2.g, o2.f, dead f1.s.dom D o2.new⟩ q2⟩
/-- no test -/
def dYes {T : Type} : WT T := fun _ τ Q => Q true τ
theorem dts_one {c : Expr} (h : PT X c (liftT B tc)) : PTs X [c] (liftT B tc) := pts_one h
theorem de_lc {elt : Expr} {ifs : List Expr} {scope : Scope} {own : List (Str × Nat)} {tt : WT B.T} (hc : X.calm = true) (hN : X.N.Nodup) (hi : PI X tg iter (liftI B ti)) (ok : BlkOk X.N X.env.scope scope own) (hv : t.all (· ∈ own.map (·.2)) = true)
    (hg : ∀ (s : Shared) (H : Hp) (C : Addr) (cl : List (Str × Addr)) (fp : List Addr), PG (X.blk s H scope (compEnvC scope cl C X.env) fp) tg (tgH B.K t)) (ht : ∀ (s : Shared) (H : Hp) (C : Addr) (cl : List (Str × Addr)) (fp : List Addr), PTs (X.blk s H scope (compEnvC scope cl C X.env) fp) ifs (liftT B tt))
    (he : ∀ (s : Shared) (H : Hp) (C : Addr) (cl : List (Str × Addr)) (fp : List Addr), PE (X.blk s H scope (compEnvC scope cl C X.env) fp) elt (lift B te)) (hs : ∀ x, foldedSetIterable iter X.env x = pure x := by intro _; rfl) :
    PE X (.ListComp elt [⟨tg, iter, ifs, 0⟩] scope pos) (lift B (dLc ti t tt te (own.map (·.2)))) := pe_imp (pe_lc hc hN hi ok hg ht he hs) (lift_lc hv)
/-! ### own lists -/
/-- from here on the list in slot i never changes -/
def kFrz {T : Type} (i : Nat) (t : WS T) (D : DEnds T) (env : List SV) (τ : T) : Option SV → Prop
  | some (.ol xs) => t D (env.set i (.d (.list xs))) τ
  | some (.d (.list xs)) => t D env τ
  | _ => False
def dFrz {T : Type} (i : Nat) (t : WS T) : WS T := fun D env τ => kFrz i t D env τ env[i]?
theorem StR.frz {G H : Hp} {F : Addr → Prop} {σ : L2.St} {env : List SV} {τ : B.T} {xs : List D} (s : StR B G F σ H env τ) (e : env[i]? = some (.ol xs)) : ∃ G2, Same G G2 ∧ StR B G2 F σ H (env.set i (.d (.list xs))) τ := by
  obtain ⟨p, e1, o⟩ := s.e.at' i _ e
  obtain ⟨⟨ws, ew, aw⟩, og, onf, onew⟩ := id o
  have hl : i < env.length := (List.getElem?_eq_some_iff.mp e).1
  have hs : σ[i]? = some (some (.ref p)) := by
    cases z : σ[i]? with
    | none => rw [z] at e1; cases e1
    | some u => rw [z] at e1; exact congrArg some e1
  have sm : Same G (upd G p (.lst ws)) := fun b u z => by rw [upd_ne (ne_of_none z og)]; exact z
  have st : Step B.G B.F B.H (upd G p (.lst ws)) F H := ⟨s.s.g.trans sm, s.s.h, fun b u z => by
    by_cases q : b = p
    · subst q; exact .inr (.inl onew)
    · rw [upd_ne q] at z; exact s.s.gn b u z, s.s.fn, s.s.ff, s.s.dom⟩
  have stay : ∀ (j : Nat) sv, i ≠ j → env[j]? = some sv → SvR B.K B.H (upd G p (.lst ws)) F H sv (σ[j]?.join) := fun j sv hj ej => by
    have h := s.e.at' j sv ej
    cases sv with
    | no => trivial
    | vw _ => exact h
    | raw v => exact h
    | d y =>
      obtain ⟨v, e2, r2⟩ := h
      exact ⟨v, e2, r2.mono sm⟩
    | ol ys =>
      obtain ⟨q, e2, w⟩ := h
      obtain ⟨vs, e3, a⟩ := w.at'
      refine ⟨q, e2, ⟨vs, e3, a.mono sm⟩, ?_, w.f, w.new⟩
      have : q ≠ p := fun z => by
        subst z
        exact s.e.sep i j xs ys hj e ej (e1.trans e2.symm)
      rw [upd_ne this]
      exact w.g
  have get : ∀ (m : Nat) sv, (env.set i (.d (.list xs)))[m]? = some sv → (m = i ∧ sv = .d (.list xs)) ∨ (i ≠ m ∧ env[m]? = some sv) := fun m sv em => by
    by_cases q : i = m
    · subst q
      rw [List.getElem?_set_self hl] at em
      exact .inl ⟨rfl, (Option.some.inj em).symm⟩
    · rw [List.getElem?_set_ne q] at em
      exact .inr ⟨q, em⟩
  refine ⟨upd G p (.lst ws), sm, st, s.k.frz ew og onf, by rw [List.length_set]; exact s.e.len, fun j sv ej => ?_, fun j k ys zs hjk ej ek => ?_⟩
  · rcases get j sv ej with ⟨rfl, rfl⟩ | ⟨q, ej⟩
    · rw [hs]
      exact ⟨.ref p, rfl, Rp.lst (.inl (.inl upd_same)) (aw.mono sm)⟩
    · exact stay j sv q ej
  · rcases get j _ ej with ⟨_, z⟩ | ⟨_, ej⟩
    · cases z
    · rcases get k _ ek with ⟨_, z⟩ | ⟨_, ek⟩
      · cases z
      · exact s.e.sep j k ys zs hjk ej ek
/-- the own list in slot i is changed -/
theorem StR.mut {G H : Hp} {F : Addr → Prop} {σ : L2.St} {env : List SV} {τ : B.T} {xs xs' : List D} {p : Addr} {ws : List V} (s : StR B G F σ H env τ) (e : env[i]? = some (.ol xs)) (e1 : σ[i]?.join = some (.ref p)) (a : RpAll B.K G ws xs') :
    StR B G F σ (upd H p (.lst ws)) (env.set i (.ol xs')) τ := by
  obtain ⟨p', e2, o⟩ := s.e.at' i _ e
  have : p' = p := by
    rw [e1] at e2
    cases e2
    rfl
  subst this
  have hl : i < env.length := (List.getElem?_eq_some_iff.mp e).1
  obtain ⟨f, o'⟩ := s.out.mut o a
  have get : ∀ (m : Nat) sv, (env.set i (.ol xs'))[m]? = some sv → (m = i ∧ sv = .ol xs') ∨ (i ≠ m ∧ env[m]? = some sv) := fun m sv em => by
    by_cases q : i = m
    · subst q
      rw [List.getElem?_set_self hl] at em
      exact .inl ⟨rfl, (Option.some.inj em).symm⟩
    · rw [List.getElem?_set_ne q] at em
      exact .inr ⟨q, em⟩
  have was : ∀ (m : Nat) zs, (env.set i (.ol xs'))[m]? = some (.ol zs) → ∃ zs', env[m]? = some (.ol zs') := fun m zs em => by
    rcases get m _ em with ⟨rfl, _⟩ | ⟨_, h⟩
    · exact ⟨xs, e⟩
    · exact ⟨zs, h⟩
  refine ⟨f.s, f.k, by rw [List.length_set]; exact s.e.len, fun j sv ej => ?_, fun j k ys zs hjk ej ek => ?_⟩
  · rcases get j sv ej with ⟨rfl, rfl⟩ | ⟨q, ej⟩
    · exact ⟨p', e1, o'⟩
    · have h := s.e.at' j sv ej
      cases sv with
      | no => trivial
      | vw _ => exact h
      | raw v => exact h
      | d y => exact h
      | ol ys =>
        obtain ⟨q', e3, w⟩ := h
        obtain ⟨vs, e4, a4⟩ := w.at'
        have : q' ≠ p' := fun z => by
          subst z
          exact s.e.sep i j xs ys q e ej (e1.trans e3.symm)
        exact ⟨q', e3, ⟨vs, by rw [upd_ne this]; exact e4, a4⟩, w.g, w.f, w.new⟩
  · obtain ⟨ys', ej'⟩ := was j ys ej
    obtain ⟨zs', ek'⟩ := was k zs ek
    exact s.e.sep j k ys' zs' hjk ej' ek'
end
end Z
namespace Z
open PySem L2
/-! ### defs -/
abbrev FW (T : Type) := List SV → T → (SV → T → Prop) → Prop
def SV.dr : SV → Bool
  | .d _ => true
  | .raw _ => true
  | _ => false
/-- a def's promise, by data -/
def spD (S : Sto) (K : PySem.W.Frag) (FF : FW S.T) : Sp := fun vs H Q _ => ∃ G F τ rs Qd Ha, Ok S K τ G F H ∧ ResAll K Ha G F H rs vs ∧ rs.all SV.dr = true ∧ FF rs τ Qd ∧
  ∀ r τ' G' F' H' v, Step G F H G' F' H' → Ok S K τ' G' F' H' → Res K H G' F' H' r v → Qd r τ' → Q v H'
def dCall {T : Type} (FF : FW T) (ta : WA T) : W T := fun env τ Q => ta env τ fun rs τ1 => rs.all SV.dr = true ∧ FF rs τ1 Q
section
variable {X : Cx} {B : Bk} {e : Expr} {es : List Expr} {pos p : Pos} {ta : WA B.T} {FF : FW B.S.T} {f : Addr} {fd : FuncData} {ps : List Str} {k : Nat} {x : Str}
theorem lift_call {E : XK} (hK : X.K = B.K) : ∀ σ H Q, lift B (dCall FF ta) σ H Q → tCall (spD B.S B.K FF) [] E (liftA B ta) σ H Q := fun σ H Q z9 => ex53 z9 fun G F env τ Qd s t k =>
  ⟨G, F, env, τ, _, s, t, fun rs τ1 G1 F1 H1 vs f1 r1 ⟨dr, q⟩ => by
    show spD B.S B.K FF (vs ++ []) H1 Q E
    rw [List.append_nil]
    exact ⟨G1, F1, τ1, rs, Qd, H, f1.k, r1, dr, q, fun r τ' G' F' H' v st ok res qd => k r τ' G' F' H' v (f1.trans ⟨st, ok⟩) (res.back (dead f1.s.dom)) qd⟩⟩
theorem de_call (hK : X.K = B.K) (F : FnOk X.prog X.w X.K X.mg X.base CX0 k f fd ps (spD B.S B.K FF)) (hr : Room k X.A) (hg : Gl X x) (hm : X.mg x = some (.ref f)) (hk : PySem.W.keepIn X.K (.ref f) = true) (hb : Binds X.K fd ps [])
    (ha : PA X (e :: es) (liftA B ta)) (hdb : (x == ("__debug__" : Str)) = false := by decide) (he : starEach (e :: es) X.env = (false, eval e X.env) :: starEach es X.env := by rfl) (hpl : (backTo pos (starEach es X.env)).any (·.1) = false := by rfl) :
    PE X (.Call (.Name x p) (e :: es) [] pos) (lift B (dCall FF ta)) := pe_imp (pe_call F hr hg hm hk hb .nil (pass0 (X := X)) ha hdb he hpl) (lift_call hK)
end
section
variable {P : Program} {w : World} {S : Sto} {K : PySem.W.Frag} {mg : Str → Option Value} {base : Heap}
theorem ResAll.slot {K : PySem.W.Frag} {Ha H0 G F H} : ∀ {rs : List SV} {vs : List V} (i : Nat) (s : SV), ResAll K Ha G F H rs vs → rs.all SV.dr = true → rs[i]? = some s → SvR K H0 G F H s ((vs.map some)[i]?.join)
  | _, _, _, _, .nil, _, e => by simp at e
  | .d x :: r, v :: vs, 0, s, .cons h t, _, e => by cases e; exact ⟨v, rfl, h⟩
  | .raw x :: r, v :: vs, 0, s, .cons h t, _, e => by
    cases e
    have h : v = x := h
    subst h
    rfl
  | .no :: r, _, 0, _, .cons h _, _, _ => h.elim
  | .ol _ :: r, _, 0, _, .cons h _, d, _ => by cases d
  | .vw _ :: r, _, 0, _, .cons h _, d, _ => by cases d
  | a :: r, v :: vs, i + 1, s, .cons h t, d, e => by
    have d' : (a.dr && r.all SV.dr) = true := d
    rw [Bool.and_eq_true] at d'
    exact ResAll.slot i s t d'.2 e
theorem env_start {B : Bk} {Ha G H : Hp} {F : Addr → Prop} {N : List Str} {rs : List SV} {vs : List V} (r : ResAll B.K Ha G F H rs vs) (dr : rs.all SV.dr = true) (hl : rs.length ≤ N.length) :
    EnvR B.K B.H G F H (L2.start N vs) (rs ++ List.replicate (N.length - rs.length) .no) := by
  have el := r.length
  have noOl : ∀ (m : Nat) zs, (rs ++ List.replicate (N.length - rs.length) SV.no)[m]? = some (.ol zs) → False := fun m zs em => by
    by_cases q : m < rs.length
    · rw [List.getElem?_append_left q] at em
      have := List.all_eq_true.mp dr _ (List.mem_of_getElem? em)
      cases this
    · rw [List.getElem?_append_right (by omega), List.getElem?_replicate] at em
      split at em <;> cases em
  refine ⟨?_, fun i s e => ?_, fun i j xs ys _ ei _ => (noOl i xs ei).elim⟩
  · unfold L2.start
    rw [List.length_append, List.length_append, List.length_map, List.length_replicate, List.length_replicate, el]
  · by_cases q : i < rs.length
    · rw [List.getElem?_append_left q] at e
      have z : (L2.start N vs)[i]? = (vs.map some)[i]? := by
        unfold L2.start
        rw [List.getElem?_append_left (by rw [List.length_map, ← el]; exact q)]
      rw [z]
      exact ResAll.slot i s r dr e
    · rw [List.getElem?_append_right (by omega), List.getElem?_replicate] at e
      split at e
      · cases e
        trivial
      · cases e
/-- THE RULE for a def, by data -/
theorem okD {x qual : Str} {st : Stmt} {f : Addr} {fd : FuncData} {N ps : List Str} {k : Nat} {FF : FW S.T} (F : Fun K x qual st f fd) (Sc : FnScope N ps (defScope st)) (len : ∀ rs τ Q, FF rs τ Q → rs.length = ps.length) (hl : ps.length ≤ N.length)
    (hbody : ∀ (cdv : Value) (A : Around) (outer : List Env) (s : Shared) (H : Hp) (E : XK) (G : Hp) (Fp : Addr → Prop), Room k (A.deeper (PyProof.Rows.envOfC qual (defScope st) s.heap.objs.size f cdv)) →
      ∃ t : WS S.T, PSs (cxOf CX0 P w K mg base N qual (defScope st) f cdv A outer s H E).nox (defBody st) (liftS ⟨S, K, G, Fp, H⟩ t) ∧ ∀ rs τ Qd, FF rs τ Qd → t { nx := fun _ τ' => Qd (.d .none) τ', rt := Qd } (rs ++ List.replicate (N.length - rs.length) .no) τ) :
    FnOk P w K mg base CX0 (k + 1) f fd ps (spD S K FF) := by
  refine F.ok Sc (fun vs H Q E z9 => by obtain ⟨G, F, τ, rs, Qd, Ha, ok, r, dr, h, fin⟩ := z9; rw [← r.length]; exact len _ _ _ h) fun cdv A outer s H vs Q E hr z9 => ?_
  obtain ⟨G, Fp, τ, rs, Qd, Ha, ok, r, dr, h, fin⟩ := z9
  obtain ⟨t, d, sem⟩ := hbody cdv A outer s H E G Fp hr
  have hle : rs.length ≤ N.length := by rw [len _ _ _ h]; exact hl
  exact ⟨_, d, G, Fp, _, τ, _, ⟨Step.refl _ _ _, ok, env_start (B := ⟨S, K, G, Fp, H⟩) r dr hle⟩, sem rs τ Qd h,
    ⟨fun G' F' σ' H' env' τ' _ st q => fin (.d .none) τ' G' F' H' .non st.s st.k Rp.non q, fun r τ' G' F' H' v f res q => fin r τ' G' F' H' v f.s f.k res q, fun _ _ _ _ _ _ _ _ q => q.elim, fun _ _ _ _ _ _ _ _ q => q.elim⟩⟩
end
/-! ### methods of own lists -/
section
variable {X : Cx} {B : Bk} {e o : Expr} {pos : Pos} {te : W B.T} {i : Nat}
theorem at_slot {G H : Hp} {F : Addr → Prop} {σ : L2.St} {env : List SV} {τ : B.T} {xs : List D} (s : StR B G F σ H env τ) (e : env[i]? = some (.ol xs)) : ∃ p, σ[i]? = some (some (.ref p)) ∧ Own B.K B.H G F H p xs := by
  obtain ⟨p, e1, w⟩ := s.e.at' i _ e
  refine ⟨p, ?_, w⟩
  cases z : σ[i]? with
  | none => rw [z] at e1; cases e1
  | some u => rw [z] at e1; exact congrArg some e1
/-- x.append(e) -/
def dApp {T : Type} (i : Nat) (te : W T) : WS T := fun D env τ => match env[i]? with
  | some (.ol xs) => te env τ fun r τ1 => opt r.dat? fun y => xs.length < sizeLine ∧ D.nx (env.set i (.ol (xs ++ [y]))) τ1
  | _ => False
theorem ds_app {st : Stmt} (h : PS X st (tDrop (tBM X.K "list" rAppend (tVar i) (tCons (lift B te) tNil)))) : PS X st (liftS B (dApp i te)) :=
  ps_imp h fun D σ H z9 => ex53 z9 fun G F env τ Dd s z E => by
    unfold dApp at z
    split at z
    · rename_i xs ee
      obtain ⟨p, e1, w⟩ := at_slot s ee
      obtain ⟨vs, e2, a2⟩ := w.at'
      refine ⟨_, e1, .inl ⟨rfl, _, .of e2⟩, G, F, env, τ, _, s, z, fun r τ1 G1 F1 H1 v f1 r1 q => ?_⟩
      obtain ⟨y, ey, hz, q⟩ := opt_of q
      obtain ⟨G2, f2, sm, r2⟩ := r1.dat f1 ey
      have s2 := s.fin f2
      obtain ⟨vs2, e3, a3⟩ := (w.step f2.s).at'
      have s3 := s2.mut ee (by rw [e1]; rfl) (a3.append (.cons r2 .nil))
      exact ⟨p, vs2, v, rfl, rfl, e3, by rw [a3.length]; exact hz, E.nx G2 F1 σ _ _ τ1 f2.s.g s3 q⟩
    · exact z.elim
end
end Z
namespace Z
open PySem L2
/-! ### more readings of data -/
def SV.seqd? : SV → Option (List D)
  | .d (.list xs) => some xs
  | .d (.tuple xs) => some xs
  | .ol xs => some xs
  | .vw xs => some xs
  | _ => none
/-- as data, a list of one's own as it is now -/
def SV.now? : SV → Option D
  | .d x => some x
  | .ol xs => some (.list xs)
  | .vw xs => some (.list xs)
  | _ => none
theorem Res.seqd {K : PySem.W.Frag} {Ha G F H v} (sm : Same G H) {s : SV} {xs : List D} (r : Res K Ha G F H s v) (e : s.seqd? = some xs) : ∃ p vs, v = .ref p ∧ (SqL K H p vs ∨ SqT K H p vs) ∧ RpAll K G vs xs := by
  have viaL : s.lst? = some xs → ∃ p vs, v = .ref p ∧ (SqL K H p vs ∨ SqT K H p vs) ∧ RpAll K G vs xs := fun e => by
    obtain ⟨p, vs, e1, h, a⟩ := r.sql sm e
    exact ⟨p, vs, e1, .inl h.sql, a⟩
  cases s with
  | no => exact r.elim
  | raw v => cases e
  | ol ys => exact viaL e
  | vw ys => exact viaL e
  | d x =>
    cases x with
    | list ys => exact viaL e
    | tuple ys =>
      cases e
      obtain ⟨p, vs, e1, h, a⟩ := rtup r
      exact ⟨p, vs, e1, .inr (same_seqT sm h), a⟩
    | _ => cases e
theorem Res.now {K : PySem.W.Frag} {Ha G F H v} (sm : Same G H) {s : SV} {x : D} (r : Res K Ha G F H s v) (e : s.now? = some x) : x.canLay0 = true → Dp K H v x := fun c => by
  have viaL : ∀ xs, x = .list xs → s.lst? = some xs → Dp K H v x := fun xs ex el => by
    obtain ⟨p, vs, e1, h, a⟩ := r.sql sm el
    subst ex
    subst e1
    rw [PyData.canLay0] at c
    exact .lst h.sql ((a.mono sm).dp c)
  cases s with
  | no => exact r.elim
  | raw v => cases e
  | ol ys => cases e; exact viaL _ rfl rfl
  | vw ys => cases e; exact viaL _ rfl rfl
  | d y => cases e; exact (Rp.mono sm r).dp c
/-! ### == and != -/
def scalD : D → D → Bool
  | .none, .none => true | .none, .int _ => true | .int _, .none => true | .none, .bool _ => true | .bool _, .none => true | .none, .str _ => true | .str _, .none => true
  | .int _, .int _ => true | .bool _, .bool _ => true | .str _, .str _ => true | .int _, .str _ => true | .str _, .int _ => true | .bool _, .str _ => true | .str _, .bool _ => true
  | _, _ => false
def eqOk (a b : D) : Bool := scalD a b || (SeqAt.shaped a && SeqAt.shaped b)
def kEq2 (neg : Bool) (a : D) (Q : SV → Prop) : Option D → Prop
  | some b => eqOk a b = true ∧ Q (.d (.bool (neg ^^ PyData.eqv a b)))
  | none => False
def kEq1 (neg : Bool) (y : SV) (Q : SV → Prop) : Option D → Prop
  | some a => kEq2 neg a Q y.now?
  | none => False
def gEq (x y : SV) (Q : SV → Prop) : Prop := kEq1 false y Q x.now?
def gNe (x y : SV) (Q : SV → Prop) : Prop := kEq1 true y Q x.now?
theorem kEq_of {neg : Bool} {x y : SV} {Q : SV → Prop} (h : kEq1 neg y Q x.now?) : ∃ a, x.now? = some a ∧ ∃ b, y.now? = some b ∧ eqOk a b = true ∧ Q (.d (.bool (neg ^^ PyData.eqv a b))) := by
  cases e : x.now? with
  | none => rw [e] at h; exact False.elim h
  | some a =>
    rw [e] at h
    have h : kEq2 neg a Q y.now? := h
    cases e2 : y.now? with
    | none => rw [e2] at h; exact False.elim h
    | some b => rw [e2] at h; exact ⟨a, rfl, b, rfl, h⟩
theorem gEq_of {x y : SV} {Q : SV → Prop} (h : gEq x y Q) : ∃ a, x.now? = some a ∧ ∃ b, y.now? = some b ∧ eqOk a b = true ∧ Q (.d (.bool (PyData.eqv a b))) := by
  obtain ⟨a, ea, b, eb, hk, q⟩ := kEq_of h
  rw [Bool.false_xor] at q
  exact ⟨a, ea, b, eb, hk, q⟩
theorem gNe_of {x y : SV} {Q : SV → Prop} (h : gNe x y Q) : ∃ a, x.now? = some a ∧ ∃ b, y.now? = some b ∧ eqOk a b = true ∧ Q (.d (.bool (!PyData.eqv a b))) := by
  obtain ⟨a, ea, b, eb, hk, q⟩ := kEq_of h
  rw [Bool.true_xor] at q
  exact ⟨a, ea, b, eb, hk, q⟩
def flV : D → V
  | .bool b => .bl b
  | .int i => .int i
  | .str s => .str s
  | _ => .non
theorem scal_v {K : PySem.W.Frag} {G : Hp} {a b : D} {v w : V} (h : scalD a b = true) (ra : Rp K G v a) (rb : Rp K G w b) : v = flV a ∧ w = flV b := by
  constructor
  · cases ra <;> first | rfl | (cases b <;> cases h)
  · cases rb <;> first | rfl | (cases a <;> cases h)
theorem scal_f : ∀ a b : D, scalD a b = true → scal (flV a) (flV b) = true ∧ decide (flV a = flV b) = PyData.eqv a b := by
  intro a b h
  cases a <;> cases b <;> first
    | (cases h; done)
    | exact ⟨rfl, dec_int _ _ ▸ by rw [PyData.eqv]⟩
    | exact ⟨rfl, by rw [show ∀ x y, decide (flV (.int x) = flV (.int y)) = decide (V.int x = V.int y) from fun _ _ => rfl, dec_int, PyData.eqv]⟩
    | exact ⟨rfl, by rw [show ∀ x y, decide (flV (.bool x) = flV (.bool y)) = decide (V.bl x = V.bl y) from fun _ _ => rfl, dec_bl, PyData.eqv]⟩
    | exact ⟨rfl, by rw [show ∀ x y, decide (flV (.str x) = flV (.str y)) = decide (V.str x = V.str y) from fun _ _ => rfl, dec_str, PyData.eqv]⟩
    | exact ⟨rfl, by simp [PyData.eqv, flV]⟩
theorem scal_eqv {K : PySem.W.Frag} {G : Hp} {a b : D} {v w : V} (h : scalD a b = true) (ra : Rp K G v a) (rb : Rp K G w b) : scal v w = true ∧ decide (v = w) = PyData.eqv a b := by
  obtain ⟨rfl, rfl⟩ := scal_v h ra rb
  exact scal_f a b h
theorem scal_d : ∀ {a b : D} {x : SV}, scalD a b = true → x.now? = some a → x = .d a := fun {a b x} h e => by
  cases x with
  | d y => cases e; rfl
  | ol ys => cases e; cases b <;> cases h
  | vw ys => cases e; cases b <;> cases h
  | no => cases e
  | raw _ => cases e
theorem scal_d2 : ∀ {a b : D} {x : SV}, scalD a b = true → x.now? = some b → x = .d b := fun {a b x} h e => by
  cases x with
  | d y => cases e; rfl
  | ol ys => cases e; cases a <;> cases h
  | vw ys => cases e; cases a <;> cases h
  | no => cases e
  | raw _ => cases e
section
variable {X : Cx} {B : Bk}
def rEqA (K : PySem.W.Frag) : R2 := fun x y H Q => rEq x y H Q ∨ rEqD K x y H Q
def rNeA (K : PySem.W.Frag) : R2 := fun x y H Q => rNe x y H Q ∨ rNeD K x y H Q
theorem op_eqA (hu : X.A.units + 64 < cLine) : OpR X (compareOp .Eq) (rEqA X.K) := op_eq.or (op_eqD hu)
theorem op_neA (hu : X.A.units + 64 < cLine) : OpR X (compareOp .NotEq) (rNeA X.K) := op_ne.or (op_neD hu)
theorem od_eq (hK : X.K = B.K) : OpD B (rEqA X.K) gEq := fun x y vx vy Ha Hb G F H τ Qv Q k rx ry h fin => by
  rw [hK]
  obtain ⟨a, ea, b, eb, hk, hq⟩ := gEq_of h
  unfold eqOk at hk
  rw [Bool.or_eq_true] at hk
  rcases hk with hk | hk
  · have e1 := scal_d hk ea
    have e2 := scal_d2 hk eb
    subst e1 e2
    obtain ⟨h1, h2⟩ := scal_eqv hk rx ry
    exact .inl ⟨h1, by rw [h2]; exact fin.d k (.bl _) hq⟩
  · rw [Bool.and_eq_true] at hk
    exact .inr ⟨a, b, rx.now k.same ea (SeqAt.canLay_of_shaped hk.1), ry.now k.same eb (SeqAt.canLay_of_shaped hk.2), hk.1, hk.2, fin.d k (.bl _) hq⟩
theorem od_ne (hK : X.K = B.K) : OpD B (rNeA X.K) gNe := fun x y vx vy Ha Hb G F H τ Qv Q k rx ry h fin => by
  rw [hK]
  obtain ⟨a, ea, b, eb, hk, hq⟩ := gNe_of h
  unfold eqOk at hk
  rw [Bool.or_eq_true] at hk
  rcases hk with hk | hk
  · have e1 := scal_d hk ea
    have e2 := scal_d2 hk eb
    subst e1 e2
    obtain ⟨h1, h2⟩ := scal_eqv hk rx ry
    exact .inl ⟨h1, by rw [h2]; exact fin.d k (.bl _) hq⟩
  · rw [Bool.and_eq_true] at hk
    exact .inr ⟨a, b, rx.now k.same ea (SeqAt.canLay_of_shaped hk.1), ry.now k.same eb (SeqAt.canLay_of_shaped hk.2), hk.1, hk.2, fin.d k (.bl _) hq⟩
/-! ### <, <= of ints and texts -/
def strLt (a b : Str) : Bool := decide (a.cps.toList < b.cps.toList)
def gCmp (f : Int → Int → Bool) (g : Str → Str → Bool) (x y : SV) (Q : SV → Prop) : Prop := match x, y with
  | .d (.int i), .d (.int j) => Q (.d (.bool (f i j)))
  | .d (.str a), .d (.str b) => Q (.d (.bool (g a b)))
  | _, _ => False
def rCmpA (f : Int → Int → Bool) (g : Str → Str → Bool) : R2 := fun x y H Q => (rI0 fun i j => .bl (f i j)) x y H Q ∨ ∃ i j, x = .str i ∧ y = .str j ∧ Q (.bl (g i j)) H
theorem od_cmp {f : Int → Int → Bool} {g : Str → Str → Bool} : OpD B (rCmpA f g) (gCmp f g) := fun x y vx vy Ha Hb G F H τ Qv Q k rx ry h fin => by
  unfold gCmp at h
  split at h
  · exact .inl ⟨_, _, rint rx, rint ry, fin.d k (.bl _) h⟩
  · exact .inr ⟨_, _, rstr rx, rstr ry, fin.d k (.bl _) h⟩
  · exact h.elim
theorem op_ltA : OpR X (compareOp .Lt) (rCmpA (fun i j => decide (i < j)) strLt) := op_lt.or op_lt_str
theorem op_gtA : OpR X (compareOp .Gt) (rCmpA (fun i j => decide (j < i)) fun a b => strLt b a) := op_gt.or op_gt_str
theorem op_geA : OpR X (compareOp .GtE) (rCmpA (fun i j => decide (j ≤ i)) fun a b => !strLt a b) := op_ge.or op_ge_str
/-! ### is None -/
def SV.isN : SV → Option Bool
  | .d .none => some true
  | .no => none
  | _ => some false
def gIsN (x y : SV) (Q : SV → Prop) : Prop := (∀ u, x = .raw u → u ≠ .non) ∧ y = .d .none ∧ opt x.isN fun b => Q (.d (.bool b))
def gNotN (x y : SV) (Q : SV → Prop) : Prop := (∀ u, x = .raw u → u ≠ .non) ∧ y = .d .none ∧ opt x.isN fun b => Q (.d (.bool (!b)))
/-! ### in, not in -/
def flatD : D → Bool
  | .none => true
  | .bool _ => true
  | .int _ => true
  | .str _ => true
  | _ => false
def gIn (neg : Bool) (x y : SV) (Q : SV → Prop) : Prop := (∃ c z, x = .d (.str ⟨#[c]⟩) ∧ y = .d (.str z) ∧ Q (.d (.bool (if neg then !decide (c ∈ z.cps.toList) else decide (c ∈ z.cps.toList))))) ∨
  ∃ a xs, x = .d a ∧ y.seqd? = some xs ∧ flatD a = true ∧ xs.all flatD = true ∧ Q (.d (.bool (if neg then !(xs.any fun y => PyData.eqv y a) else xs.any fun y => PyData.eqv y a)))
end
end Z
namespace Z
open PySem L2
/-! ### items and slices -/
def SV.int? : SV → Option Int
  | .d (.int i) => some i
  | _ => none
def kAtS (Q : SV → Prop) : Option Nat → Prop
  | some c => Q (.d (sg c))
  | none => False
def kAt (Q : SV → Prop) : Option D → Prop
  | some c => Q (.d c)
  | none => False
def kIx3 (i : Int) (Q : SV → Prop) : Option (List D) → Prop
  | some xs => kAt Q (atI xs i)
  | none => False
def kIx2 (x : SV) (i : Int) (Q : SV → Prop) : Prop := match x with
  | .d (.str z) => z.length ≤ sizeLine ∧ kAtS Q (atI z.cps.toList i)
  | x => kIx3 i Q x.seqd?
def gIx (x y : SV) (Q : SV → Prop) : Prop := match y with
  | .d (.int i) => kIx2 x i Q
  | _ => False
theorem gIx_of {x y : SV} {Q : SV → Prop} (h : gIx x y Q) : ∃ i, y = .d (.int i) ∧ kIx2 x i Q := by
  unfold gIx at h
  split at h
  · exact ⟨_, rfl, h⟩
  · exact False.elim h
theorem kIx3_of {i : Int} {Q : SV → Prop} {o : Option (List D)} (h : kIx3 i Q o) : ∃ xs, o = some xs ∧ ∃ d, atI xs i = some d ∧ Q (.d d) := by
  cases o with
  | none => exact False.elim h
  | some xs =>
    have h : kAt Q (atI xs i) := h
    cases e : atI xs i with
    | none => rw [e] at h; exact False.elim h
    | some d => rw [e] at h; exact ⟨xs, rfl, d, e, h⟩
theorem atI_rp {K : PySem.W.Frag} {G : Hp} {vs : List V} {xs : List D} {i : Int} {d : D} (a : RpAll K G vs xs) (e : atI xs i = some d) : ∃ v, atI vs i = some v ∧ Rp K G v d := by
  unfold atI at e ⊢
  rw [a.length]
  cases q : ixN xs.length i with
  | none => rw [q] at e; cases e
  | some j =>
    rw [q] at e
    exact a.getD e
section
variable {X : Cx} {B : Bk} {a b e : Expr} {pos : Pos} {ta tb te : W B.T} {r : R2} {g : SV → SV → (SV → Prop) → Prop}
theorem IxR.or {r r' : R2} (h : IxR X r) (h' : IxR X r') : IxR X (fun x y H Q => r x y H Q ∨ r' x y H Q) := fun value slice pins s σ H x y v u Q I rx ry q hs =>
  q.elim (fun q => h value slice pins s σ H x y v u Q I rx ry q hs) fun q => h' value slice pins s σ H x y v u Q I rx ry q hs
def rIxA (K : PySem.W.Frag) : R2 := fun x y H Q => rIxL K x y H Q ∨ rIxT K x y H Q ∨ rIxS x y H Q
theorem ix_A : IxR X (rIxA X.K) := IxR.or ix_list (IxR.or ix_tup ix_str)
theorem od_ix (hK : X.K = B.K) : OpD B (rIxA X.K) gIx := fun x y vx vy Ha Hb G F H τ Qv Q k rx ry h0 fin => by
  rw [hK]
  obtain ⟨i, ey, h⟩ := gIx_of h0
  clear h0
  subst ey
  have go : kIx3 i Qv x.seqd? → rIxA B.K vx vy H Q := fun h => by
    obtain ⟨xs, ex, d, ed, h⟩ := kIx3_of h
    obtain ⟨p, vs, e1, hs, ra⟩ := rx.seqd k.same ex
    obtain ⟨w, ew, rw'⟩ := atI_rp ra ed
    rcases hs with hs | hs
    · exact .inl ⟨p, vs, i, w, e1, rint ry, hs, ew, fin.d k rw' h⟩
    · exact .inr (.inl ⟨p, vs, i, w, e1, rint ry, hs, ew, fin.d k rw' h⟩)
  unfold kIx2 at h
  split at h
  · obtain ⟨hz, h⟩ := h
    rename_i z
    have h : kAtS Qv (atI z.cps.toList i) := h
    cases ec : atI z.cps.toList i with
    | none => rw [ec] at h; exact False.elim h
    | some c =>
    rw [ec] at h
    exact .inr (.inr ⟨_, i, c, rstr rx, rint ry, hz, ec, fin.d k (.str _) h⟩)
  · exact go h
theorem de_ix (hr : IxR X r) (hd : OpD B r g) (ha : PE X a (lift B ta)) (hb : PE X b (lift B tb)) (hs : PlainIx b) : PE X (.Subscript a b pos) (lift B (dOp g ta tb)) := pe_imp (pe_ix hr ha hb hs) (lift_op hd)
abbrev WO (T : Type) := List SV → T → (Option Int → T → Prop) → Prop
def dNoPart {T : Type} : WO T := fun _ τ Q => Q none τ
def kPtB {T : Type} (Q : Option Int → T → Prop) (τ : T) : Option Int → Prop
  | some i => Q (some i) τ
  | none => False
def kPt {T : Type} (Q : Option Int → T → Prop) (x : SV) (τ : T) : Prop := kPtB Q τ x.int?
def dPart {T : Type} (te : W T) : WO T := fun env τ Q => te env τ (kPt Q)
def cutL {α : Type} (xs : List α) (lo hi : Option Int) : List α := (xs.drop (HT.sIx xs.length 0 lo)).take (HT.sIx xs.length xs.length hi - HT.sIx xs.length 0 lo)
def gSl (x : SV) (lo hi : Option Int) (Q : SV → Prop) : Prop := match x with
  | .d (.str z) => z.length ≤ sizeLine ∧ Q (.d (.str (cutS z lo hi)))
  | .d (.tuple xs) => Q (.d (.tuple (cutL xs lo hi)))
  | x => opt x.lst? fun xs => Q (.ol (cutL xs lo hi))
def dSl {T : Type} (te : W T) (tl th : WO T) : W T := fun env τ Q => te env τ fun x τ1 => tl env τ1 fun lo τ2 => th env τ2 fun hi τ3 => gSl x lo hi fun z => Q z τ3
end
/-! ### built-ins -/
section
variable {X : Cx} {B : Bk}
theorem ResAll.one {K : PySem.W.Frag} {Ha G F H} {x : SV} {vs : List V} (r : ResAll K Ha G F H [x] vs) : ∃ v, vs = [v] ∧ Res K Ha G F H x v := by
  cases r with
  | cons r t =>
    cases t
    exact ⟨_, rfl, r⟩
theorem ResAll.two {K : PySem.W.Frag} {Ha G F H} {x y : SV} {vs : List V} (r : ResAll K Ha G F H [x, y] vs) : ∃ v w, vs = [v, w] ∧ Res K Ha G F H x v ∧ Res K Ha G F H y w := by
  cases r with
  | cons r t =>
    cases t with
    | cons r2 t =>
      cases t
      exact ⟨_, _, rfl, r, r2⟩
def SV.size? : SV → Option Nat
  | .d (.str z) => if z.length ≤ sizeLine then some z.length else none
  | x => x.seqd?.map List.length
def gLen (rs : List SV) (Q : SV → Prop) : Prop := match rs with
  | [x] => opt x.size? fun n => Q (.d (.int n))
  | _ => False
/-- the type of data -/
def tyN : D → String
  | .none => "NoneType"
  | .bool _ => "bool"
  | .int _ => "int"
  | .str _ => "str"
  | .list _ => "list"
  | .tuple _ => "tuple"
  | .dict _ => "dict"
def isT (a c : String) : Bool := a == c || (a == "bool" && c == "int")
def SV.tyN : SV → Option String
  | .d .none => some "NoneType"
  | .d (.bool _) => some "bool"
  | .d (.int _) => some "int"
  | .d (.str _) => some "str"
  | .d (.list _) => some "list"
  | .d (.tuple _) => some "tuple"
  | .d (.dict []) => some "dict"
  | .ol _ => some "list"
  | .vw _ => some "list"
  | _ => none
def tyNames : List String := ["NoneType", "bool", "int", "str", "list", "tuple", "dict"]
theorem tyX_ok {K : PySem.W.Frag} {Ha G F H v n} (sm : Same G H) {x : SV} (h : Res K Ha G F H x v) (e : x.tyN = some n) : n ∈ tyNames ∧ TyX K H v (.type n) := by
  cases x with
  | no => exact h.elim
  | raw _ => cases e
  | ol _ =>
    obtain ⟨p, e1, w⟩ := h
    cases e
    subst e1
    obtain ⟨vs, e2, _⟩ := w.at'
    exact ⟨by decide, .base (.lst e2)⟩
  | vw _ =>
    obtain ⟨p, vs, e1, e2, _⟩ := h
    cases e
    subst e1
    exact ⟨by decide, .base (.lst e2)⟩
  | d x =>
    have hr : Rp K G v x := h
    clear h
    cases hr with
    | non => cases e; exact ⟨by decide, .base .non⟩
    | bl _ => cases e; exact ⟨by decide, .base (.bl _)⟩
    | int _ => cases e; exact ⟨by decide, .base (.int _)⟩
    | str _ => cases e; exact ⟨by decide, .base (.str _)⟩
    | emp h => cases e; exact ⟨by decide, .base (.dK (sm _ _ h))⟩
    | lst h _ =>
      cases e
      refine ⟨by decide, ?_⟩
      rcases same_sqp sm h with (h | ⟨o, h⟩) | ⟨its, h, _⟩
      · exact .base (.lst h)
      · exact .base (.frz h)
      · exact .kList h rfl
    | tup h _ =>
      cases e
      refine ⟨by decide, ?_⟩
      rcases same_seqT sm h with (h | ⟨o, h⟩) | ⟨o, its, n, h, hc, _⟩
      · exact .base (.tup h)
      · exact .fTuple h
      · exact .kTuple h hc
    | _ => cases e
theorem kit_all : (tyNames.all fun a => tyNames.all fun c => decide (kitB a c = some (isT a c))) = true := by decide +kernel
def gIsi (rs : List SV) (Q : SV → Prop) : Prop := match rs with
  | [x, .raw (.ty c)] => tyNames.contains c = true ∧ opt x.tyN fun n => Q (.d (.bool (isT n c)))
  | _ => False
theorem cd_isi (hK : X.K = B.K) : CallD B (rIsi X.K) gIsi := fun rs vs Ha G F H τ Qv Q k r h fin => by
  unfold gIsi at h
  split at h
  · obtain ⟨hc, h⟩ := h
    obtain ⟨n, en, h⟩ := opt_of h
    obtain ⟨v, w, rfl, rx, ry⟩ := r.two
    have ry : w = .ty _ := ry
    subst ry
    obtain ⟨hn, ty⟩ := tyX_ok k.same rx en
    have z := List.all_eq_true.mp (List.all_eq_true.mp kit_all n hn) _ (List.contains_iff_mem.mp hc)
    rw [hK]
    exact ⟨v, _, _, _, _, rfl, .ty _, ty, kit_ty (of_decide_eq_true z), fin.d k (.bl _) h⟩
  · exact h.elim
/-- data that are truths -/
def bools? : List D → Option (List Bool)
  | [] => some []
  | .bool b :: r => (bools? r).map (b :: ·)
  | _ :: _ => none
def ints? : List D → Option (List Int)
  | [] => some []
  | .int b :: r => (ints? r).map (b :: ·)
  | _ :: _ => none
theorem ints_ok0 : ∀ {xs : List D} {bs : List Int}, ints? xs = some bs → xs = bs.map PyData.int := fun {xs} => by
  induction xs with
  | nil => intro bs e; cases e; rfl
  | cons x r ih =>
    intro bs e
    cases x with
    | int b =>
      cases q : ints? r with
      | none => rw [ints?, q] at e; cases e
      | some cs => rw [ints?, q] at e; cases e; rw [ih q]; rfl
    | _ => cases e
theorem ints_ok1 {K : PySem.W.Frag} {G : Hp} : ∀ (bs : List Int) {vs : List V}, RpAll K G vs (bs.map PyData.int) → vs = bs.map V.int
  | [], _, h => by cases h; rfl
  | b :: r, _, h => by
    cases h with
    | cons h1 t1 =>
      cases h1
      rw [ints_ok1 r t1]
      rfl
theorem ints_ok {K : PySem.W.Frag} {G : Hp} {xs : List D} {vs : List V} {bs : List Int} (h : RpAll K G vs xs) (e : ints? xs = some bs) : vs = bs.map V.int := by
  rw [ints_ok0 e] at h
  exact ints_ok1 bs h
def strs? : List D → Option (List Str)
  | [] => some []
  | .str b :: r => (strs? r).map (b :: ·)
  | _ :: _ => none
theorem ints_map (bs : List Int) : ints? (bs.map PyData.int) = some bs := by
  induction bs with
  | nil => rfl
  | cons b r ih => rw [List.map_cons, ints?, ih]; rfl
def gAll (rs : List SV) (Q : SV → Prop) : Prop := match rs with
  | [x] => opt (x.lst?.bind bools?) fun bs => Q (.d (.bool (bs.all id)))
  | _ => False
def gAny (rs : List SV) (Q : SV → Prop) : Prop := match rs with
  | [x] => opt (x.lst?.bind bools?) fun bs => Q (.d (.bool (bs.any id)))
  | _ => False
theorem bind_of {α β : Type} {o : Option α} {f : α → Option β} {b : β} (h : o.bind f = some b) : ∃ a, o = some a ∧ f a = some b := by
  cases o with
  | none => cases h
  | some a => exact ⟨a, rfl, h⟩
/-- int(x) of an int, a truth, a text that is a number -/
theorem CallR.or {f : Value} {r r' : List V → Hp → VK → Prop} (h : CallR X f r) (h' : CallR X f r') : CallR X f (fun xs H Q => r xs H Q ∨ r' xs H Q) := fun pins s σ H xs us Q I rr q =>
  q.elim (fun q => h pins s σ H xs us Q I rr q) fun q => h' pins s σ H xs us Q I rr q
def rInt : List V → Hp → VK → Prop := fun xs H Q => ((∃ i, xs = [.int i] ∧ Q (.int i) H) ∨ ∃ k, xs = [.bl k] ∧ Q (.int (if k then 1 else 0)) H) ∨ ∃ a n, xs = [.str a] ∧ PySem.intText? a = some n ∧ a.length ≤ 640 ∧ Q (.int n) H
theorem call_intA : CallR X (.type "int") rInt := CallR.or call_int1 call_int_str
def gInt (rs : List SV) (Q : SV → Prop) : Prop := match rs with
  | [.d (.int i)] => Q (.d (.int i))
  | [.d (.bool k)] => Q (.d (.int (if k then 1 else 0)))
  | [.d (.str a)] => ∃ n, PySem.intText? a = some n ∧ a.length ≤ 640 ∧ Q (.d (.int n))
  | _ => False
theorem cd_int : CallD B rInt gInt := fun rs vs Ha G F H τ Qv Q k r h fin => by
  unfold gInt at h
  split at h
  · obtain ⟨v, rfl, rx⟩ := r.one
    exact .inl (.inl ⟨_, by rw [rint rx], fin.d k (.int _) h⟩)
  · obtain ⟨v, rfl, rx⟩ := r.one
    exact .inl (.inr ⟨_, by rw [rbl rx], fin.d k (.int _) h⟩)
  · obtain ⟨n, e1, e2, h⟩ := h
    obtain ⟨v, rfl, rx⟩ := r.one
    exact .inr ⟨_, n, by rw [rstr rx], e1, e2, fin.d k (.int _) h⟩
  · exact h.elim
def gII (f : Int → Int → Int) (rs : List SV) (Q : SV → Prop) : Prop := match rs with
  | [.d (.int i), .d (.int j)] => Q (.d (.int (f i j)))
  | _ => False
theorem cd_II {f : Int → Int → Int} : CallD B (fun xs H Q => ∃ i j, xs = [.int i, .int j] ∧ Q (.int (f i j)) H) (gII f) := fun rs vs Ha G F H τ Qv Q k r h fin => by
  unfold gII at h
  split at h
  · obtain ⟨v, w, rfl, rx, ry⟩ := r.two
    exact ⟨_, _, by rw [rint rx, rint ry], fin.d k (.int _) h⟩
  · exact h.elim
end
end Z
namespace Z
open PySem L2
/-! ### known defs -/
structure Known (P : Program) (w : World) (K : PySem.W.Frag) (mg : Str → Option Value) (base : Heap) (S : Sto) (x : Str) (ps : List Str) (k : Nat) (FF : FW S.T) : Prop where
  ex : ∃ f fd, FnOk P w K mg base CX0 k f fd ps (spD S K FF) ∧ mg x = some (.ref f) ∧ PySem.W.keepIn K (.ref f) = true ∧ Binds K fd ps []
section
variable {X : Cx} {B : Bk} {e : Expr} {es : List Expr} {pos p : Pos} {ta : WA B.T} {FF : FW B.S.T} {ps : List Str} {k : Nat} {x : Str} {te : W B.T}
theorem de_callK (hK : X.K = B.K) (h : Known X.prog X.w X.K X.mg X.base B.S x ps k FF) (hr : Room k X.A) (hg : Gl X x)
    (ha : PA X (e :: es) (liftA B ta)) (hdb : (x == ("__debug__" : Str)) = false := by decide) (he : starEach (e :: es) X.env = (false, eval e X.env) :: starEach es X.env := by rfl) (hpl : (backTo pos (starEach es X.env)).any (·.1) = false := by rfl) :
    PE X (.Call (.Name x p) (e :: es) [] pos) (lift B (dCall FF ta)) := by
  obtain ⟨f, fd, F, hm, hk, hb⟩ := h.ex
  rw [hK] at F
  exact de_call hK (by rw [hK]; exact F) hr hg hm hk hb ha hdb he hpl
/-- a built-in type as a value -/
theorem de_ty {n : String} (hg : Gl X x) (hm : X.mg x = none) (hv : bootBuiltins x = some (.type n)) (hn : x ≠ "__name__" := by decide) (hd : (x == ("__debug__" : Str)) = false := by decide) : PE X (.Name x p) (lift B (dRaw (.ty n))) :=
  de_raw (pe_bltn hg hm hv rfl hn hd)
/-- a constant of the module -/
theorem de_gint {i : Int} (hg : Gl X x) (hm : ∃ t, X.mg x = some (.int i t)) (hd : (x == ("__debug__" : Str)) = false := by decide) : PE X (.Name x p) (lift B (dC (.int i))) := by
  obtain ⟨t, hm⟩ := hm
  exact de_c (pe_glob (v := .int i) hg hm ⟨t, rfl⟩ hd) fun _ => .int i
/-- -a -/
def gNeg (x : SV) (Q : SV → Prop) : Prop := match x with
  | .d (.int i) => Q (.d (.int (-i)))
  | _ => False
def dUn {T : Type} (g : SV → (SV → Prop) → Prop) (ta : W T) : W T := fun env τ Q => ta env τ fun x τ1 => g x fun z => Q z τ1
theorem de_neg (ha : PE X e (lift B te)) : PE X (.UnaryOp .USub e pos) (lift B (dUn gNeg te)) := pe_imp (pe_un un_neg ha) fun σ H Q z9 => ex53 z9 fun G F env τ Qd s t k => ⟨G, F, env, τ, _, s, t, fun x τ1 G1 F1 H1 v f1 r1 q => by
  unfold gNeg at q
  split at q
  · exact ⟨_, rint r1, (FinT.trans k f1).d f1.k (.int _) q⟩
  · exact q.elim⟩
/-- {} -/
def dEmp {T : Type} : W T := fun _ τ Q => Q (.d (.dict [])) τ
/-- sep.join(texts) -/
def gJoin (x y : SV) (Q : SV → Prop) : Prop := ∃ a, x = .d (.str a) ∧ opt (y.seqd?.bind strs?) fun ys => (ys.map (·.length)).sum + ys.length * a.length ≤ 16777216 ∧ Q (.d (.str (Txt.join a ys)))
def dM1 {T : Type} (g : SV → SV → (SV → Prop) → Prop) (to te : W T) : W T := fun env τ Q => to env τ fun x τ1 => (∃ a, x = .d (.str a)) ∧ te env τ1 fun y τ2 => g x y fun z => Q z τ2
/-- text.index(sign) -/
def gSIndex (x y : SV) (Q : SV → Prop) : Prop := ∃ a b i rest, x = .d (.str a) ∧ y = .d (.str b) ∧ Builtin.Str.occurrences a b 0 a.length 1 = i :: rest ∧ Q (.d (.int (i : Nat)))
/-- text * n, n from 2 on -/
def strRep (x : Str) (n : Nat) : Str := ⟨(List.replicate n x.cps).foldl (· ++ ·) #[]⟩
def gMulS (x y : SV) (Q : SV → Prop) : Prop := ∃ a n, x = .d (.str a) ∧ y = .d (.int n) ∧ (2 ≤ n ∧ n ≤ 100000 ∧ 0 < a.length ∧ a.length ≤ 100) ∧ (strRep a n.toNat).length ≤ sizeLine ∧ Q (.d (.str (strRep a n.toNat)))
def rMulS : R2 := fun x y H Q => ∃ a n, x = .str a ∧ y = .int n ∧ (2 ≤ n ∧ n ≤ 100000 ∧ 0 < a.length ∧ a.length ≤ 100) ∧ (strRep a n.toNat).length ≤ sizeLine ∧ Q (.str (strRep a n.toNat)) H
theorem op_mulS : OpR X (binaryOp .Mult) rMulS := by
  intro pins s σ H x y v u Q I rx ry h
  obtain ⟨a, n, rfl, rfl, ⟨h1, h2, h3, h4⟩, h5, q⟩ := h
  obtain ⟨t, rfl⟩ := rx
  obtain ⟨t', rfl⟩ := ry
  have hn : ¬ n < 1 := by omega
  have hb : (n == 1 || a.length == 0) = false := by
    rw [Bool.or_eq_false_iff]
    exact ⟨beq_eq_false_iff_ne.mpr (by omega), beq_eq_false_iff_ne.mpr (by omega)⟩
  refine PySem.P.mul_str ?_ (fun _ _ => ?_) (fun _ _ => ?_) ?_
  · rw [decide_eq_false (by omega), decide_eq_false (by omega)]
    rfl
  · have : (100 : Int) ≤ (2 ^ 63 - 1) / n := by
      refine Int.le_ediv_of_mul_le (by omega) ?_
      omega
    omega
  · unfold Builtin.Str.tooLong
    have : a.length * n.toNat ≤ 100 * 100000 := Nat.mul_le_mul h4 (by omega)
    have hl : sizeLine = 16777216 := sizeLine_eq
    exact decide_eq_false (by omega)
  · rw [if_neg hn, hb]
    exact ⟨h5, .str _, H, I.tok _, ⟨_, rfl⟩, q⟩
theorem od_mulS : OpD B rMulS gMulS := fun x y vx vy Ha Hb G F H τ Qv Q k rx ry h fin => by
  obtain ⟨a, n, ex, ey, h1, h2, h⟩ := h
  subst ex ey
  exact ⟨a, n, rstr rx, rint ry, h1, h2, fin.d k (.str _) h⟩
def gMul (x y : SV) (Q : SV → Prop) : Prop := gI CMul (fun i j => .int (i * j)) x y Q ∨ gMulS x y Q
theorem op_mulA : OpR X (binaryOp .Mult) (fun x y H Q => (rI CMul fun i j => .int (i * j)) x y H Q ∨ rMulS x y H Q) := op_mul.or op_mulS
theorem od_mul : OpD B (fun x y H Q => (rI CMul fun i j => .int (i * j)) x y H Q ∨ rMulS x y H Q) gMul := od_I.or od_mulS
end
end Z
namespace Z
open PySem L2
/-! ### what is drawn by: a dict that the law's own defs share -/
inductive DrT where
  | off
  | on (a : Addr) (b : Nat)
def drK (c : Addr) (i l u : Int) : List (Key × V) := [(Sum.inr ("cells" : Str), V.ref c), (Sum.inr ("at" : Str), V.int i), (Sum.inr ("left" : Str), V.int l), (Sum.inr ("used" : Str), V.int u)]
structure DrAt (K : PySem.W.Frag) (G H : Hp) (a : Addr) (b : Nat) : Prop where
  ex : ∃ (c : Addr) (cs : List Int) (i l u : Int), H a = some (.dK (drK c i l u)) ∧ SqP K G c (cs.map V.int) ∧ cs ≠ [] ∧ (0 ≤ i ∧ 0 ≤ u ∧ i + b ≤ 1152921504606846976 ∧ u + b ≤ 1152921504606846976)
def drR (K : PySem.W.Frag) (t : DrT) (G : Hp) (F : Addr → Prop) (H : Hp) : Prop := match t with
  | .off => ∀ a, ¬ F a
  | .on a b => (∀ p, F p ↔ p = a) ∧ DrAt K G H a b
def theS (Ts : List Addr) : Sto where
  T := DrT
  tb := fun a => a ∈ Ts
  R := drR
  st := fun {K t G G' F H H'} r sm e => by
    cases t with
    | off => exact r
    | on a b =>
      obtain ⟨hF, c, cs, i, l, u, h1, h2, h3, h4⟩ := r
      exact ⟨hF, ⟨c, cs, i, l, u, by rw [e a ((hF a).mpr rfl)]; exact h1, same_sqp sm h2, h3, h4⟩⟩
theorem kne1 : ¬ ("cells" : Str) = "at" := by decide +kernel
theorem kne2 : ¬ ("cells" : Str) = "left" := by decide +kernel
theorem kne3 : ¬ ("cells" : Str) = "used" := by decide +kernel
theorem kne4 : ¬ ("at" : Str) = "left" := by decide +kernel
theorem kne5 : ¬ ("at" : Str) = "used" := by decide +kernel
theorem kne6 : ¬ ("left" : Str) = "used" := by decide +kernel
section
variable {c : Addr} {i l u z : Int} {v : V}
theorem dr_cells : valV (drK c i l u) (Sum.inr ("cells" : Str)) = some (.ref c) := by simp [drK, valV]
theorem dr_at : valV (drK c i l u) (Sum.inr ("at" : Str)) = some (.int i) := by simp [drK, valV, kne1]
theorem dr_left : valV (drK c i l u) (Sum.inr ("left" : Str)) = some (.int l) := by simp [drK, valV, kne2, kne4]
theorem dr_used : valV (drK c i l u) (Sum.inr ("used" : Str)) = some (.int u) := by simp [drK, valV, kne3, kne5, kne6]
theorem dr_pat : putK (drK c i l u) (Sum.inr ("at" : Str)) (.int z) = drK c z l u := by simp [drK, putK, kne1, Ne.symm kne4, Ne.symm kne5]
theorem dr_pleft : putK (drK c i l u) (Sum.inr ("left" : Str)) (.int z) = drK c i z u := by simp [drK, putK, kne2, kne4, Ne.symm kne6]
theorem dr_pused : putK (drK c i l u) (Sum.inr ("used" : Str)) (.int z) = drK c i l z := by simp [drK, putK, kne3, kne5, kne6]
theorem dr_new : mergeK [] (drK c i l u) = drK c i l u := by
  simp [drK, mergeK, putK, kne1, kne2, kne3, kne4, kne5, kne6]
theorem dr_len : (drK c i l u).length = 4 := rfl
end
def FF__law_begin : FW DrT := fun rs τ Q => ∃ ns : List Int, rs = [.d (.list (ns.map PyData.int))] ∧ ns.length ≤ 63 ∧ τ = .off ∧ ∀ a, Q (.raw (.ref a)) (.on a 1152921504606846976)
def FF__law_mixed : FW DrT := fun rs τ Q => ∃ c k : Int, rs = [.d (.int c), .d (.int k)] ∧ (0 ≤ k ∧ k ≤ 1152921504606846976) ∧ ∀ r : Int, 0 ≤ r → Q (.d (.int r)) τ
def FF__law_next : FW DrT := fun rs τ Q => ∃ (a : Addr) (b : Nat) (n : Int), rs = [.raw (.ref a), .d (.int n)] ∧ τ = .on a (b + 1) ∧ (0 < n ∧ n < 1073741824) ∧ ∀ r : Int, 0 ≤ r → r < n → Q (.d (.int r)) (.on a b)
/-- a state of what is drawn by is another one -/
theorem dr_ok {Ts : List Addr} {K : PySem.W.Frag} {a c : Addr} {b b' : Nat} {G H : Hp} {F : Addr → Prop} {cs : List Int} {i' l' u' : Int} (k : Ok (theS Ts) K (.on a b) G F H) (h1 : SqP K G c (cs.map V.int)) (h2 : cs ≠ [])
    (h3 : 0 ≤ i' ∧ 0 ≤ u' ∧ i' + b' ≤ 1152921504606846976 ∧ u' + b' ≤ 1152921504606846976)   : Ok (theS Ts) K (.on a b') G F (upd H a (.dK (drK c i' l' u'))) ∧ Step G F H G F (upd H a (.dK (drK c i' l' u'))) := by
  have hF : ∀ p, F p ↔ p = a := k.r.1
  have fa : F a := (hF a).mpr rfl
  refine ⟨⟨fun p o e => ?_, k.gf, fun p e => ?_, ⟨hF, c, cs, i', l', u', upd_same, h1, h2, h3⟩, k.nt' (fun _ z => by cases z), k.nx' (fun _ z => by cases z)⟩, Same.refl G, fun p o nf e => ?_, fun p o e => .inl e, fun p e => .inl e, fun p e => e, fun p e => ?_⟩
  · have : p ≠ a := fun z => by
      subst z
      rw [k.gf _ fa] at e
      cases e
    rw [upd_ne this]
    exact k.same p o e
  · have := (hF p).mp e
    subst this
    rw [upd_same]
    exact fun z => by cases z
  · have : p ≠ a := fun z => nf ((hF p).mpr z)
    rw [upd_ne this]
    exact e
  · by_cases z : p = a
    · subst z
      rw [upd_same]
      exact fun z => by cases z
    · rw [upd_ne z]
      exact e
theorem Ok.less {Ts : List Addr} {K : PySem.W.Frag} {a : Addr} {b b' : Nat} {G H : Hp} {F : Addr → Prop} (k : Ok (theS Ts) K (.on a b) G F H) (h : b' ≤ b) : Ok (theS Ts) K (.on a b') G F H := by
  obtain ⟨hF, c, cs, i, l, u, h1, h2, h3, h4⟩ := k.r
  exact ⟨k.same, k.gf, k.fh, ⟨hF, c, cs, i, l, u, h1, h2, h3, by omega⟩, k.nt, k.nx⟩
end Z
namespace Z
open PySem L2
section
variable {T : Type} {t : Tg} {tt : WT T} {te : W T} {tb : WS T}
theorem forW_inv {D : DEnds T} (P : Nat → List SV → T → Prop) : ∀ (xs : List Z.D) (i : Nat) (env : List SV) (τ : T), P i env τ →
    (∀ j x env τ, xs[j]? = some x → P (i + j) env τ → ∀ kn : List SV → T → Prop, (∀ env' τ', P (i + j + 1) env' τ' → kn env' τ') → opt (tgE t x env) fun env' => tb { D with nx := kn, ct := kn, bk := D.nx } env' τ) →
    (∀ env τ, P (i + xs.length) env τ → D.nx env τ) → forW t tb D xs env τ
  | [], i, env, τ, p, _, q => q env τ p
  | x :: xs, i, env, τ, p, h, q => by
    refine h 0 x env τ rfl p _ fun env' τ' p' => ?_
    refine forW_inv P xs (i + 1) env' τ' p' (fun j y env τ e p => ?_) fun env τ p => q env τ (by rw [List.length_cons, show i + (xs.length + 1) = i + 1 + xs.length by omega]; exact p)
    have z := h (j + 1) y env τ (by simpa using e)
    rw [show i + (j + 1) = i + 1 + j by omega] at z
    exact z p
end
end Z
namespace Z
open PySem L2
/-! ### texts as lists of signs -/
abbrev cs (z : Str) : List Nat := z.cps.toList
def mkS (l : List Nat) : Str := ⟨l.toArray⟩
theorem str_len (z : Str) : z.length = (cs z).length := by
  show z.cps.size = z.cps.toList.length
  rw [Array.length_toList]
end Z
namespace Z
open PySem L2
/-! ### in use -/
theorem ixN_ok {n : Nat} {i : Int} (h0 : 0 ≤ i) (h1 : i < n) : ixN n i = some i.toNat := by
  unfold ixN
  rw [if_pos h0, if_pos h1]
theorem atI_some {α : Type} {xs : List α} {i : Int} (h0 : 0 ≤ i) (h1 : i < (xs.length : Int)) : ∃ x, atI xs i = some x ∧ xs[i.toNat]? = some x ∧ x ∈ xs := by
  have hi : i.toNat < xs.length := by omega
  refine ⟨xs[i.toNat], ?_, List.getElem?_eq_getElem hi, List.getElem_mem hi⟩
  unfold atI
  rw [ixN_ok h0 h1]
  exact List.getElem?_eq_getElem hi
/-- a text of no great length, of signs -/
def okS (s : Str) : Prop := s.length ≤ 100000 ∧ ∀ c ∈ cs s, c < 1114112
theorem okS.lay {s : Str} (h : okS s) : (PyData.str s).canLay0 = true := by
  rw [PyData.canLay0]
  unfold PyData.strOk
  rw [← Array.all_toList, List.all_eq_true]
  exact fun c hc => decide_eq_true (h.2 c hc)
theorem okS.of {l : List Nat} (h1 : l.length ≤ 100000) (h2 : ∀ c ∈ l, c < 1114112) : okS (mkS l) := ⟨by rw [str_len]; exact h1, h2⟩
theorem rgI_len (lo : Int) (n : Nat) : (rgI lo n).length = n := by
  unfold rgI
  rw [List.length_map, List.length_range]
theorem rgI_get {lo : Int} {n i : Nat} {x : D} (h : (rgI lo n)[i]? = some x) : i < n ∧ x = .int (lo + (i : Nat)) := by
  unfold rgI at h
  rw [List.getElem?_map] at h
  by_cases hi : i < n
  · rw [List.getElem?_range hi] at h
    exact ⟨hi, (Option.some.inj h).symm⟩
  · rw [List.getElem?_eq_none (by rw [List.length_range]; omega)] at h
    cases h
end Z
namespace Z
open PySem L2
/-! ### the readings, by named continuations -/
theorem opt_e {α : Type} {o : Option α} {P : α → Prop} {k : Option α → Prop} (h1 : ∀ a, P a = k (some a)) (h2 : k none = False) : opt o P = k o := by
  cases o with
  | none => exact h2.symm
  | some a => exact h1 a
section
variable {T : Type}
theorem dVar_k (i : Nat) (env : List SV) (τ : T) (Q : SV → T → Prop) : dVar i env τ Q = kV Q τ env[i]? := rfl
theorem dC_k (x : D) (env : List SV) (τ : T) (Q : SV → T → Prop) : dC x env τ Q = Q (.d x) τ := rfl
theorem dRaw_k (x : V) (env : List SV) (τ : T) (Q : SV → T → Prop) : dRaw x env τ Q = Q (.raw x) τ := rfl
def kOp2 (g : SV → SV → (SV → Prop) → Prop) (x : SV) (Q : SV → T → Prop) (y : SV) (τ : T) : Prop := g x y (kG Q τ)
def kOp1 (tb : W T) (env : List SV) (g : SV → SV → (SV → Prop) → Prop) (Q : SV → T → Prop) (x : SV) (τ : T) : Prop := tb env τ (kOp2 g x Q)
theorem dOp_k (g : SV → SV → (SV → Prop) → Prop) (ta tb : W T) (env : List SV) (τ : T) (Q : SV → T → Prop) : dOp g ta tb env τ Q = ta env τ (kOp1 tb env g Q) := rfl
theorem dT_k (t : W T) (env : List SV) (τ : T) (Q : Bool → T → Prop) : dT t env τ Q = t env τ (kT Q) := rfl
theorem kChB_t {tc : W T} {env : List SV} {g' : SV → SV → (SV → Prop) → Prop} {y : SV} {Q : SV → T → Prop} {τ : T} : kChB tc env g' y Q true τ = tc env τ (kCh4 g' y Q) := rfl
theorem kChB_f {tc : W T} {env : List SV} {g' : SV → SV → (SV → Prop) → Prop} {y : SV} {Q : SV → T → Prop} {τ : T} : kChB tc env g' y Q false τ = Q (.d (.bool false)) τ := rfl
theorem dChain_k (g g' : SV → SV → (SV → Prop) → Prop) (ta tb tc : W T) (env : List SV) (τ : T) (Q : SV → T → Prop) : dChain g g' ta tb tc env τ Q = ta env τ (kCh1 tb tc env g g' Q) := rfl
theorem dTru_k (t : W T) (env : List SV) (τ : T) (Q : Bool → T → Prop) : dTru t env τ Q = t env τ (kTru Q) := rfl
def kAndT (u : WT T) (env : List SV) (Q : Bool → T → Prop) (c : Bool) (τ : T) : Prop := if c = true then u env τ Q else Q false τ
def kOrT (u : WT T) (env : List SV) (Q : Bool → T → Prop) (c : Bool) (τ : T) : Prop := if c = true then Q true τ else u env τ Q
def kNotT (Q : Bool → T → Prop) (c : Bool) (τ : T) : Prop := Q (!c) τ
theorem kAndT_t {u : WT T} {env : List SV} {Q : Bool → T → Prop} {τ : T} : kAndT u env Q true τ = u env τ Q := rfl
theorem kAndT_f {u : WT T} {env : List SV} {Q : Bool → T → Prop} {τ : T} : kAndT u env Q false τ = Q false τ := rfl
theorem kOrT_t {u : WT T} {env : List SV} {Q : Bool → T → Prop} {τ : T} : kOrT u env Q true τ = Q true τ := rfl
theorem kOrT_f {u : WT T} {env : List SV} {Q : Bool → T → Prop} {τ : T} : kOrT u env Q false τ = u env τ Q := rfl
theorem dAndT_k (t u : WT T) (env : List SV) (τ : T) (Q : Bool → T → Prop) : dAndT t u env τ Q = t env τ (kAndT u env Q) := rfl
theorem dOrT_k (t u : WT T) (env : List SV) (τ : T) (Q : Bool → T → Prop) : dOrT t u env τ Q = t env τ (kOrT u env Q) := rfl
theorem dNotT_k (t : WT T) (env : List SV) (τ : T) (Q : Bool → T → Prop) : dNotT t env τ Q = t env τ (kNotT Q) := rfl
theorem dAnd_k (ta tb : W T) (env : List SV) (τ : T) (Q : SV → T → Prop) : dAnd ta tb env τ Q = ta env τ (kAnd tb env Q) := rfl
theorem dOr_k (ta tb : W T) (env : List SV) (τ : T) (Q : SV → T → Prop) : dOr ta tb env τ Q = ta env τ (kOr tb env Q) := rfl
theorem dNot_k (ta : W T) (env : List SV) (τ : T) (Q : SV → T → Prop) : dNot ta env τ Q = ta env τ (kNot Q) := rfl
def kIf (ta tb : W T) (env : List SV) (Q : SV → T → Prop) (c : Bool) (τ : T) : Prop := if c = true then ta env τ Q else tb env τ Q
theorem kIf_t {ta tb : W T} {env : List SV} {Q : SV → T → Prop} {τ : T} : kIf ta tb env Q true τ = ta env τ Q := rfl
theorem kIf_f {ta tb : W T} {env : List SV} {Q : SV → T → Prop} {τ : T} : kIf ta tb env Q false τ = tb env τ Q := rfl
theorem dIf_k (t : WT T) (ta tb : W T) (env : List SV) (τ : T) (Q : SV → T → Prop) : dIf t ta tb env τ Q = t env τ (kIf ta tb env Q) := rfl
/-! arguments -/
theorem dNil_k (env : List SV) (τ : T) (Q : List SV → T → Prop) : dNil env τ Q = Q [] τ := rfl
theorem dCons_k (t : W T) (ta : WA T) (env : List SV) (τ : T) (Q : List SV → T → Prop) : dCons t ta env τ Q = t env τ (kCo ta env Q) := rfl
theorem dTup_k (ta : WA T) (env : List SV) (τ : T) (Q : SV → T → Prop) : dTup ta env τ Q = ta env τ (kTup Q) := rfl
theorem dLst_k (ta : WA T) (env : List SV) (τ : T) (Q : SV → T → Prop) : dLst ta env τ Q = ta env τ (kLst Q) := rfl
def kCB (g : List SV → (SV → Prop) → Prop) (Q : SV → T → Prop) (rs : List SV) (τ : T) : Prop := g rs (kG Q τ)
theorem dCB_k (g : List SV → (SV → Prop) → Prop) (ta : WA T) (env : List SV) (τ : T) (Q : SV → T → Prop) : dCB g ta env τ Q = ta env τ (kCB g Q) := rfl
def kCall (FF : FW T) (Q : SV → T → Prop) (rs : List SV) (τ : T) : Prop := rs.all SV.dr = true ∧ FF rs τ Q
theorem dCall_k (FF : FW T) (ta : WA T) (env : List SV) (τ : T) (Q : SV → T → Prop) : dCall FF ta env τ Q = ta env τ (kCall FF Q) := rfl
/-! statements -/
def kNx (t : WS T) (D : DEnds T) (env : List SV) (τ : T) : Prop := t D env τ
theorem dNext_k (D : DEnds T) (env : List SV) (τ : T) : dNext D env τ = D.nx env τ := rfl
theorem dSeq_k (t u : WS T) (nx : List SV → T → Prop) (rt : SV → T → Prop) (bk ct : List SV → T → Prop) (env : List SV) (τ : T) : dSeq t u ⟨nx, rt, bk, ct⟩ env τ = t ⟨kNx u ⟨nx, rt, bk, ct⟩, rt, bk, ct⟩ env τ := rfl
theorem dBreak_k (D : DEnds T) (env : List SV) (τ : T) : dBreak D env τ = D.bk env τ := rfl
theorem dCont_k (D : DEnds T) (env : List SV) (τ : T) : dCont D env τ = D.ct env τ := rfl
theorem dNever_k (D : DEnds T) (env : List SV) (τ : T) : dNever D env τ = False := rfl
def kDrop (D : DEnds T) (env : List SV) (r : SV) (τ : T) : Prop := D.nx env τ
theorem dDrop_k (te : W T) (D : DEnds T) (env : List SV) (τ : T) : dDrop te D env τ = te env τ (kDrop D env) := rfl
def kRet (D : DEnds T) (r : SV) (τ : T) : Prop := r.out = true ∧ D.rt r τ
theorem dRet_k (te : W T) (D : DEnds T) (env : List SV) (τ : T) : dRet te D env τ = te env τ (kRet D) := rfl
theorem dRetN_k (D : DEnds T) (env : List SV) (τ : T) : dRetN D env τ = D.rt (.d .none) τ := rfl
def kIfS (t u : WS T) (D : DEnds T) (env : List SV) (b : Bool) (τ : T) : Prop := if b = true then t D env τ else u D env τ
theorem kIfS_t {t u : WS T} {D : DEnds T} {env : List SV} {τ : T} : kIfS t u D env true τ = t D env τ := rfl
theorem kIfS_f {t u : WS T} {D : DEnds T} {env : List SV} {τ : T} : kIfS t u D env false τ = u D env τ := rfl
theorem dIfS_k (c : WT T) (t u : WS T) (D : DEnds T) (env : List SV) (τ : T) : dIfS c t u D env τ = c env τ (kIfS t u D env) := rfl
theorem dSet_k (i : Nat) (te : W T) (D : DEnds T) (env : List SV) (τ : T) : dSet i te D env τ = te env τ (kSet i D env) := rfl
theorem dAsg_k (t : Tg) (te : W T) (D : DEnds T) (env : List SV) (τ : T) : dAsg t te D env τ = te env τ (kAsg t D env) := rfl
def kPar (i j : Nat) (D : DEnds T) (env : List SV) (rs : List SV) (τ : T) : Prop := match rs with
  | [.d x, .d y] => D.nx ((env.set i (.d x)).set j (.d y)) τ
  | _ => False
theorem dPar_k (i j : Nat) (ta : WA T) (D : DEnds T) (env : List SV) (τ : T) : dPar i j ta D env τ = ta env τ (kPar i j D env) := rfl
theorem kPar_k {i j : Nat} {D : DEnds T} {env : List SV} {x y : Z.D} {τ : T} : kPar i j D env [.d x, .d y] τ = D.nx ((env.set i (.d x)).set j (.d y)) τ := rfl
def kApD (i : Nat) (D : DEnds T) (env : List SV) (xs : List Z.D) (τ : T) : Option Z.D → Prop
  | some y => xs.length < sizeLine ∧ D.nx (env.set i (.ol (xs ++ [y]))) τ
  | none => False
def kAp (i : Nat) (D : DEnds T) (env : List SV) (xs : List Z.D) (r : SV) (τ : T) : Prop := kApD i D env xs τ r.dat?
def kApp (i : Nat) (te : W T) (D : DEnds T) (env : List SV) (τ : T) : Option SV → Prop
  | some (.ol xs) => te env τ (kAp i D env xs)
  | _ => False
theorem dApp_k (i : Nat) (te : W T) (D : DEnds T) (env : List SV) (τ : T) : dApp i te D env τ = kApp i te D env τ env[i]? := by
  unfold dApp
  generalize env[i]? = o
  match o with
  | some (.ol xs) =>
    show te env τ _ = te env τ (kAp i D env xs)
    congr 1
    funext r τ1
    exact opt_e (fun _ => rfl) rfl
  | some (.d _) => rfl
  | some (.vw _) => rfl
  | some (.raw _) => rfl
  | some .no => rfl
  | none => rfl
theorem dFrz_k (i : Nat) (t : WS T) (D : DEnds T) (env : List SV) (τ : T) : dFrz i t D env τ = kFrz i t D env τ env[i]? := rfl
/-! loops -/
theorem dSeqI_k (te : W T) (env : List SV) (τ : T) (Q : List D → T → Prop) : dSeqI te env τ Q = te env τ (kSq Q) := rfl
theorem dRng1_k (ta : WA T) (env : List SV) (τ : T) (Q : List D → T → Prop) : dRng1 ta env τ Q = ta env τ (kR1 Q) := rfl
theorem dRng2_k (ta : WA T) (env : List SV) (τ : T) (Q : List D → T → Prop) : dRng2 ta env τ Q = ta env τ (kR2 Q) := rfl
theorem kR1_k {Q : List D → T → Prop} {j : Int} {τ : T} : kR1 Q [.d (.int j)] τ = ((-(2 ^ 62) ≤ j ∧ j < 2 ^ 62) ∧ Q (rgI 0 j.toNat) τ) := rfl
theorem kR2_k {Q : List D → T → Prop} {i j : Int} {τ : T} : kR2 Q [.d (.int i), .d (.int j)] τ = ((-(2 ^ 62) ≤ i ∧ i < 2 ^ 62 ∧ -(2 ^ 62) ≤ j ∧ j < 2 ^ 62) ∧ Q (rgI i (j - i).toNat) τ) := rfl
def kFor (t : Tg) (tb : WS T) (D : DEnds T) (env : List SV) (xs : List Z.D) (τ : T) : Prop := forW t tb D xs env τ
theorem dFor_k (ti : WI T) (t : Tg) (tb : WS T) (D : DEnds T) (env : List SV) (τ : T) : dFor ti t tb D env τ = ti env τ (kFor t tb D env) := rfl
def kOl (Q : SV → T → Prop) (acc : List D) (τ : T) : Prop := Q (.ol acc) τ
def kLc (t : Tg) (tt : WT T) (te : W T) (Q : SV → T → Prop) (env : List SV) (xs : List D) (τ : T) : Prop := lcW t tt te (kOl Q) xs [] env τ
theorem dLc_k (ti : WI T) (t : Tg) (tt : WT T) (te : W T) (vs : List Nat) (env : List SV) (τ : T) (Q : SV → T → Prop) : dLc ti t tt te vs env τ Q = ti env τ (kLc t tt te Q (wipeE env vs)) := rfl
theorem dYes_k (env : List SV) (τ : T) (Q : Bool → T → Prop) : dYes env τ Q = Q true τ := rfl
/-- a turn of a comprehension -/
def kDt (kc : D → T → Prop) (τ : T) : Option D → Prop
  | some y => kc y τ
  | none => False
def kDat (kc : D → T → Prop) (r : SV) (τ : T) : Prop := kDt kc τ r.dat?
def kTurn (te : W T) (env : List SV) (kc : D → T → Prop) (k0 : T → Prop) (b : Bool) (τ : T) : Prop := if b = true then te env τ (kDat kc) else k0 τ
theorem kTurn_t {te : W T} {env : List SV} {kc : D → T → Prop} {k0 : T → Prop} {τ : T} : kTurn te env kc k0 true τ = te env τ (kDat kc) := rfl
theorem kTurn_f {te : W T} {env : List SV} {kc : D → T → Prop} {k0 : T → Prop} {τ : T} : kTurn te env kc k0 false τ = k0 τ := rfl
def kTgB (tt : WT T) (te : W T) (kc : D → T → Prop) (k0 : T → Prop) (τ : T) : Option (List SV) → Prop
  | some env => tt env τ (kTurn te env kc k0)
  | none => False
theorem turn_k {t : Tg} {x : D} {env : List SV} {tt : WT T} {te : W T} {kc : D → T → Prop} {k0 : T → Prop} {τ : T} (h : kTgB tt te kc k0 τ (tgE t x env)) :
    opt (tgE t x env) fun env' => tt env' τ fun b τ1 => if b = true then te env' τ1 fun r τ2 => opt r.dat? fun y => kc y τ2 else k0 τ1 := by
  cases e : tgE t x env with
  | none => rw [e] at h; exact h.elim
  | some a =>
    rw [e] at h
    show tt a τ _
    have e : (fun (b : Bool) (τ1 : T) => if b = true then te a τ1 fun r τ2 => opt r.dat? fun y => kc y τ2 else k0 τ1) = kTurn te a kc k0 := by
      funext b τ1
      unfold kTurn
      congr 1
      congr 1
      funext r τ2
      exact opt_e (fun _ => rfl) rfl
    rw [e]
    exact h
/-- a turn of a for -/
def kFtB (tb : WS T) (D : DEnds T) (τ : T) : Option (List SV) → Prop
  | some env => tb D env τ
  | none => False
theorem fturn_k {t : Tg} {x : Z.D} {env : List SV} {tb : WS T} {D : DEnds T} {kn : List SV → T → Prop} {τ : T} (h : kFtB tb ⟨kn, D.rt, D.nx, kn⟩ τ (tgE t x env)) :
    opt (tgE t x env) fun env' => tb { D with nx := kn, ct := kn, bk := D.nx } env' τ := by
  cases e : tgE t x env with
  | none => rw [e] at h; exact h.elim
  | some a => rw [e] at h; exact h
/-! the rules, with turns said so -/
theorem for_inv {t : Tg} {tb : WS T} {D : DEnds T} (P : Nat → List SV → T → Prop) (xs : List Z.D) (env : List SV) (τ : T) (h0 : P 0 env τ)
    (h : ∀ j x env τ, xs[j]? = some x → P j env τ → ∀ kn : List SV → T → Prop, (∀ env' τ', P (j + 1) env' τ' → kn env' τ') → kFtB tb ⟨kn, D.rt, D.nx, kn⟩ τ (tgE t x env))
    (q : ∀ env τ, P xs.length env τ → D.nx env τ) : forW t tb D xs env τ :=
  forW_inv P xs 0 env τ h0 (fun j x env τ e p kn h1 => by
    rw [Nat.zero_add] at *
    exact fturn_k (h j x env τ e p kn h1)) (by rw [Nat.zero_add]; exact q)
/-! slices and more -/
def kSl3 (x : SV) (lo : Option Int) (Q : SV → T → Prop) (hi : Option Int) (τ : T) : Prop := gSl x lo hi (kG Q τ)
def kSl2 (th : WO T) (env : List SV) (x : SV) (Q : SV → T → Prop) (lo : Option Int) (τ : T) : Prop := th env τ (kSl3 x lo Q)
def kSl1 (tl th : WO T) (env : List SV) (Q : SV → T → Prop) (x : SV) (τ : T) : Prop := tl env τ (kSl2 th env x Q)
theorem dSl_k (te : W T) (tl th : WO T) (env : List SV) (τ : T) (Q : SV → T → Prop) : dSl te tl th env τ Q = te env τ (kSl1 tl th env Q) := rfl
theorem dNoPart_k (env : List SV) (τ : T) (Q : Option Int → T → Prop) : dNoPart env τ Q = Q none τ := rfl
theorem dPart_k (te : W T) (env : List SV) (τ : T) (Q : Option Int → T → Prop) : dPart te env τ Q = te env τ (kPt Q) := rfl
def kUn (g : SV → (SV → Prop) → Prop) (Q : SV → T → Prop) (x : SV) (τ : T) : Prop := g x (kG Q τ)
theorem dUn_k (g : SV → (SV → Prop) → Prop) (ta : W T) (env : List SV) (τ : T) (Q : SV → T → Prop) : dUn g ta env τ Q = ta env τ (kUn g Q) := rfl
theorem dEmp_k (env : List SV) (τ : T) (Q : SV → T → Prop) : dEmp env τ Q = Q (.d (.dict [])) τ := rfl
def kM2 (g : SV → SV → (SV → Prop) → Prop) (x : SV) (Q : SV → T → Prop) (y : SV) (τ : T) : Prop := g x y (kG Q τ)
def kM1 (te : W T) (env : List SV) (g : SV → SV → (SV → Prop) → Prop) (Q : SV → T → Prop) (x : SV) (τ : T) : Prop := (∃ a, x = .d (.str a)) ∧ te env τ (kM2 g x Q)
theorem dM1_k (g : SV → SV → (SV → Prop) → Prop) (to te : W T) (env : List SV) (τ : T) (Q : SV → T → Prop) : dM1 g to te env τ Q = to env τ (kM1 te env g Q) := rfl
theorem kM1_k {te : W T} {env : List SV} {g : SV → SV → (SV → Prop) → Prop} {Q : SV → T → Prop} {a : Str} {τ : T} : kM1 te env g Q (.d (.str a)) τ = te env τ (kM2 g (.d (.str a)) Q) := by
  unfold kM1
  simp
end
/-! ### operators on what is known -/
theorem gI_k {C : Int → Int → Prop} {f : Int → Int → D} {i j : Int} {Q : SV → Prop} : gI C f (.d (.int i)) (.d (.int j)) Q = (C i j ∧ Q (.d (f i j))) := rfl
theorem gAdd_i {i j : Int} {Q : SV → Prop} : gAdd (.d (.int i)) (.d (.int j)) Q = Q (.d (.int (i + j))) := rfl
theorem gAdd_s {i j : Str} {Q : SV → Prop} : gAdd (.d (.str i)) (.d (.str j)) Q = (i.length + j.length ≤ sizeLine ∧ Q (.d (.str (i ++ j)))) := rfl
theorem gAdd_t {i j : List D} {Q : SV → Prop} : gAdd (.d (.tuple i)) (.d (.tuple j)) Q = (i.length + j.length ≤ sizeLine ∧ Q (.d (.tuple (i ++ j)))) := rfl
theorem gAdd_ll {i j : List D} {Q : SV → Prop} : gAdd (.d (.list i)) (.d (.list j)) Q = (i.length + j.length ≤ sizeLine ∧ Q (.ol (i ++ j))) := by simp [gAdd, SV.lst?]
theorem gAdd_lo {i j : List D} {Q : SV → Prop} : gAdd (.d (.list i)) (.ol j) Q = (i.length + j.length ≤ sizeLine ∧ Q (.ol (i ++ j))) := by simp [gAdd, SV.lst?]
theorem gAdd_ol {i j : List D} {Q : SV → Prop} : gAdd (.ol i) (.d (.list j)) Q = (i.length + j.length ≤ sizeLine ∧ Q (.ol (i ++ j))) := by simp [gAdd, SV.lst?]
theorem gAdd_oo {i j : List D} {Q : SV → Prop} : gAdd (.ol i) (.ol j) Q = (i.length + j.length ≤ sizeLine ∧ Q (.ol (i ++ j))) := by simp [gAdd, SV.lst?]
theorem gAdd_vo {i j : List D} {Q : SV → Prop} : gAdd (.vw i) (.ol j) Q = (i.length + j.length ≤ sizeLine ∧ Q (.ol (i ++ j))) := by simp [gAdd, SV.lst?]
theorem gAdd_ov {i j : List D} {Q : SV → Prop} : gAdd (.ol i) (.vw j) Q = (i.length + j.length ≤ sizeLine ∧ Q (.ol (i ++ j))) := by simp [gAdd, SV.lst?]
theorem gAdd_vv {i j : List D} {Q : SV → Prop} : gAdd (.vw i) (.vw j) Q = (i.length + j.length ≤ sizeLine ∧ Q (.ol (i ++ j))) := by simp [gAdd, SV.lst?]
theorem gEq_k (x y : SV) (Q : SV → Prop) : gEq x y Q = kEq1 false y Q x.now? := rfl
theorem gNe_k (x y : SV) (Q : SV → Prop) : gNe x y Q = kEq1 true y Q x.now? := rfl
theorem gCmp_i {f : Int → Int → Bool} {g : Str → Str → Bool} {i j : Int} {Q : SV → Prop} : gCmp f g (.d (.int i)) (.d (.int j)) Q = Q (.d (.bool (f i j))) := rfl
theorem gCmp_s {f : Int → Int → Bool} {g : Str → Str → Bool} {i j : Str} {Q : SV → Prop} : gCmp f g (.d (.str i)) (.d (.str j)) Q = Q (.d (.bool (g i j))) := rfl
def kIsB (neg : Bool) (Q : SV → Prop) : Option Bool → Prop
  | some b => Q (.d (.bool (neg ^^ b)))
  | none => False
theorem gIsN_d {x : D} {Q : SV → Prop} : gIsN (.d x) (.d .none) Q = kIsB false Q (SV.isN (.d x)) := by
  cases x <;> simp [gIsN, opt, kIsB, SV.isN]
theorem gNotN_d {x : D} {Q : SV → Prop} : gNotN (.d x) (.d .none) Q = kIsB true Q (SV.isN (.d x)) := by
  cases x <;> simp [gNotN, opt, kIsB, SV.isN]
theorem gIsN_ol {x : List D} {Q : SV → Prop} : gIsN (.ol x) (.d .none) Q = kIsB false Q (some false) := by
  simp [gIsN, opt, kIsB, SV.isN]
theorem gNotN_ol {x : List D} {Q : SV → Prop} : gNotN (.ol x) (.d .none) Q = kIsB true Q (some false) := by
  simp [gNotN, opt, kIsB, SV.isN]
theorem gIsN_vw {x : List D} {Q : SV → Prop} : gIsN (.vw x) (.d .none) Q = kIsB false Q (some false) := by
  simp [gIsN, opt, kIsB, SV.isN]
theorem gNotN_vw {x : List D} {Q : SV → Prop} : gNotN (.vw x) (.d .none) Q = kIsB true Q (some false) := by
  simp [gNotN, opt, kIsB, SV.isN]
theorem gIx_s {z : Str} {i : Int} {Q : SV → Prop} : gIx (.d (.str z)) (.d (.int i)) Q = (z.length ≤ sizeLine ∧ kAtS Q (atI z.cps.toList i)) := rfl
theorem gIx_t {z : List D} {i : Int} {Q : SV → Prop} : gIx (.d (.tuple z)) (.d (.int i)) Q = kAt Q (atI z i) := rfl
theorem gIx_l {z : List D} {i : Int} {Q : SV → Prop} : gIx (.d (.list z)) (.d (.int i)) Q = kAt Q (atI z i) := rfl
theorem gIx_ol {z : List D} {i : Int} {Q : SV → Prop} : gIx (.ol z) (.d (.int i)) Q = kAt Q (atI z i) := rfl
theorem gIx_vw {z : List D} {i : Int} {Q : SV → Prop} : gIx (.vw z) (.d (.int i)) Q = kAt Q (atI z i) := rfl
theorem gSl_s {z : Str} {lo hi : Option Int} {Q : SV → Prop} : gSl (.d (.str z)) lo hi Q = (z.length ≤ sizeLine ∧ Q (.d (.str (cutS z lo hi)))) := rfl
theorem gSl_t {z : List D} {lo hi : Option Int} {Q : SV → Prop} : gSl (.d (.tuple z)) lo hi Q = Q (.d (.tuple (cutL z lo hi))) := rfl
theorem gSl_l {z : List D} {lo hi : Option Int} {Q : SV → Prop} : gSl (.d (.list z)) lo hi Q = Q (.ol (cutL z lo hi)) := rfl
theorem gSl_ol {z : List D} {lo hi : Option Int} {Q : SV → Prop} : gSl (.ol z) lo hi Q = Q (.ol (cutL z lo hi)) := rfl
theorem gSl_vw {z : List D} {lo hi : Option Int} {Q : SV → Prop} : gSl (.vw z) lo hi Q = Q (.ol (cutL z lo hi)) := rfl
theorem gLen_s {z : Str} {Q : SV → Prop} : gLen [.d (.str z)] Q = (z.length ≤ sizeLine ∧ Q (.d (.int z.length))) := by
  unfold gLen opt SV.size?
  by_cases h : z.length ≤ sizeLine
  · simp [h]
  · simp [h]
theorem gLen_t {z : List D} {Q : SV → Prop} : gLen [.d (.tuple z)] Q = Q (.d (.int z.length)) := rfl
theorem gLen_l {z : List D} {Q : SV → Prop} : gLen [.d (.list z)] Q = Q (.d (.int z.length)) := rfl
theorem gLen_ol {z : List D} {Q : SV → Prop} : gLen [.ol z] Q = Q (.d (.int z.length)) := rfl
theorem gLen_vw {z : List D} {Q : SV → Prop} : gLen [.vw z] Q = Q (.d (.int z.length)) := rfl
def kTy (c : String) (Q : SV → Prop) : Option String → Prop
  | some n => Q (.d (.bool (isT n c)))
  | none => False
theorem gIsi_k {x : SV} {c : String} {Q : SV → Prop} : gIsi [x, .raw (.ty c)] Q = (tyNames.contains c = true ∧ kTy c Q x.tyN) := by
  show (_ ∧ (opt x.tyN fun n => Q (SV.d (PyData.bool (isT n c))))) = _
  rw [show (opt x.tyN fun n => Q (SV.d (PyData.bool (isT n c)))) = kTy c Q x.tyN from opt_e (fun _ => rfl) rfl]
def kBls (f : List Bool → Bool) (Q : SV → Prop) : Option (List Bool) → Prop
  | some bs => Q (.d (.bool (f bs)))
  | none => False
theorem gAll_d {xs : List D} {Q : SV → Prop} : gAll [.d (.list xs)] Q = kBls (·.all id) Q (bools? xs) := opt_e (fun _ => rfl) rfl
theorem gAll_ol {xs : List D} {Q : SV → Prop} : gAll [.ol xs] Q = kBls (·.all id) Q (bools? xs) := opt_e (fun _ => rfl) rfl
theorem gAny_d {xs : List D} {Q : SV → Prop} : gAny [.d (.list xs)] Q = kBls (·.any id) Q (bools? xs) := opt_e (fun _ => rfl) rfl
theorem gAny_ol {xs : List D} {Q : SV → Prop} : gAny [.ol xs] Q = kBls (·.any id) Q (bools? xs) := opt_e (fun _ => rfl) rfl
theorem gInt_i {i : Int} {Q : SV → Prop} : gInt [.d (.int i)] Q = Q (.d (.int i)) := rfl
theorem gInt_b {i : Bool} {Q : SV → Prop} : gInt [.d (.bool i)] Q = Q (.d (.int (if i then 1 else 0))) := rfl
theorem gInt_s {i : Str} {Q : SV → Prop} : gInt [.d (.str i)] Q = ∃ n, PySem.intText? i = some n ∧ i.length ≤ 640 ∧ Q (.d (.int n)) := rfl
theorem gII_k {f : Int → Int → Int} {i j : Int} {Q : SV → Prop} : gII f [.d (.int i), .d (.int j)] Q = Q (.d (.int (f i j))) := rfl
theorem gNeg_k {i : Int} {Q : SV → Prop} : gNeg (.d (.int i)) Q = Q (.d (.int (-i))) := rfl
def kJn (a : Str) (Q : SV → Prop) : Option (List Str) → Prop
  | some ys => (ys.map (·.length)).sum + ys.length * a.length ≤ 16777216 ∧ Q (.d (.str (Txt.join a ys)))
  | none => False
theorem gJoin_ol {a : Str} {xs : List D} {Q : SV → Prop} : gJoin (.d (.str a)) (.ol xs) Q = kJn a Q (strs? xs) := by
  unfold gJoin
  simp only [SV.d.injEq, PyData.str.injEq, exists_eq_left']
  exact opt_e (fun _ => rfl) rfl
theorem gJoin_l {a : Str} {xs : List D} {Q : SV → Prop} : gJoin (.d (.str a)) (.d (.list xs)) Q = kJn a Q (strs? xs) := by
  unfold gJoin
  simp only [SV.d.injEq, PyData.str.injEq, exists_eq_left']
  exact opt_e (fun _ => rfl) rfl
theorem gJoin_t {a : Str} {xs : List D} {Q : SV → Prop} : gJoin (.d (.str a)) (.d (.tuple xs)) Q = kJn a Q (strs? xs) := by
  unfold gJoin
  simp only [SV.d.injEq, PyData.str.injEq, exists_eq_left']
  exact opt_e (fun _ => rfl) rfl
theorem gJoin_vw {a : Str} {xs : List D} {Q : SV → Prop} : gJoin (.d (.str a)) (.vw xs) Q = kJn a Q (strs? xs) := by
  unfold gJoin
  simp only [SV.d.injEq, PyData.str.injEq, exists_eq_left']
  exact opt_e (fun _ => rfl) rfl
theorem gMul_i {i j : Int} {Q : SV → Prop} : gMul (.d (.int i)) (.d (.int j)) Q = (CMul i j ∧ Q (.d (.int (i * j)))) := by
  unfold gMul gMulS
  rw [gI_k]
  simp
theorem gMul_s {i : Str} {j : Int} {Q : SV → Prop} : gMul (.d (.str i)) (.d (.int j)) Q = ((2 ≤ j ∧ j ≤ 100000 ∧ 0 < i.length ∧ i.length ≤ 100) ∧ (strRep i j.toNat).length ≤ sizeLine ∧ Q (.d (.str (strRep i j.toNat)))) := by
  unfold gMul gMulS gI
  simp
theorem kV_1 {T : Type} {Q : SV → T → Prop} {τ : T} {x : _} : kV Q τ (some (.d x)) = (Q (.d x) τ) := rfl
theorem kV_2 {T : Type} {Q : SV → T → Prop} {τ : T} {xs : _} : kV Q τ (some (.ol xs)) = (Q (.vw xs) τ) := rfl
theorem kV_3 {T : Type} {Q : SV → T → Prop} {τ : T} {v : _} : kV Q τ (some (.raw v)) = (Q (.raw v) τ) := rfl
theorem kTb_1 {T : Type} {Q : Bool → T → Prop} {τ : T} {b : _} : kTb Q τ (some b) = (Q b τ) := rfl
theorem kTb_2 {T : Type} {Q : Bool → T → Prop} {τ : T}  : kTb Q τ (none) = (False) := rfl
theorem kAndB_1 {T : Type} {tb : W T} {env : List SV} {Q : SV → T → Prop} {x : SV} {τ : T}  : kAndB tb env Q x τ (some true) = (tb env τ Q) := rfl
theorem kAndB_2 {T : Type} {tb : W T} {env : List SV} {Q : SV → T → Prop} {x : SV} {τ : T}  : kAndB tb env Q x τ (some false) = (Q x τ) := rfl
theorem kAndB_3 {T : Type} {tb : W T} {env : List SV} {Q : SV → T → Prop} {x : SV} {τ : T}  : kAndB tb env Q x τ (none) = (False) := rfl
theorem kOrB_1 {T : Type} {tb : W T} {env : List SV} {Q : SV → T → Prop} {x : SV} {τ : T}  : kOrB tb env Q x τ (some true) = (Q x τ) := rfl
theorem kOrB_2 {T : Type} {tb : W T} {env : List SV} {Q : SV → T → Prop} {x : SV} {τ : T}  : kOrB tb env Q x τ (some false) = (tb env τ Q) := rfl
theorem kOrB_3 {T : Type} {tb : W T} {env : List SV} {Q : SV → T → Prop} {x : SV} {τ : T}  : kOrB tb env Q x τ (none) = (False) := rfl
theorem kNotB_1 {T : Type} {Q : SV → T → Prop} {τ : T} {b : _} : kNotB Q τ (some b) = (Q (.d (.bool (!b))) τ) := rfl
theorem kNotB_2 {T : Type} {Q : SV → T → Prop} {τ : T}  : kNotB Q τ (none) = (False) := rfl
theorem kCoB_1 {T : Type} {ta : WA T} {env : List SV} {Q : List SV → T → Prop} {τ : T} {a : _} : kCoB ta env Q τ (some a) = (ta env τ (kCo2 Q a)) := rfl
theorem kCoB_2 {T : Type} {ta : WA T} {env : List SV} {Q : List SV → T → Prop} {τ : T}  : kCoB ta env Q τ (none) = (False) := rfl
theorem kTupB_1 {T : Type} {Q : SV → T → Prop} {τ : T} {xs : _} : kTupB Q τ (some xs) = (xs.length ≤ sizeLine ∧ Q (.d (.tuple xs)) τ) := rfl
theorem kTupB_2 {T : Type} {Q : SV → T → Prop} {τ : T}  : kTupB Q τ (none) = (False) := rfl
theorem kLstB_1 {T : Type} {Q : SV → T → Prop} {τ : T} {xs : _} : kLstB Q τ (some xs) = (xs.length ≤ sizeLine ∧ Q (.ol xs) τ) := rfl
theorem kLstB_2 {T : Type} {Q : SV → T → Prop} {τ : T}  : kLstB Q τ (none) = (False) := rfl
theorem kStB_1 {T : Type} {i : Nat} {D : DEnds T} {env : List SV} {τ : T} {a : _} : kStB i D env τ (some a) = (D.nx (env.set i a) τ) := rfl
theorem kStB_2 {T : Type} {i : Nat} {D : DEnds T} {env : List SV} {τ : T}  : kStB i D env τ (none) = (False) := rfl
theorem kEnv_1 {T : Type} {D : DEnds T} {τ : T} {env : _} : kEnv D τ (some env) = (D.nx env τ) := rfl
theorem kEnv_2 {T : Type} {D : DEnds T} {τ : T}  : kEnv D τ (none) = (False) := rfl
theorem kAsB_1 {T : Type} {t : Tg} {D : DEnds T} {env : List SV} {τ : T} {x : _} : kAsB t D env τ (some x) = (kEnv D τ (tgE t x env)) := rfl
theorem kAsB_2 {T : Type} {t : Tg} {D : DEnds T} {env : List SV} {τ : T}  : kAsB t D env τ (none) = (False) := rfl
theorem kApD_1 {T : Type} {i : Nat} {D : DEnds T} {env : List SV} {xs : List Z.D} {τ : T} {y : _} : kApD i D env xs τ (some y) = (xs.length < sizeLine ∧ D.nx (env.set i (.ol (xs ++ [y]))) τ) := rfl
theorem kApD_2 {T : Type} {i : Nat} {D : DEnds T} {env : List SV} {xs : List Z.D} {τ : T}  : kApD i D env xs τ (none) = (False) := rfl
theorem kApp_1 {T : Type} {i : Nat} {te : W T} {D : DEnds T} {env : List SV} {τ : T} {xs : _} : kApp i te D env τ (some (.ol xs)) = (te env τ (kAp i D env xs)) := rfl
theorem kFrz_1 {T : Type} {i : Nat} {t : WS T} {D : DEnds T} {env : List SV} {τ : T} {xs : _} : kFrz i t D env τ (some (.ol xs)) = (t D (env.set i (.d (.list xs))) τ) := rfl
theorem kFrz_2 {T : Type} {i : Nat} {t : WS T} {D : DEnds T} {env : List SV} {τ : T} {xs : _} : kFrz i t D env τ (some (.d (.list xs))) = (t D env τ) := rfl
theorem kSqB_1 {T : Type} {Q : List D → T → Prop} {τ : T} {xs : _} : kSqB Q τ (some xs) = (Q xs τ) := rfl
theorem kSqB_2 {T : Type} {Q : List D → T → Prop} {τ : T}  : kSqB Q τ (none) = (False) := rfl
theorem kDt_1 {T : Type} {kc : D → T → Prop} {τ : T} {y : _} : kDt kc τ (some y) = (kc y τ) := rfl
theorem kDt_2 {T : Type} {kc : D → T → Prop} {τ : T}  : kDt kc τ (none) = (False) := rfl
theorem kTgB_1 {T : Type} {tt : WT T} {te : W T} {kc : D → T → Prop} {k0 : T → Prop} {τ : T} {env : _} : kTgB tt te kc k0 τ (some env) = (tt env τ (kTurn te env kc k0)) := rfl
theorem kTgB_2 {T : Type} {tt : WT T} {te : W T} {kc : D → T → Prop} {k0 : T → Prop} {τ : T}  : kTgB tt te kc k0 τ (none) = (False) := rfl
theorem kFtB_1 {T : Type} {tb : WS T} {D : DEnds T} {τ : T} {env : _} : kFtB tb D τ (some env) = (tb D env τ) := rfl
theorem kFtB_2 {T : Type} {tb : WS T} {D : DEnds T} {τ : T}  : kFtB tb D τ (none) = (False) := rfl
theorem kPtB_1 {T : Type} {Q : Option Int → T → Prop} {τ : T} {i : _} : kPtB Q τ (some i) = (Q (some i) τ) := rfl
theorem kPtB_2 {T : Type} {Q : Option Int → T → Prop} {τ : T}  : kPtB Q τ (none) = (False) := rfl
theorem kEq2_1  {neg : Bool} {a : D} {Q : SV → Prop} {b : _} : kEq2 neg a Q (some b) = (eqOk a b = true ∧ Q (.d (.bool (neg ^^ PyData.eqv a b)))) := rfl
theorem kEq2_2  {neg : Bool} {a : D} {Q : SV → Prop}  : kEq2 neg a Q (none) = (False) := rfl
theorem kEq1_1  {neg : Bool} {y : SV} {Q : SV → Prop} {a : _} : kEq1 neg y Q (some a) = (kEq2 neg a Q y.now?) := rfl
theorem kEq1_2  {neg : Bool} {y : SV} {Q : SV → Prop}  : kEq1 neg y Q (none) = (False) := rfl
theorem kIsB_1  {neg : Bool} {Q : SV → Prop} {b : _} : kIsB neg Q (some b) = (Q (.d (.bool (neg ^^ b)))) := rfl
theorem kIsB_2  {neg : Bool} {Q : SV → Prop}  : kIsB neg Q (none) = (False) := rfl
theorem kAtS_1  {Q : SV → Prop} {c : _} : kAtS Q (some c) = (Q (.d (sg c))) := rfl
theorem kAtS_2  {Q : SV → Prop}  : kAtS Q (none) = (False) := rfl
theorem kAt_1  {Q : SV → Prop} {c : _} : kAt Q (some c) = (Q (.d c)) := rfl
theorem kAt_2  {Q : SV → Prop}  : kAt Q (none) = (False) := rfl
theorem kTy_1  {c : String} {Q : SV → Prop} {n : _} : kTy c Q (some n) = (Q (.d (.bool (isT n c)))) := rfl
theorem kTy_2  {c : String} {Q : SV → Prop}  : kTy c Q (none) = (False) := rfl
theorem kBls_1  {f : List Bool → Bool} {Q : SV → Prop} {bs : _} : kBls f Q (some bs) = (Q (.d (.bool (f bs)))) := rfl
theorem kBls_2  {f : List Bool → Bool} {Q : SV → Prop}  : kBls f Q (none) = (False) := rfl
theorem kJn_1  {a : Str} {Q : SV → Prop} {ys : _} : kJn a Q (some ys) = ((ys.map (·.length)).sum + ys.length * a.length ≤ 16777216 ∧ Q (.d (.str (Txt.join a ys)))) := rfl
theorem kJn_2  {a : Str} {Q : SV → Prop}  : kJn a Q (none) = (False) := rfl
/-! ### by cases -/
section
variable {T : Type}
theorem kIf_of {t u : W T} {Q : SV → T → Prop} {env : List SV} {b : Bool} {τ : T} (h1 : b = true → t env τ Q) (h2 : b = false → u env τ Q) : kIf t u env Q b τ := by
  cases b with
  | true => rw [kIf_t]; exact h1 rfl
  | false => rw [kIf_f]; exact h2 rfl
theorem kAt_of {Q : SV → Prop} {xs : List D} {i : Int} (h0 : 0 ≤ i) (h1 : i < (xs.length : Int)) (h : ∀ x, xs[i.toNat]? = some x → x ∈ xs → Q (.d x)) : kAt Q (atI xs i) := by
  obtain ⟨x, e, e2, hx⟩ := atI_some h0 h1
  rw [e]
  exact h x e2 hx
end
/-- a text of no more than n signs -/
def okN (n : Nat) (s : Str) : Prop := s.length ≤ n ∧ ∀ c ∈ cs s, c < 1114112
theorem okN.ok {n : Nat} {s : Str} (h : okN n s) (hn : n ≤ 100000) : okS s := ⟨Nat.le_trans h.1 hn, h.2⟩
theorem okN.le {n m : Nat} {s : Str} (h : okN n s) (hn : n ≤ m) : okN m s := ⟨Nat.le_trans h.1 hn, h.2⟩
theorem okN.sum {n m : Nat} {s t : Str} (h : okN n s) (h' : okN m t) (hn : n + m ≤ 100000) : s.length + t.length ≤ sizeLine := by
  have := h.1
  have := h'.1
  rw [sizeLine_eq]
  omega
theorem noC_t (i j : Int) : noC i j = True := rfl
theorem szs : 1 ≤ sizeLine ∧ 2 ≤ sizeLine ∧ 3 ≤ sizeLine ∧ 4 ≤ sizeLine ∧ 5 ≤ sizeLine ∧ 6 ≤ sizeLine ∧ 7 ≤ sizeLine ∧ 8 ≤ sizeLine ∧ 9 ≤ sizeLine ∧ 10 ≤ sizeLine ∧ 11 ≤ sizeLine ∧ 12 ≤ sizeLine ∧ 13 ≤ sizeLine ∧ 14 ≤ sizeLine ∧ 15 ≤ sizeLine ∧ 16 ≤ sizeLine ∧ 17 ≤ sizeLine ∧ 18 ≤ sizeLine ∧ 19 ≤ sizeLine ∧ 20 ≤ sizeLine ∧ 21 ≤ sizeLine ∧ 22 ≤ sizeLine ∧ 23 ≤ sizeLine ∧ 24 ≤ sizeLine ∧ 25 ≤ sizeLine ∧ 26 ≤ sizeLine ∧ 27 ≤ sizeLine ∧ 28 ≤ sizeLine ∧ 29 ≤ sizeLine ∧ 30 ≤ sizeLine ∧ 31 ≤ sizeLine ∧ 32 ≤ sizeLine ∧ 33 ≤ sizeLine ∧ 34 ≤ sizeLine ∧ 35 ≤ sizeLine ∧ 36 ≤ sizeLine ∧ 37 ≤ sizeLine ∧ 38 ≤ sizeLine ∧ 39 ≤ sizeLine ∧ 40 ≤ sizeLine ∧ 41 ≤ sizeLine ∧ 42 ≤ sizeLine ∧ 43 ≤ sizeLine ∧ 44 ≤ sizeLine ∧ 45 ≤ sizeLine ∧ 46 ≤ sizeLine ∧ 47 ≤ sizeLine ∧ 48 ≤ sizeLine ∧ 49 ≤ sizeLine ∧ 50 ≤ sizeLine ∧ 51 ≤ sizeLine ∧ 52 ≤ sizeLine ∧ 53 ≤ sizeLine ∧ 54 ≤ sizeLine ∧ 55 ≤ sizeLine ∧ 56 ≤ sizeLine ∧ 57 ≤ sizeLine ∧ 58 ≤ sizeLine ∧ 59 ≤ sizeLine ∧ 60 ≤ sizeLine ∧ 61 ≤ sizeLine ∧ 62 ≤ sizeLine ∧ 63 ≤ sizeLine ∧ 64 ≤ sizeLine := by
  rw [sizeLine_eq]
  decide
/-- the rule for a def, at the store of draws -/
theorem okDr {Ts : List Addr} {P : Program} {w : World} {K : PySem.W.Frag} {mg : Str → Option Value} {base : Heap} {x qual : Str} {st : Stmt} {f : Addr} {fd : FuncData} {N ps : List Str} {k : Nat} {FF : FW DrT} (F : Fun K x qual st f fd) (Sc : FnScope N ps (defScope st)) (len : ∀ rs τ Q, FF rs τ Q → rs.length = ps.length) (hl : ps.length ≤ N.length)
    (hbody : ∀ (cdv : Value) (A : Around) (outer : List Env) (s : Shared) (H : Hp) (E : XK) (G : Hp) (Fp : Addr → Prop), Room k (A.deeper (PyProof.Rows.envOfC qual (defScope st) s.heap.objs.size f cdv)) →
      ∃ t : WS DrT, PSs (cxOf CX0 P w K mg base N qual (defScope st) f cdv A outer s H E).nox (defBody st) (liftS ⟨theS Ts, K, G, Fp, H⟩ t) ∧ ∀ (rs : List SV) (τ : DrT) (Qd : SV → DrT → Prop), FF rs τ Qd → t ⟨fun _ τ' => Qd (.d .none) τ', Qd, fun _ _ => False, fun _ _ => False⟩ (rs ++ List.replicate (N.length - rs.length) .no) τ) :
    FnOk P w K mg base CX0 (k + 1) f fd ps (spD (theS Ts) K FF) := okD (S := theS Ts) F Sc len hl hbody
/-! ### == on what is known -/
theorem eqOks_none_none   : eqOk .none .none = true := rfl
theorem eqOks_none_int  (b : Int) : eqOk .none (.int b) = true := rfl
theorem eqOks_int_none (a : Int)  : eqOk (.int a) .none = true := rfl
theorem eqOks_none_bool  (b : Bool) : eqOk .none (.bool b) = true := rfl
theorem eqOks_bool_none (a : Bool)  : eqOk (.bool a) .none = true := rfl
theorem eqOks_none_str  (b : Str) : eqOk .none (.str b) = true := rfl
theorem eqOks_str_none (a : Str)  : eqOk (.str a) .none = true := rfl
theorem eqOks_int_int (a : Int) (b : Int) : eqOk (.int a) (.int b) = true := rfl
theorem eqOks_bool_bool (a : Bool) (b : Bool) : eqOk (.bool a) (.bool b) = true := rfl
theorem eqOks_str_str (a : Str) (b : Str) : eqOk (.str a) (.str b) = true := rfl
theorem eqOks_int_str (a : Int) (b : Str) : eqOk (.int a) (.str b) = true := rfl
theorem eqOks_str_int (a : Str) (b : Int) : eqOk (.str a) (.int b) = true := rfl
theorem eqOks_bool_str (a : Bool) (b : Str) : eqOk (.bool a) (.str b) = true := rfl
theorem eqOks_str_bool (a : Str) (b : Bool) : eqOk (.str a) (.bool b) = true := rfl
theorem eqv_int (i j : Int) : PyData.eqv (.int i) (.int j) = decide (i = j) := by
  rw [PyData.eqv]
  rfl
theorem eqv_bool (i j : Bool) : PyData.eqv (.bool i) (.bool j) = (i == j) := by rw [PyData.eqv]
theorem eqv_none_none   : PyData.eqv .none .none = true := by simp [PyData.eqv]
theorem eqv_none_bool  (b : Bool) : PyData.eqv .none (.bool b) = false := by simp [PyData.eqv]
theorem eqv_none_int  (b : Int) : PyData.eqv .none (.int b) = false := by simp [PyData.eqv]
theorem eqv_none_str  (b : Str) : PyData.eqv .none (.str b) = false := by simp [PyData.eqv]
theorem eqv_none_list  (b : List D) : PyData.eqv .none (.list b) = false := by simp [PyData.eqv]
theorem eqv_none_tuple  (b : List D) : PyData.eqv .none (.tuple b) = false := by simp [PyData.eqv]
theorem eqv_bool_none (a : Bool)  : PyData.eqv (.bool a) .none = false := by simp [PyData.eqv]
theorem eqv_bool_str (a : Bool) (b : Str) : PyData.eqv (.bool a) (.str b) = false := by simp [PyData.eqv]
theorem eqv_bool_list (a : Bool) (b : List D) : PyData.eqv (.bool a) (.list b) = false := by simp [PyData.eqv]
theorem eqv_bool_tuple (a : Bool) (b : List D) : PyData.eqv (.bool a) (.tuple b) = false := by simp [PyData.eqv]
theorem eqv_int_none (a : Int)  : PyData.eqv (.int a) .none = false := by simp [PyData.eqv]
theorem eqv_int_str (a : Int) (b : Str) : PyData.eqv (.int a) (.str b) = false := by simp [PyData.eqv]
theorem eqv_int_list (a : Int) (b : List D) : PyData.eqv (.int a) (.list b) = false := by simp [PyData.eqv]
theorem eqv_int_tuple (a : Int) (b : List D) : PyData.eqv (.int a) (.tuple b) = false := by simp [PyData.eqv]
theorem eqv_str_none (a : Str)  : PyData.eqv (.str a) .none = false := by simp [PyData.eqv]
theorem eqv_str_bool (a : Str) (b : Bool) : PyData.eqv (.str a) (.bool b) = false := by simp [PyData.eqv]
theorem eqv_str_int (a : Str) (b : Int) : PyData.eqv (.str a) (.int b) = false := by simp [PyData.eqv]
theorem eqv_str_list (a : Str) (b : List D) : PyData.eqv (.str a) (.list b) = false := by simp [PyData.eqv]
theorem eqv_str_tuple (a : Str) (b : List D) : PyData.eqv (.str a) (.tuple b) = false := by simp [PyData.eqv]
theorem eqv_list_none (a : List D)  : PyData.eqv (.list a) .none = false := by simp [PyData.eqv]
theorem eqv_list_bool (a : List D) (b : Bool) : PyData.eqv (.list a) (.bool b) = false := by simp [PyData.eqv]
theorem eqv_list_int (a : List D) (b : Int) : PyData.eqv (.list a) (.int b) = false := by simp [PyData.eqv]
theorem eqv_list_str (a : List D) (b : Str) : PyData.eqv (.list a) (.str b) = false := by simp [PyData.eqv]
theorem eqv_list_tuple (a : List D) (b : List D) : PyData.eqv (.list a) (.tuple b) = false := by simp [PyData.eqv]
theorem eqv_tuple_none (a : List D)  : PyData.eqv (.tuple a) .none = false := by simp [PyData.eqv]
theorem eqv_tuple_bool (a : List D) (b : Bool) : PyData.eqv (.tuple a) (.bool b) = false := by simp [PyData.eqv]
theorem eqv_tuple_int (a : List D) (b : Int) : PyData.eqv (.tuple a) (.int b) = false := by simp [PyData.eqv]
theorem eqv_tuple_str (a : List D) (b : Str) : PyData.eqv (.tuple a) (.str b) = false := by simp [PyData.eqv]
theorem eqv_tuple_list (a : List D) (b : List D) : PyData.eqv (.tuple a) (.list b) = false := by simp [PyData.eqv]
theorem isTs : isT "NoneType" "NoneType" = true ∧ isT "NoneType" "bool" = false ∧ isT "NoneType" "int" = false ∧ isT "NoneType" "str" = false ∧ isT "NoneType" "list" = false ∧ isT "NoneType" "tuple" = false ∧ isT "NoneType" "dict" = false ∧ isT "bool" "NoneType" = false ∧ isT "bool" "bool" = true ∧ isT "bool" "int" = true ∧ isT "bool" "str" = false ∧ isT "bool" "list" = false ∧ isT "bool" "tuple" = false ∧ isT "bool" "dict" = false ∧ isT "int" "NoneType" = false ∧ isT "int" "bool" = false ∧ isT "int" "int" = true ∧ isT "int" "str" = false ∧ isT "int" "list" = false ∧ isT "int" "tuple" = false ∧ isT "int" "dict" = false ∧ isT "str" "NoneType" = false ∧ isT "str" "bool" = false ∧ isT "str" "int" = false ∧ isT "str" "str" = true ∧ isT "str" "list" = false ∧ isT "str" "tuple" = false ∧ isT "str" "dict" = false ∧ isT "list" "NoneType" = false ∧ isT "list" "bool" = false ∧ isT "list" "int" = false ∧ isT "list" "str" = false ∧ isT "list" "list" = true ∧ isT "list" "tuple" = false ∧ isT "list" "dict" = false ∧ isT "tuple" "NoneType" = false ∧ isT "tuple" "bool" = false ∧ isT "tuple" "int" = false ∧ isT "tuple" "str" = false ∧ isT "tuple" "list" = false ∧ isT "tuple" "tuple" = true ∧ isT "tuple" "dict" = false ∧ isT "dict" "NoneType" = false ∧ isT "dict" "bool" = false ∧ isT "dict" "int" = false ∧ isT "dict" "str" = false ∧ isT "dict" "list" = false ∧ isT "dict" "tuple" = false ∧ isT "dict" "dict" = true := by decide
theorem tyCs : tyNames.contains "NoneType" = true ∧ tyNames.contains "bool" = true ∧ tyNames.contains "int" = true ∧ tyNames.contains "str" = true ∧ tyNames.contains "list" = true ∧ tyNames.contains "tuple" = true ∧ tyNames.contains "dict" = true := by decide
theorem tyNs_none  : tyN .none = "NoneType" := rfl
theorem tyNs_bool (a : Bool) : tyN (.bool a) = "bool" := rfl
theorem tyNs_int (a : Int) : tyN (.int a) = "int" := rfl
theorem tyNs_str (a : Str) : tyN (.str a) = "str" := rfl
theorem tyNs_list (a : List D) : tyN (.list a) = "list" := rfl
theorem tyNs_tuple (a : List D) : tyN (.tuple a) = "tuple" := rfl
theorem tyNs_dict (a : List (D × D)) : tyN (.dict a) = "dict" := rfl
end Z
namespace Z
open PySem L2
/-! ### the law's promise, and the end -/
theorem rp_ints {K : PySem.W.Frag} {G : Hp} : ∀ ns : List Int, RpAll K G (ns.map V.int) (ns.map PyData.int)
  | [] => .nil
  | i :: r => .cons (.int i) (rp_ints r)
end Z
namespace Z
open PySem L2
/-! ### what is given back may be a list of one's own -/
def liftR (B : Bk) (t : W B.T) : TE := fun σ H Q => ∃ G F env τ Qd, StR B G F σ H env τ ∧ t env τ Qd ∧
  ∀ r τ' G' F' H' v, Fin B B.G B.F B.H τ' G' F' H' → Res B.K B.H G' F' H' r v → Qd r τ' → Q v H'
def kOw {T : Type} (Q : SV → T → Prop) (τ : T) : Option SV → Prop
  | some (.d x) => Q (.d x) τ
  | some (.ol xs) => Q (.ol xs) τ
  | some (.raw v) => Q (.raw v) τ
  | _ => False
def dOwn {T : Type} (i : Nat) : W T := fun env τ Q => kOw Q τ env[i]?
section
variable {X : Cx} {B : Bk} {a b c e : Expr} {pos : Pos} {ta tb te : W B.T} {tA : WT B.T} {i : Nat}
theorem dr_own (h : PE X e (tVar i)) : PE X e (liftR B (dOwn i)) := by
  refine pe_imp h fun σ H Q z9 => ex53 z9 fun G F env τ Qd s t k => ?_
  have t : kOw Qd τ env[i]? := t
  cases q : env[i]? with
  | none => rw [q] at t; exact False.elim t
  | some sv =>
    rw [q] at t
    have r := s.e.at' i sv q
    have up : ∀ {v : V}, σ[i]?.join = some v → σ[i]? = some (some v) := fun {v} e1 => by
      cases z : σ[i]? with
      | none => rw [z] at e1; cases e1
      | some o => rw [z] at e1; exact congrArg some e1
    cases sv with
    | no => exact False.elim t
    | vw _ => exact False.elim t
    | d x =>
      obtain ⟨v, e1, r⟩ := r
      exact ⟨v, up e1, k (.d x) _ _ _ _ _ s.out r t⟩
    | ol xs =>
      obtain ⟨p, e1, w⟩ := r
      exact ⟨_, up e1, k (.ol xs) _ _ _ _ _ s.out ⟨p, rfl, w⟩ t⟩
    | raw v => exact ⟨v, up r, k (.raw v) _ _ _ _ _ s.out rfl t⟩
theorem ds_retR (he : PE X e (liftR B te)) : PS X (.Return (some e) pos) (liftS B (dRet te)) :=
  ps_imp (ps_ret he) fun D σ H z9 => ex53 z9 fun G F env τ Dd s h E => ⟨G, F, env, τ, _, s, h, fun r τ1 G1 F1 H1 v f1 r1 ⟨_, q⟩ => E.rt r τ1 G1 F1 H1 v f1 r1 q⟩
end
/-! ### more of own lists -/
theorem RpAll.setA {K : PySem.W.Frag} {G : Hp} : ∀ {vs : List V} {xs : List D} (_ : RpAll K G vs xs) (j : Nat) {v : V} {x : D}, Rp K G v x → RpAll K G (vs.set j v) (xs.set j x)
  | _, _, .nil, _, _, _, _ => .nil
  | _, _, .cons _ t, 0, _, _, r => .cons r t
  | _, _, .cons h t, j + 1, _, _, r => .cons h (t.setA j r)
section
variable {X : Cx} {B : Bk} {pos : Pos} {te ti : W B.T} {i : Nat}
/-- x.extend(e), e a new list -/
def dExt {T : Type} (i : Nat) (te : W T) : WS T := fun D env τ => match env[i]? with
  | some (.ol xs) => te env τ fun r τ1 => ∃ zs, r = .ol zs ∧ xs.length + zs.length ≤ sizeLine ∧ D.nx (env.set i (.ol (xs ++ zs))) τ1
  | _ => False
theorem RpAll.app {K : PySem.W.Frag} {G : Hp} : ∀ {vs : List V} {xs : List D} {ws : List V} {ys : List D}, RpAll K G vs xs → RpAll K G ws ys → RpAll K G (vs ++ ws) (xs ++ ys)
  | _, _, _, _, .nil, r => r
  | _, _, _, _, .cons h t, r => .cons h (t.app r)
/-- x[k] = e -/
def dSetI {T : Type} (i : Nat) (te ti : W T) : WS T := fun D env τ => match env[i]? with
  | some (.ol xs) => te env τ fun r τ1 => opt r.dat? fun y => ti env τ1 fun z τ2 => ∃ k, z = .d (.int k) ∧ opt (ixN xs.length k) fun j => D.nx (env.set i (.ol (xs.set j y))) τ2
  | _ => False
theorem ds_seti {st : Stmt} (h : PS X st (tAsg (lift B te) (gSub (tVar i) (lift B ti) rSetL))) : PS X st (liftS B (dSetI i te ti)) :=
  ps_imp h fun D σ H z9 => ex53 z9 fun G F env τ Dd s z E => by
    unfold dSetI at z
    split at z
    · rename_i xs ee
      obtain ⟨p, e1, w⟩ := at_slot s ee
      refine ⟨G, F, env, τ, _, s, z, fun r τ1 G1 F1 H1 v f1 r1 q => ?_⟩
      obtain ⟨y, ey, q⟩ := opt_of q
      obtain ⟨G2, f2, sm, r2⟩ := r1.dat f1 ey
      have s2 := s.fin f2
      refine ⟨_, e1, G2, F1, env, τ1, _, s2, q, fun z τ3 G3 F3 H3 iv f3 r3 ⟨k, ez, q3⟩ => ?_⟩
      subst ez
      obtain ⟨j, ej, q3⟩ := opt_of q3
      have f23 := f2.trans f3
      have s3 := s.fin f23
      obtain ⟨vs3, e3, a3⟩ := (w.step f23.s).at'
      have r4 : Rp B.K G3 v y := Rp.mono f3.s.g r2
      have s4 := s3.mut ee (by rw [e1]; rfl) (a3.setA j r4)
      exact ⟨p, vs3, k, j, rfl, rint r3, e3, by rw [a3.length]; exact ej, E.nx G3 F3 σ _ _ τ3 f23.s.g s4 q3⟩
    · exact z.elim
end
/-! ### many times a list, a tuple -/
theorem RpAll.flat {K : PySem.W.Frag} {G : Hp} {vs : List V} {xs : List D} (a : RpAll K G vs xs) : ∀ n : Nat, RpAll K G (List.replicate n vs).flatten (List.replicate n xs).flatten
  | 0 => .nil
  | n + 1 => by
    rw [List.replicate_succ, List.replicate_succ, List.flatten_cons, List.flatten_cons]
    exact a.app (a.flat n)
def gMulL (x y : SV) (Q : SV → Prop) : Prop := ∃ xs k, (x = .ol xs ∨ x = .vw xs) ∧ y = .d (.int k) ∧ (-(2 ^ 63) ≤ k ∧ k < 2 ^ 63) ∧ xs.length * k.toNat ≤ sizeLine ∧ Q (.ol (List.replicate k.toNat xs).flatten)
def gMulT (x y : SV) (Q : SV → Prop) : Prop := ∃ xs k, x = .d (.tuple xs) ∧ y = .d (.int k) ∧ xs ≠ [] ∧ (2 ≤ k ∧ k ≤ 1000) ∧ xs.length ≤ 1000 ∧ Q (.d (.tuple (List.replicate k.toNat xs).flatten))
section
variable {X : Cx} {B : Bk}
theorem od_mulL : OpD B rRep gMulL := fun x y vx vy Ha Hb G F H τ Qv Q k rx ry h fin => by
  obtain ⟨xs, n, ex, ey, hn, hz, h⟩ := h
  subst ey
  have go : ∀ p vs, vx = .ref p → H p = some (.lst vs) → RpAll B.K G vs xs → rRep vx vy H Q := fun p vs e1 e2 a => by
    refine ⟨p, n, vs, e1, rint ry, e2, hn.1, hn.2, by rw [a.length]; exact hz, fun p' hp => fin.ol k hp (a.flat _) h⟩
  rcases ex with rfl | rfl
  · obtain ⟨p, e1, w⟩ := rx
    obtain ⟨vs, e2, a⟩ := w.at'
    exact go p vs e1 e2 a
  · obtain ⟨p, vs, e1, e2, a, _⟩ := rx
    exact go p vs e1 e2 a
theorem od_mulT (hK : X.K = B.K) : OpD B (rRepT X.K) gMulT := fun x y vx vy Ha Hb G F H τ Qv Q k rx ry h fin => by
  obtain ⟨xs, n, ex, ey, hne, hn, hz, h⟩ := h
  subst ex ey
  rw [hK]
  obtain ⟨p, vs, e1, hs, a⟩ := rtup rx
  have hl := a.length
  refine ⟨p, n, vs, e1, rint ry, same_seqT k.same hs, fun z => hne ?_, hn.1, hn.2, by omega, fun p' hp => fin.tup k hp (a.flat _) h⟩
  subst z
  exact List.length_eq_zero_iff.mp hl.symm
def gMulA (x y : SV) (Q : SV → Prop) : Prop := gMul x y Q ∨ gMulL x y Q ∨ gMulT x y Q
theorem op_mulB : OpR X (binaryOp .Mult) (fun x y H Q => ((rI CMul fun i j => .int (i * j)) x y H Q ∨ rMulS x y H Q) ∨ rRep x y H Q ∨ rRepT X.K x y H Q) := op_mulA.or (op_rep.or op_repT)
theorem od_mulB (hK : X.K = B.K) : OpD B (fun x y H Q => ((rI CMul fun i j => .int (i * j)) x y H Q ∨ rMulS x y H Q) ∨ rRep x y H Q ∨ rRepT X.K x y H Q) gMulA := od_mul.or (od_mulL.or (od_mulT hK))
end
/-! ### enumerate, zip -/
def enumD (xs : List D) : List D := xs.zipIdx.map fun p => .tuple [.int (p.2 : Nat), p.1]
def zipD (xs ys : List D) : List D := (xs.zip ys).map fun p => .tuple [p.1, p.2]
section
variable {X : Cx} {B : Bk} {tg : Expr} {pos : Pos}
def dEnum {T : Type} (ta : WA T) : WI T := fun env τ Q => ta env τ fun rs τ1 => ∃ xs, rs = [.d (.list xs)] ∧ Q (enumD xs) τ1
def dZip {T : Type} (ta : WA T) : WI T := fun env τ Q => ta env τ fun rs τ1 => ∃ xs ys, (rs = [.d (.list xs), .d (.list ys)] ∨ rs = [.d (.tuple xs), .d (.tuple ys)]) ∧ Q (zipD xs ys) τ1
end
/-! ### the readings, by named continuations -/
section
variable {T : Type}
theorem dOwn_k (i : Nat) (env : List SV) (τ : T) (Q : SV → T → Prop) : dOwn i env τ Q = kOw Q τ env[i]? := rfl
theorem kOw_1 {Q : SV → T → Prop} {τ : T} {x : D} : kOw Q τ (some (.d x)) = Q (.d x) τ := rfl
theorem kOw_2 {Q : SV → T → Prop} {τ : T} {x : List D} : kOw Q τ (some (.ol x)) = Q (.ol x) τ := rfl
theorem kOw_3 {Q : SV → T → Prop} {τ : T} {x : V} : kOw Q τ (some (.raw x)) = Q (.raw x) τ := rfl
def kEx (i : Nat) (D : DEnds T) (env : List SV) (xs : List Z.D) (r : SV) (τ : T) : Prop := match r with
  | .ol zs => xs.length + zs.length ≤ sizeLine ∧ D.nx (env.set i (.ol (xs ++ zs))) τ
  | _ => False
theorem kEx_1 {i : Nat} {D : DEnds T} {env : List SV} {xs zs : List Z.D} {τ : T} : kEx i D env xs (.ol zs) τ = (xs.length + zs.length ≤ sizeLine ∧ D.nx (env.set i (.ol (xs ++ zs))) τ) := rfl
def kExt (i : Nat) (te : W T) (D : DEnds T) (env : List SV) (τ : T) : Option SV → Prop
  | some (.ol xs) => te env τ (kEx i D env xs)
  | _ => False
theorem kExt_1 {i : Nat} {te : W T} {D : DEnds T} {env : List SV} {τ : T} {xs : List Z.D} : kExt i te D env τ (some (.ol xs)) = te env τ (kEx i D env xs) := rfl
theorem dExt_k (i : Nat) (te : W T) (D : DEnds T) (env : List SV) (τ : T) : dExt i te D env τ = kExt i te D env τ env[i]? := by
  unfold dExt
  generalize env[i]? = o
  match o with
  | some (.ol xs) =>
    show te env τ _ = te env τ _
    congr 1
    funext r τ1
    cases r <;> simp [kEx]
  | some (.d _) => rfl
  | some (.vw _) => rfl
  | some (.raw _) => rfl
  | some .no => rfl
  | none => rfl
def kSI4 (i : Nat) (D : DEnds T) (env : List SV) (xs : List Z.D) (y : Z.D) (τ : T) : Option Nat → Prop
  | some j => D.nx (env.set i (.ol (xs.set j y))) τ
  | none => False
theorem kSI4_1 {i : Nat} {D : DEnds T} {env : List SV} {xs : List Z.D} {y : Z.D} {τ : T} {j : Nat} : kSI4 i D env xs y τ (some j) = D.nx (env.set i (.ol (xs.set j y))) τ := rfl
def kSI3 (i : Nat) (D : DEnds T) (env : List SV) (xs : List Z.D) (y : Z.D) (z : SV) (τ : T) : Prop := match z with
  | .d (.int k) => kSI4 i D env xs y τ (ixN xs.length k)
  | _ => False
theorem kSI3_1 {i : Nat} {D : DEnds T} {env : List SV} {xs : List Z.D} {y : Z.D} {k : Int} {τ : T} : kSI3 i D env xs y (.d (.int k)) τ = kSI4 i D env xs y τ (ixN xs.length k) := rfl
def kSI2 (i : Nat) (ti : W T) (D : DEnds T) (env : List SV) (xs : List Z.D) (τ : T) : Option Z.D → Prop
  | some y => ti env τ (kSI3 i D env xs y)
  | none => False
theorem kSI2_1 {i : Nat} {ti : W T} {D : DEnds T} {env : List SV} {xs : List Z.D} {τ : T} {y : Z.D} : kSI2 i ti D env xs τ (some y) = ti env τ (kSI3 i D env xs y) := rfl
def kSI1 (i : Nat) (ti : W T) (D : DEnds T) (env : List SV) (xs : List Z.D) (r : SV) (τ : T) : Prop := kSI2 i ti D env xs τ r.dat?
def kSetI (i : Nat) (te ti : W T) (D : DEnds T) (env : List SV) (τ : T) : Option SV → Prop
  | some (.ol xs) => te env τ (kSI1 i ti D env xs)
  | _ => False
theorem kSetI_1 {i : Nat} {te ti : W T} {D : DEnds T} {env : List SV} {τ : T} {xs : List Z.D} : kSetI i te ti D env τ (some (.ol xs)) = te env τ (kSI1 i ti D env xs) := rfl
theorem dSetI_k (i : Nat) (te ti : W T) (D : DEnds T) (env : List SV) (τ : T) : dSetI i te ti D env τ = kSetI i te ti D env τ env[i]? := by
  unfold dSetI
  generalize env[i]? = o
  match o with
  | some (.ol xs) =>
    show te env τ _ = te env τ (kSI1 i ti D env xs)
    congr 1
    funext r τ1
    refine opt_e (k := kSI2 i ti D env xs τ1) (fun y => ?_) rfl
    show ti env τ1 _ = ti env τ1 (kSI3 i D env xs y)
    congr 1
    funext z τ2
    match z with
    | .d (.int k) =>
      refine propext ⟨?_, fun h => ⟨k, rfl, ?_⟩⟩
      · rintro ⟨k', e, h⟩
        cases e
        obtain ⟨j, ej, h⟩ := opt_of h
        show kSI4 i D env xs y τ2 (ixN xs.length k)
        rw [ej]
        exact h
      · have h : kSI4 i D env xs y τ2 (ixN xs.length k) := h
        cases e : ixN xs.length k with
        | none => rw [e] at h; exact h.elim
        | some j => rw [e] at h; exact h
    | .d .none => exact propext ⟨fun ⟨_, e, _⟩ => (nomatch e), fun h => h.elim⟩
    | .d (.bool _) => exact propext ⟨fun ⟨_, e, _⟩ => (nomatch e), fun h => h.elim⟩
    | .d (.str _) => exact propext ⟨fun ⟨_, e, _⟩ => (nomatch e), fun h => h.elim⟩
    | .d (.list _) => exact propext ⟨fun ⟨_, e, _⟩ => (nomatch e), fun h => h.elim⟩
    | .d (.tuple _) => exact propext ⟨fun ⟨_, e, _⟩ => (nomatch e), fun h => h.elim⟩
    | .d (.dict _) => exact propext ⟨fun ⟨_, e, _⟩ => (nomatch e), fun h => h.elim⟩
    | .vw _ => exact propext ⟨fun ⟨_, e, _⟩ => (nomatch e), fun h => h.elim⟩
    | .ol _ => exact propext ⟨fun ⟨_, e, _⟩ => (nomatch e), fun h => h.elim⟩
    | .raw _ => exact propext ⟨fun ⟨_, e, _⟩ => (nomatch e), fun h => h.elim⟩
    | .no => exact propext ⟨fun ⟨_, e, _⟩ => (nomatch e), fun h => h.elim⟩
  | some (.d _) => rfl
  | some (.vw _) => rfl
  | some (.raw _) => rfl
  | some .no => rfl
  | none => rfl
def kEn (Q : List D → T → Prop) (rs : List SV) (τ : T) : Prop := ∃ xs, rs = [.d (.list xs)] ∧ Q (enumD xs) τ
theorem kEn_k {Q : List D → T → Prop} {xs : List D} {τ : T} : kEn Q [.d (.list xs)] τ = Q (enumD xs) τ := by simp [kEn]
theorem dEnum_k (ta : WA T) (env : List SV) (τ : T) (Q : List D → T → Prop) : dEnum ta env τ Q = ta env τ (kEn Q) := rfl
def kZp (Q : List D → T → Prop) (rs : List SV) (τ : T) : Prop := ∃ xs ys, (rs = [.d (.list xs), .d (.list ys)] ∨ rs = [.d (.tuple xs), .d (.tuple ys)]) ∧ Q (zipD xs ys) τ
theorem kZp_l {Q : List D → T → Prop} {xs ys : List D} {τ : T} : kZp Q [.d (.list xs), .d (.list ys)] τ = Q (zipD xs ys) τ := propext ⟨fun ⟨a, b, e, h⟩ => by
  rcases e with e | e <;> cases e
  exact h, fun h => ⟨_, _, .inl rfl, h⟩⟩
theorem kZp_u {Q : List D → T → Prop} {xs ys : List D} {τ : T} : kZp Q [.d (.tuple xs), .d (.tuple ys)] τ = Q (zipD xs ys) τ := propext ⟨fun ⟨a, b, e, h⟩ => by
  rcases e with e | e <;> cases e
  exact h, fun h => ⟨_, _, .inr rfl, h⟩⟩
theorem dZip_k (ta : WA T) (env : List SV) (τ : T) (Q : List D → T → Prop) : dZip ta env τ Q = ta env τ (kZp Q) := rfl
end
theorem gMulA_i {i j : Int} {Q : SV → Prop} : gMulA (.d (.int i)) (.d (.int j)) Q = (CMul i j ∧ Q (.d (.int (i * j)))) := by
  unfold gMulA gMulL gMulT
  rw [gMul_i]
  simp
theorem gMulA_s {i : Str} {j : Int} {Q : SV → Prop} : gMulA (.d (.str i)) (.d (.int j)) Q = ((2 ≤ j ∧ j ≤ 100000 ∧ 0 < i.length ∧ i.length ≤ 100) ∧ (strRep i j.toNat).length ≤ sizeLine ∧ Q (.d (.str (strRep i j.toNat)))) := by
  unfold gMulA gMulL gMulT
  rw [gMul_s]
  simp
theorem gMulA_ol {i : List D} {j : Int} {Q : SV → Prop} (h : (-(2 ^ 63) ≤ j ∧ j < 2 ^ 63) ∧ i.length * j.toNat ≤ sizeLine ∧ Q (.ol (List.replicate j.toNat i).flatten)) : gMulA (.ol i) (.d (.int j)) Q := .inr (.inl ⟨i, j, .inl rfl, rfl, h.1, h.2.1, h.2.2⟩)
end Z
namespace Z
open PySem L2
/-! ### more of what is known -/
theorem gIn_sf {c : Nat} {z : Str} {Q : SV → Prop} : gIn false (.d (.str ⟨#[c]⟩)) (.d (.str z)) Q = Q (.d (.bool (decide (c ∈ z.cps.toList)))) := by
  refine propext ⟨?_, fun h => .inl ⟨c, z, rfl, rfl, h⟩⟩
  rintro (⟨c', z', e1, e2, h⟩ | ⟨a, xs, _, e2, _⟩)
  · cases e1
    cases e2
    exact h
  · cases e2
theorem gIn_st {c : Nat} {z : Str} {Q : SV → Prop} : gIn true (.d (.str ⟨#[c]⟩)) (.d (.str z)) Q = Q (.d (.bool (!decide (c ∈ z.cps.toList)))) := by
  refine propext ⟨?_, fun h => .inl ⟨c, z, rfl, rfl, h⟩⟩
  rintro (⟨c', z', e1, e2, h⟩ | ⟨a, xs, _, e2, _⟩)
  · cases e1
    cases e2
    exact h
  · cases e2
theorem gIn_tf {a : D} {xs : List D} {Q : SV → Prop} : gIn false (.d a) (.d (.tuple xs)) Q = (flatD a = true ∧ xs.all flatD = true ∧ Q (.d (.bool (xs.any fun y => PyData.eqv y a)))) := by
  refine propext ⟨?_, fun h => .inr ⟨a, xs, rfl, rfl, h.1, h.2.1, h.2.2⟩⟩
  rintro (⟨c', z', e1, e2, h⟩ | ⟨a', xs', e1, e2, h⟩)
  · cases e2
  · cases e1
    cases e2
    exact h
theorem gIn_tt {a : D} {xs : List D} {Q : SV → Prop} : gIn true (.d a) (.d (.tuple xs)) Q = (flatD a = true ∧ xs.all flatD = true ∧ Q (.d (.bool (!(xs.any fun y => PyData.eqv y a))))) := by
  refine propext ⟨?_, fun h => .inr ⟨a, xs, rfl, rfl, h.1, h.2.1, h.2.2⟩⟩
  rintro (⟨c', z', e1, e2, h⟩ | ⟨a', xs', e1, e2, h⟩)
  · cases e2
  · cases e1
    cases e2
    exact h
theorem flatD_none : flatD .none = true := rfl
theorem flatD_int (a : Int) : flatD (.int a) = true := rfl
theorem flatD_str (a : Str) : flatD (.str a) = true := rfl
theorem flatD_bool (a : Bool) : flatD (.bool a) = true := rfl
/-! ### lists of texts -/
end Z
namespace Z
open PySem L2 PySem.Spec PyProof.Rows
/-! ### defs that are run where nothing is being told (so repr may be asked) -/
structure RoomG (k : Nat) (A : Around) : Prop where
  r : Room k A
  g : A.guards = some []
theorem RoomG.mono {j k : Nat} {A : Around} (h : RoomG k A) (l : j ≤ k) : RoomG j A := ⟨h.r.mono l, h.g⟩
structure FnG (P : Program) (w : World) (K : PySem.W.Frag) (mg : Str → Option Value) (base : Heap) (k : Nat) (f : Addr) (fd : FuncData) (ps : List Str) (sp : Sp) : Prop where
  len : ∀ vs H Q E, sp vs H Q E → vs.length = ps.length
  run : ∀ (A : Around) (st : List Env) (s : Shared) (H : Hp) (as : Args) (us : List Value) (vs : List V) (Q : VK) (E : XK), RoomG k A → Env0 P w K mg base A st s H → BindsTo s fd as (ps.zip us) → Vals vs us → sp vs H Q E →
    codeAny (model P w) A (.call (.ref f) as) (CR CX0 st P w H s Q E) s
theorem fng_of {P : Program} {w : World} {K : PySem.W.Frag} {mg : Str → Option Value} {base : Heap} {x qual : Str} {st : Stmt} {f : Addr} {fd : FuncData} {N ps : List Str} {k : Nat} {sp : Sp} (F : Fun K x qual st f fd) (Sc : FnScope N ps (defScope st)) (len : ∀ vs H Q E, sp vs H Q E → vs.length = ps.length)
    (hb : ∀ (cd : Value) (A : Around) (ev : List Env) (s : Shared) (H : Hp) (vs : List V) (Q : VK) (E : XK), fd.code = cd → RoomG k (A.deeper (envOfC qual (defScope st) s.heap.objs.size f cd)) → sp vs H Q E →
      ∃ t, PSs (cxOf CX0 P w K mg base N qual (defScope st) f cd A ev s H E).nox (defBody st) t ∧ t { nx := fun _ H' => Q .non H', rt := Q } (L2.start N vs) H) : FnG P w K mg base (k + 1) f fd ps sp := by
  obtain ⟨oc, od, kV, doc, pm, an, cd, ct, osl, rfl, lk, hcd⟩ := F.ex
  refine ⟨len, fun A ev s H as us vs Q E rg z0 hbt rv hq => ?_⟩
  have lv := len _ _ _ _ hq
  have inK : K.In s.heap := z0.mod.kin.keeps fun b o e => (z0.bs b o e).1
  have noL : s.heap.NoLimit := z0.mod.nolimit.keeps fun b o e => (z0.bs b o e).1
  have kinds : ∀ y ∈ ps.zip us, (defScope st).names.lookup y.1 = some .local ∨ ((defScope st).names.lookup y.1 = some .cell ∧ ((cellsFrom (s.heap.objs.size + 1) (defScope st).names []).lookup y.1).isSome = true) := by
    rintro ⟨n, v⟩ hy
    rcases Sc.par n (List.of_mem_zip hy).1 with e | e
    · exact Or.inl e
    · exact Or.inr ⟨e, PySem.W.cellsFrom_some _ _ _ (Or.inl e)⟩
  refine codeAny_call_function rg.r.depth (inK _ _ lk) rfl Sc.co Sc.gen rfl (PySem.W.codeRec_of inK hcd) (hbt _ _ _ _ ?_)
  refine wpAny_newFunctionEnv_cells Sc.kind kinds fun env he s2 y => ?_
  subst he
  refine ⟨noL.keeps y.toInCall.keep, codeAny_func ?_⟩
  obtain ⟨t, ht, ht2⟩ := hb cd A ev s H vs Q E rfl ⟨rg.r.deeper _, rg.g⟩ hq
  have J0 : Inv (cxOf CX0 P w K mg base N qual (defScope st) f cd A ev s H E) [] (L2.start N vs) H s2 := inv_start Sc rg.r.hd z0 lv rv y
  refine wpAny_mono (ht.nox.run [] s2 (L2.start N vs) H _ J0 ht2) (fun fl s3 hs => ?_) fun e s3 hs => hs
  cases fl with
  | ret u =>
    obtain ⟨v, _, H', J, r2, q⟩ := hs
    exact ⟨v, H', J.os, J.bare, J.base, J.hok, r2, q⟩
  | next =>
    obtain ⟨_, H', J, q⟩ := hs
    exact ⟨V.non, H', J.os, J.bare, J.base, J.hok, rfl, q⟩
  | brk => exact hs.elim fun _ h => h.elim fun _ h => h.2.elim
  | cont => exact hs.elim fun _ h => h.elim fun _ h => h.2.elim
section
variable {X : Cx} {x : Str} {f : Addr} {fd : FuncData} {ps : List Str} {k : Nat} {sp : Sp} {e : Expr} {es : List Expr} {t : TA} {p pos : Pos}
theorem run_g {pins : List (Addr × Obj)} {σ : L2.St} {H : Hp} {s : Shared} {Q : VK} {us : List Value} {vs : List V} (F : FnG X.prog X.w X.K X.mg X.base k f fd ps sp) (hr : RoomG k X.A) (hb : Binds X.K fd ps [])
    (I : Inv X pins σ H s) (r : Vals vs us) (h : sp vs H Q E0) : wpAny (model X.prog X.w) X.A (call (.ref f) us) (EP X pins σ Q) X.xe s := by
  have lu : us.length = ps.length := by rw [← r.length]; exact F.len _ _ _ _ h
  have bd : BindsTo s fd ⟨us, []⟩ (ps.zip us) := by
    have := hb s us I.kIn (by rw [List.append_nil]; exact lu)
    rwa [List.append_nil] at this
  refine wpAny_call (codeAny_mono (F.run X.A X.stack s H ⟨us, []⟩ us vs Q E0 hr I.env0 bd r h) fun res s' hq => ?_)
  cases res with
  | error ex => exact pass0 pins σ H s ex s' I hq
  | ok fl =>
    cases fl with
    | ret u => exact I.after hq
    | next => exact hq.elim
    | brk => exact hq.elim
    | cont => exact hq.elim
theorem pe_callG (F : FnG X.prog X.w X.K X.mg X.base k f fd ps sp) (hr : RoomG k X.A) (hg : Gl X x) (hm : X.mg x = some (.ref f)) (hk : PySem.W.keepIn X.K (.ref f) = true) (hb : Binds X.K fd ps [])
    (ha : PA X (e :: es) t) (hdb : (x == ("__debug__" : Str)) = false := by decide) (hst : starEach (e :: es) X.env = (false, eval e X.env) :: starEach es X.env := by rfl) (hpl : (backTo pos (starEach es X.env)).any (·.1) = false := by rfl) :
    PE X (.Call (.Name x p) (e :: es) [] pos) (fun σ H Q => t σ H fun vs H1 => sp vs H1 Q E0) := by
  refine ⟨fun pins s σ H Q I h => ?_⟩
  refine wpAny_Call_Name_kw (ld_glob I hg hm ?_ hdb)
  exact PySem.W.callWith_K (h₀ := X.base) I.ok.mod.kin hk (thn (ha.run pos pins s σ H _ I h) fun us s1 ⟨vs, H1, I1, r, q⟩ => ⟨I1.kIn, run_g F hr hb I1 r q⟩) hst hpl
end
/-! ### repr of data -/
def gRepr (rs : List SV) (Q : SV → Prop) : Prop := match rs with
  | [x] => opt x.now? fun d => (d.canLay0 = true ∧ d.showable = true ∧ d.hasDict = false ∧ d.depth ≤ 64 ∧ d.shown.length ≤ sizeLine) ∧ Q (.d (.str d.shown))
  | _ => False
theorem RoomG.un {k : Nat} {A : Around} (h : RoomG k A) : A.units + 64 + 1 < cLine := by
  have := h.r.un
  omega
theorem RoomG.units {k : Nat} {A : Around} (h : RoomG k A) : A.units + 64 < cLine := by
  have := h.r.un
  omega
end Z
namespace Z
open PySem L2 PySem.Spec PyProof.Rows
structure KnownG (P : Program) (w : World) (K : PySem.W.Frag) (mg : Str → Option Value) (base : Heap) (S : Sto) (x : Str) (ps : List Str) (k : Nat) (FF : FW S.T) : Prop where
  ex : ∃ f fd, FnG P w K mg base k f fd ps (spD S K FF) ∧ mg x = some (.ref f) ∧ PySem.W.keepIn K (.ref f) = true ∧ Binds K fd ps []
section
variable {X : Cx} {B : Bk} {e : Expr} {es : List Expr} {pos p : Pos} {ta : WA B.T} {FF : FW B.S.T} {ps : List Str} {k : Nat} {x : Str}
theorem de_callG (hK : X.K = B.K) (h : KnownG X.prog X.w X.K X.mg X.base B.S x ps k FF) (hr : RoomG k X.A) (hg : Gl X x)
    (ha : PA X (e :: es) (liftA B ta)) (hdb : (x == ("__debug__" : Str)) = false := by decide) (hst : starEach (e :: es) X.env = (false, eval e X.env) :: starEach es X.env := by rfl) (hpl : (backTo pos (starEach es X.env)).any (·.1) = false := by rfl) :
    PE X (.Call (.Name x p) (e :: es) [] pos) (lift B (dCall FF ta)) := by
  obtain ⟨f, fd, F, hm, hk, hb⟩ := h.ex
  rw [hK] at F
  refine pe_imp (pe_callG (by rw [hK]; exact F) hr hg hm hk hb ha hdb hst hpl) fun σ H Q z9 => ex53 z9 fun G Fp env τ Qd s t fin => ⟨G, Fp, env, τ, _, s, t, fun rs τ1 G1 F1 H1 vs f1 r1 ⟨dr, q⟩ => ?_⟩
  exact ⟨G1, F1, τ1, rs, Qd, H, f1.k, r1, dr, q, fun r τ' G' F' H' v st ok res qd => fin r τ' G' F' H' v (f1.trans ⟨st, ok⟩) (res.back (dead f1.s.dom)) qd⟩
end
/-- a def that asks nothing of the kind -/
theorem FnG.of {P : Program} {w : World} {K : PySem.W.Frag} {mg : Str → Option Value} {base : Heap} {k : Nat} {f : Addr} {fd : FuncData} {ps : List Str} {sp : Sp} (F : FnOk P w K mg base CX0 k f fd ps sp) : FnG P w K mg base k f fd ps sp :=
  ⟨F.len, fun A st s H as us vs Q E rg => F.run A st s H as us vs Q E rg.r⟩
theorem KnownG.of {P : Program} {w : World} {K : PySem.W.Frag} {mg : Str → Option Value} {base : Heap} {S : Sto} {x : Str} {ps : List Str} {k : Nat} {FF : FW S.T} (h : Known P w K mg base S x ps k FF) : KnownG P w K mg base S x ps k FF :=
  let ⟨f, fd, F, hm, hk, hb⟩ := h.ex
  ⟨f, fd, .of F, hm, hk, hb⟩
end Z
namespace Z
open PySem L2
/-! ### more built-ins over lists -/
section
variable {X : Cx} {B : Bk}
def gTupC (rs : List SV) (Q : SV → Prop) : Prop := match rs with
  | [x] => opt x.seqd? fun xs => Q (.d (.tuple xs))
  | _ => False
def rTupC (K : PySem.W.Frag) : List V → Hp → VK → Prop := fun xs H Q => ∃ p ys, xs = [.ref p] ∧ ((SqL K H p ys ∧ ∀ l, H l = none → Q (.ref l) (upd H l (.tup ys))) ∨ (SqT K H p ys ∧ Q (.ref p) H))
theorem cd_tuple (hK : X.K = B.K) : CallD B (rTupC X.K) gTupC := fun rs vs Ha G F H τ Qv Q k r h fin => by
  unfold gTupC at h
  split at h
  · rename_i x
    obtain ⟨xs, ex, h⟩ := opt_of h
    obtain ⟨v, rfl, rx⟩ := r.one
    rw [hK]
    by_cases ht : x = .d (.tuple xs)
    · subst ht
      obtain ⟨p, ws, e1, hs, a⟩ := rtup rx
      exact ⟨p, ws, by rw [e1], .inr ⟨same_seqT k.same hs, by rw [← e1]; exact fin.d k rx h⟩⟩
    · have el : x.lst? = some xs := by
        cases x with
        | d y =>
          cases y with
          | list ys => cases ex; rfl
          | tuple ys => cases ex; exact absurd rfl ht
          | _ => cases ex
        | ol ys => cases ex; rfl
        | vw ys => cases ex; rfl
        | _ => cases ex
      obtain ⟨p, ws, e1, hs, a⟩ := rx.sql k.same el
      exact ⟨p, ws, by rw [e1], .inl ⟨hs.sql, fun l hl => fin.tup k hl a h⟩⟩
  · exact h.elim
def gLstC (rs : List SV) (Q : SV → Prop) : Prop := match rs with
  | [x] => opt x.seqd? fun xs => Q (.ol xs)
  | _ => False
end
/-! ### x.pop() -/
/-! ### calls without arguments, where repr may be asked -/
/-! ### the readings -/
def kSe (Q : SV → Prop) (f : List D → SV) : Option (List D) → Prop
  | some xs => Q (f xs)
  | none => False
theorem kSe_1 {Q : SV → Prop} {f : List D → SV} {xs : List D} : kSe Q f (some xs) = Q (f xs) := rfl
theorem gTupC_k (x : SV) (Q : SV → Prop) : gTupC [x] Q = kSe Q (fun xs => .d (.tuple xs)) x.seqd? := opt_e (fun _ => rfl) rfl
theorem gLstC_k (x : SV) (Q : SV → Prop) : gLstC [x] Q = kSe Q (fun xs => .ol xs) x.seqd? := opt_e (fun _ => rfl) rfl
end Z
namespace Z
open PySem L2
/-! ### x op= e, over ints -/
section
variable {T : Type}
def kAu (f : Int → Int → Int) (i : Nat) (D : DEnds T) (env : List SV) (a : Int) (r : SV) (τ : T) : Prop := ∃ b, r = .d (.int b) ∧ D.nx (env.set i (.d (.int (f a b)))) τ
theorem kAu_i {f : Int → Int → Int} {i : Nat} {D : DEnds T} {env : List SV} {a b : Int} {τ : T} : kAu f i D env a (.d (.int b)) τ = D.nx (env.set i (.d (.int (f a b)))) τ := by simp [kAu]
def kAug (f : Int → Int → Int) (i : Nat) (te : W T) (D : DEnds T) (env : List SV) (τ : T) : Option SV → Prop
  | some (.d (.int a)) => te env τ (kAu f i D env a)
  | _ => False
theorem kAug_1 {f : Int → Int → Int} {i : Nat} {te : W T} {D : DEnds T} {env : List SV} {τ : T} {a : Int} : kAug f i te D env τ (some (.d (.int a))) = te env τ (kAu f i D env a) := rfl
end
/-! ### range with a step -/
def rgC (lo c : Int) (n : Nat) : List D := (List.range n).map fun i => .int (lo + (i : Nat) * c)
theorem rgC_len (lo c : Int) (n : Nat) : (rgC lo c n).length = n := by
  unfold rgC
  rw [List.length_map, List.length_range]
theorem rgC_get {lo c : Int} {n i : Nat} {x : D} (h : (rgC lo c n)[i]? = some x) : i < n ∧ x = .int (lo + (i : Nat) * c) := by
  unfold rgC at h
  rw [List.getElem?_map] at h
  by_cases hi : i < n
  · rw [List.getElem?_range hi] at h
    exact ⟨hi, (Option.some.inj h).symm⟩
  · rw [List.getElem?_eq_none (by rw [List.length_range]; omega)] at h
    cases h
section
variable {X : Cx} {B : Bk} {tg : Expr} {pos : Pos}
theorem itr_c {G : Hp} {lo c : Int} {n : Nat} : ItR B (Itc lo c n) G (rgC lo c n) where
  go := fun G1 H1 F1 τ1 sm k i x e => by
    obtain ⟨hi, rfl⟩ := rgC_get e
    refine ⟨hi, fun w H2 ⟨e2, e3⟩ => ?_⟩
    subst e2 e3
    exact ⟨G1, .rfl' k, .int _⟩
  stop := fun G1 H1 F1 τ1 sm k i hi => by
    rw [rgC_len] at hi
    exact hi
def dRng3 {T : Type} (ta : WA T) : WI T := fun env τ Q => ta env τ fun rs τ1 => ∃ (i j c : Int) (n : Nat), rs = [.d (.int i), .d (.int j), .d (.int c)] ∧ RgC i j c n ∧ Q (rgC i c n) τ1
theorem di_range3 {a b c : Expr} {ta : WA B.T} {p : Pos} (hg : Gl X "range") (hm : X.mg "range" = none) (ha : PA X [a, b, c] (liftA B ta))
    (hs : starEach [a, b, c] X.env = (false, eval a X.env) :: starEach [b, c] X.env := by rfl) (hpl : (backTo pos (starEach [b, c] X.env)).any (·.1) = false := by rfl) :
    PI X tg (.Call (.Name "range" p) [a, b, c] [] pos) (liftI B (dRng3 ta)) :=
  pi_imp (pi_range3 hg hm ha hs hpl) fun σ H R z9 => ex53 z9 fun G F env τ Qd s t k => ⟨G, F, env, τ, _, s, t, fun rs τ1 G1 F1 H1 vs f1 r1 ⟨i, j, c, n, e, h, q⟩ => by
    subst e
    cases r1 with
    | cons r r' =>
      cases r' with
      | cons r2 r3 =>
        cases r3 with
        | cons r4 r5 =>
          cases r5
          exact ⟨i, j, c, n, by rw [rint r, rint r2, rint r4], h, k _ _ _ _ _ _ f1 itr_c q⟩⟩
end
section
variable {T : Type}
def kR3 (Q : List D → T → Prop) (rs : List SV) (τ : T) : Prop := ∃ (i j c : Int) (n : Nat), rs = [.d (.int i), .d (.int j), .d (.int c)] ∧ RgC i j c n ∧ Q (rgC i c n) τ
theorem dRng3_k (ta : WA T) (env : List SV) (τ : T) (Q : List D → T → Prop) : dRng3 ta env τ Q = ta env τ (kR3 Q) := rfl
theorem kR3_of {Q : List D → T → Prop} {i j c : Int} {n : Nat} {τ : T} (h : RgC i j c n) (q : Q (rgC i c n) τ) : kR3 Q [.d (.int i), .d (.int j), .d (.int c)] τ := ⟨i, j, c, n, rfl, h, q⟩
end
end Z
namespace Z
open PySem L2
/-! ### x.bit_length() -/
section
variable {X : Cx} {B : Bk} {o : Expr} {apos pos : Pos} {te : W B.T}
def gBits (x : SV) (Q : SV → Prop) : Prop := match x with
  | .d (.int i) => Q (.d (.int (Builtin.Int.intBits i : Nat)))
  | _ => False
theorem gBits_k {i : Int} {Q : SV → Prop} : gBits (.d (.int i)) Q = Q (.d (.int (Builtin.Int.intBits i : Nat))) := rfl
end
end Z
/-! ### an exception that was caught, kept as a value -/
/-! ### a lambda without parameters handed to a def: which things stay -/
namespace Z
open PySem PySem.Spec PyProof.Rows L2 LamX
/-- all but the table at P stays, and nothing but a code object at c comes beside -/
structure Mks (P : Addr) (H H' : Hp) : Prop where
  old : ∀ b o, H b = some o → b ≠ P → H' b = some o
  new : ∀ b o, H' b = some o → b = P ∨ H b = some o ∨ (H b = none ∧ ∃ q, o = CodeO b q)
end Z
namespace Z
open PySem L2
/-! ### the store: what is drawn by, cells (dicts, lists, instances), tables of code objects -/
inductive Cel where
  | dk (m : List (Key × D))
  | dt (m : List (List Key × D))
  | ls (xs : List D)
  | dv (kvs : List (Key × V))
  | ins (C dx : Addr) (fs : List (Str × SV))
  /-- a dict with tuples for keys, being walked -/
  | lk (od : Obj) (kvs : List (List Key × V))
def Cel.own : Cel → Addr → Prop
  | .ins _ dx _, p => p = dx
  | _, _ => False
structure T2 where
  dr : DrT
  cs : List (Addr × Cel)
def FvR (K : PySem.W.Frag) (G : Hp) (v : V) : SV → Prop
  | .d x => Rp K G v x
  | .raw u => v = u
  | _ => False
theorem FvR.mono {K : PySem.W.Frag} {G G' : Hp} (e : Same G G') {v : V} : ∀ {s : SV}, FvR K G v s → FvR K G' v s
  | .d _, h => Rp.mono e h
  | .raw _, h => h
  | .no, h => h.elim
  | .ol _, h => h.elim
  | .vw _, h => h.elim
def CelR (K : PySem.W.Frag) (G H : Hp) (p : Addr) : Cel → Prop
  | .dk m => ∃ kvs : List (Key × V), H p = some (.dK kvs) ∧ Paired (fun (x : Key × V) (y : Key × D) => x.1 = y.1 ∧ Rp K G x.2 y.2) kvs m
  | .dt m => ∃ kvs : List (List Key × V), H p = some (.dT kvs) ∧ Paired (fun (x : List Key × V) (y : List Key × D) => x.1 = y.1 ∧ Rp K G x.2 y.2) kvs m
  | .ls xs => ∃ vs, H p = some (.lst vs) ∧ RpAll K G vs xs
  | .dv kvs => H p = some (HO.dK kvs)
  | .lk od kvs => H p = some (HO.frz od (HO.dT kvs))
  | .ins C dx fs => ∃ fv : List (Str × V), H p = some (.ins C dx fv) ∧ H dx = some (.own p) ∧ Paired (fun (x : Str × V) (y : Str × SV) => x.1 = y.1 ∧ FvR K G x.2 y.2) fv fs
theorem CelR.mono {K : PySem.W.Frag} {G G' H H' : Hp} {p : Addr} (e : Same G G') : ∀ {c : Cel}, CelR K G H p c → H' p = H p → (∀ q, c.own q → H' q = H q) → CelR K G' H' p c
  | .dk _, ⟨kvs, h, r⟩, q, _ => ⟨kvs, by rw [q]; exact h, Paired.mapP r fun _ _ z => ⟨z.1, z.2.mono e⟩⟩
  | .dt _, ⟨kvs, h, r⟩, q, _ => ⟨kvs, by rw [q]; exact h, Paired.mapP r fun _ _ z => ⟨z.1, z.2.mono e⟩⟩
  | .ls _, ⟨vs, h, r⟩, q, _ => ⟨vs, by rw [q]; exact h, r.mono e⟩
  | .dv kvs, h, q, _ => by
    have h : H p = Option.some (HO.dK kvs) := h
    show H' p = Option.some (HO.dK kvs)
    rw [q]; exact h
  | .lk od kvs, h, q, _ => by
    have h : H p = Option.some (HO.frz od (HO.dT kvs)) := h
    show H' p = Option.some (HO.frz od (HO.dT kvs))
    rw [q]; exact h
  | .ins _ dx _, ⟨fv, h, h2, r⟩, q, q2 => ⟨fv, by rw [q]; exact h, by rw [q2 dx rfl]; exact h2, Paired.mapP r fun _ _ z => ⟨z.1, z.2.mono e⟩⟩
theorem CelR.some {K : PySem.W.Frag} {G H : Hp} {p : Addr} : ∀ {c : Cel}, CelR K G H p c → ∃ o, H p = some o ∧ (∀ ps, o ≠ .tbl ps) ∧ ∀ x, o ≠ .own x
  | .dk _, ⟨_, h, _⟩ => ⟨_, h, (fun _ z => by cases z), (fun _ z => by cases z)⟩
  | .dt _, ⟨_, h, _⟩ => ⟨_, h, (fun _ z => by cases z), (fun _ z => by cases z)⟩
  | .ls _, ⟨_, h, _⟩ => ⟨_, h, (fun _ z => by cases z), (fun _ z => by cases z)⟩
  | .dv kvs, h => ⟨HO.dK kvs, (id h : H p = Option.some (HO.dK kvs)), (fun _ z => by cases z), (fun _ z => by cases z)⟩
  | .lk od kvs, h => ⟨HO.frz od (HO.dT kvs), (id h : H p = Option.some (HO.frz od (HO.dT kvs))), (fun _ z => by cases z), (fun _ z => by cases z)⟩
  | .ins _ _ _, ⟨_, h, _⟩ => ⟨_, h, (fun _ z => by cases z), (fun _ z => by cases z)⟩
theorem CelR.own {K : PySem.W.Frag} {G H : Hp} {p q : Addr} : ∀ {c : Cel}, CelR K G H p c → c.own q → H q = .some (.own p)
  | .ins _ _ _, ⟨_, _, h, _⟩, e => by cases e; exact h
  | .dk _, _, e => e.elim
  | .dt _, _, e => e.elim
  | .ls _, _, e => e.elim
  | .dv _, _, e => e.elim
  | .lk _ _, _, e => e.elim
def drF : DrT → Addr → Prop
  | .off, _ => False
  | .on a _, p => p = a
def celF (cs : List (Addr × Cel)) (p : Addr) : Prop := ∃ e ∈ cs, e.1 = p ∨ e.2.own p
def tF (Ts : List (Addr × Str)) (t : T2) (p : Addr) : Prop := drF t.dr p ∨ celF t.cs p ∨ p ∈ Ts.map (·.1)
def drP (K : PySem.W.Frag) (cs : List (Addr × Cel)) (G H : Hp) : DrT → Prop
  | .off => True
  | .on a b => DrAt K G H a b ∧ ∀ e ∈ cs, e.1 ≠ a
def TbR (G H : Hp) (p : Addr × Str) : Prop := ∃ ps : Array Value, H p.1 = some (.tbl ps) ∧ TriplesOk ps.toList ∧ ∀ (pos : Pos) (cv : Value), codeAmong pos ps.toList = some cv → ∃ c, cv = .ref c ∧ G c = some (LamX.CodeO c p.2)
structure TR (Ts : List (Addr × Str)) (K : PySem.W.Frag) (t : T2) (G : Hp) (F : Addr → Prop) (H : Hp) : Prop where
  f : ∀ p, F p ↔ tF Ts t p
  dr : drP K t.cs G H t.dr
  cs : ∀ e ∈ t.cs, CelR K G H e.1 e.2
  nd : (t.cs.map (·.1)).Nodup
  tb : ∀ p ∈ Ts, TbR G H p
theorem DrAt.mono {K : PySem.W.Frag} {G G' H H' : Hp} {a : Addr} {b : Nat} (h : DrAt K G H a b) (e : Same G G') (q : H' a = H a) : DrAt K G' H' a b := by
  obtain ⟨c, cs, i, l, u, h1, h2, h3, h4⟩ := h
  exact ⟨c, cs, i, l, u, by rw [q]; exact h1, same_sqp e h2, h3, h4⟩
theorem DrAt.some {K : PySem.W.Frag} {G H : Hp} {a : Addr} {b : Nat} (h : DrAt K G H a b) : ∃ kvs, H a = some (.dK kvs) := by
  obtain ⟨c, cs, i, l, u, h1, h2, h3, h4⟩ := h
  exact ⟨_, h1⟩
theorem drP.mono {K : PySem.W.Frag} {cs : List (Addr × Cel)} {G G' H H' : Hp} (e : Same G G') : ∀ {d : DrT}, drP K cs G H d → (∀ p, drF d p → H' p = H p) → drP K cs G' H' d
  | .off, _, _ => trivial
  | .on a b, ⟨h, n⟩, q => ⟨h.mono e (q a rfl), n⟩
theorem TbR.mono {G G' H H' : Hp} {p : Addr × Str} (h : TbR G H p) (e : Same G G') (q : H' p.1 = H p.1) : TbR G' H' p := by
  obtain ⟨ps, h1, h2, h3⟩ := h
  exact ⟨ps, by rw [q]; exact h1, h2, fun pos cv hc => let ⟨c, a, b⟩ := h3 pos cv hc; ⟨c, a, e _ _ b⟩⟩
def theT (Ts : List (Addr × Str)) : Sto where
  T := T2
  tb := fun a => a ∈ Ts.map (·.1)
  R := fun K t G F H => TR Ts K t G F H
  st := fun {K t G G' F H H'} r sm e => by
    have e : ∀ a, tF Ts t a → H' a = H a := fun a h => e a ((r.f a).mpr h)
    refine ⟨r.f, r.dr.mono sm fun p h => e p (.inl h), fun x hx => (r.cs x hx).mono sm (e _ (.inr (.inl ⟨x, hx, .inl rfl⟩))) fun q hq => e q (.inr (.inl ⟨x, hx, .inr hq⟩)), r.nd, fun p hp => (r.tb p hp).mono sm (e _ (.inr (.inr (List.mem_map.mpr ⟨p, hp, rfl⟩))))⟩
/-! ### a def that knows of nothing but what is drawn by -/
def frm (FF : FW DrT) : FW T2 := fun rs τ Q => FF rs τ.dr fun r d => r.out = true ∧ Q r ⟨d, τ.cs⟩
section
variable {Ts : List (Addr × Str)} {K : PySem.W.Frag} {τ : T2} {G H : Hp} {F : Addr → Prop}
/-- no tuple is the store's -/
theorem Ok.notup {vs : List V} {a : Addr} (k : Ok (theT Ts) K τ G F H) (e : H a = some (.tup vs)) : ¬ F a := fun z => by
  have r : TR Ts K τ G F H := k.r
  rcases (r.f a).mp z with z | ⟨x, hx, q⟩ | z
  · have hd := r.dr
    cases q : τ.dr with
    | off => rw [q] at z; exact z
    | on b n =>
      rw [q] at z hd
      have z : a = b := z
      subst z
      obtain ⟨kvs, h⟩ := hd.1.some
      rw [e] at h
      cases h
  · have c := r.cs x hx
    rcases q with q | q
    · rw [← q] at e
      cases x2 : x.2 with
      | dk m => rw [x2] at c; obtain ⟨_, h, _⟩ := c; rw [e] at h; cases h
      | dt m => rw [x2] at c; obtain ⟨_, h, _⟩ := c; rw [e] at h; cases h
      | ls m => rw [x2] at c; obtain ⟨_, h, _⟩ := c; rw [e] at h; cases h
      | dv m =>
        rw [x2] at c
        have h : H x.1 = Option.some (HO.dK m) := c
        rw [e] at h
        cases h
      | lk od m =>
        rw [x2] at c
        have h : H x.1 = Option.some (HO.frz od (HO.dT m)) := c
        rw [e] at h
        cases h
      | ins _ _ m => rw [x2] at c; obtain ⟨_, h, _⟩ := c; rw [e] at h; cases h
    · have h := c.own q
      rw [e] at h
      cases h
  · obtain ⟨x, hx, q⟩ := List.mem_map.mp z
    obtain ⟨ps, h, _⟩ := r.tb x hx
    have q : x.1 = a := q
    rw [q, e] at h
    cases h
theorem Ok.fr (k : Ok (theT Ts) K τ G F H) : Ok (theS (Ts.map (·.1))) K τ.dr G (drF τ.dr) H := by
  have r : TR Ts K τ G F H := k.r
  refine ⟨k.same, fun a h => k.gf a ((r.f a).mpr (.inl h)), fun a h => k.fh a ((r.f a).mpr (.inl h)), ?_, k.nt, k.nx⟩
  show drR K τ.dr G (drF τ.dr) H
  have hd := r.dr
  cases e : τ.dr with
  | off => exact fun a h => h
  | on a b =>
    rw [e] at hd
    exact ⟨fun p => Iff.rfl, hd.1⟩
theorem Ok.unfr (k : Ok (theT Ts) K τ G F H) {d : DrT} {G' H' : Hp} {F0 : Addr → Prop} (st : Step G (drF τ.dr) H G' F0 H') (ok : Ok (theS (Ts.map (·.1))) K d G' F0 H') :
    Step G F H G' (tF Ts ⟨d, τ.cs⟩) H' ∧ Ok (theT Ts) K ⟨d, τ.cs⟩ G' (tF Ts ⟨d, τ.cs⟩) H' := by
  have r : TR Ts K τ G F H := k.r
  have eF : ∀ p, F0 p ↔ drF d p := by
    have h : drR K d G' F0 H' := ok.r
    cases d with
    | off => exact fun p => ⟨fun z => (h p z).elim, fun z => z.elim⟩
    | on a b => exact h.1
  have inF : ∀ p, celF τ.cs p ∨ p ∈ Ts.map (·.1) → F p := fun p h => (r.f p).mpr (.inr h)
  -- what stands in cells and tables is none of what is drawn by
  have noDr : ∀ p o, H p = some o → (∀ kvs, o ≠ .dK kvs) → ¬ drF τ.dr p := fun p o e n z => by
    have hd := r.dr
    cases q : τ.dr with
    | off => rw [q] at z; exact z
    | on a b =>
      rw [q] at z hd
      have z : p = a := z
      subst z
      obtain ⟨kvs, h⟩ := hd.1.some
      rw [e] at h
      exact n _ (Option.some.inj h)
  have cellNo : ∀ e ∈ τ.cs, ¬ drF τ.dr e.1 := fun e he z => by
    have hd := r.dr
    cases q : τ.dr with
    | off => rw [q] at z; exact z
    | on a b =>
      rw [q] at z hd
      exact hd.2 e he z
  have stay : ∀ p, ¬ drF τ.dr p → ∀ o, H p = some o → H' p = H p := fun p n o e => by rw [e]; exact st.h p o n e
  have cellS : ∀ e ∈ τ.cs, H' e.1 = H e.1 ∧ ∀ q, e.2.own q → H' q = H q := fun e he => by
    obtain ⟨o, h1, _⟩ := (r.cs e he).some
    refine ⟨stay _ (cellNo e he) o h1, fun q hq => ?_⟩
    have h2 := (r.cs e he).own hq
    exact stay q (noDr q _ h2 fun _ z => by cases z) _ h2
  have tabS : ∀ p ∈ Ts, H' p.1 = H p.1 := fun p hp => by
    obtain ⟨ps, h, _⟩ := r.tb p hp
    exact stay _ (noDr _ _ h fun _ z => by cases z) _ h
  refine ⟨⟨st.g, fun a o n e => st.h a o (fun z => n ((r.f a).mpr (.inl z))) e, fun a o e => (st.gn a o e).imp id fun z => z.imp id fun ⟨⟨vs, z⟩, _⟩ => ⟨⟨vs, z⟩, k.notup z⟩, fun a h => ?_, fun a h => ?_, st.dom⟩, ⟨ok.same, fun a h => ?_, fun a h => ?_, ⟨fun p => Iff.rfl, ?_, fun e he => (r.cs e he).mono st.g (cellS e he).1 (cellS e he).2, r.nd, fun p hp => (r.tb p hp).mono st.g (tabS p hp)⟩, ok.nt, ok.nx⟩⟩
  · rcases h with h | h
    · rcases st.fn a ((eF a).mpr h) with z | z
      · exact .inl ((r.f a).mpr (.inl z))
      · exact .inr z
    · exact .inl (inF a h)
  · rcases (r.f a).mp h with z | z
    · exact .inl ((eF a).mp (st.ff a z))
    · exact .inr z
  · rcases h with h | h
    · exact ok.gf a ((eF a).mpr h)
    · have hF := inF a h
      cases q : G' a with
      | none => rfl
      | some o =>
        rcases st.gn a o q with z | z
        · rw [k.gf a hF] at z; cases z
        · rcases z with z | ⟨⟨vs, z⟩, _⟩
          · exact absurd z (k.fh a hF)
          · exact (k.notup z hF).elim
  · rcases h with h | h
    · exact ok.fh a ((eF a).mpr h)
    · exact st.dom a (k.fh a (inF a h))
  · have h : drR K d G' F0 H' := ok.r
    cases d with
    | off => trivial
    | on a b =>
      refine ⟨h.2, fun e he z => ?_⟩
      rcases st.fn a ((h.1 a).mpr rfl) with y | y
      · exact cellNo e he (by rw [z]; exact y)
      · obtain ⟨o, h1, _⟩ := (r.cs e he).some
        rw [z, y] at h1
        cases h1
/-- the promise at the wider store -/
theorem spD_fr {FF : FW DrT} {vs : List V} {Q : VK} {E : XK} (h : spD (theT Ts) K (frm FF) vs H Q E) : spD (theS (Ts.map (·.1))) K FF vs H Q E := by
  obtain ⟨G, F, τ, rs, Qd, Ha, k, r, dr, hf, fin⟩ := h
  refine ⟨G, drF τ.dr, τ.dr, rs, fun r d => r.out = true ∧ Qd r ⟨d, τ.cs⟩, Ha, k.fr, ?_, dr, hf, fun r' d' G' F' H' v st ok res q => ?_⟩
  · clear hf fin
    induction r with
    | nil => exact .nil
    | @cons a as v vs h t ih =>
      have d2 : (a.dr && as.all SV.dr) = true := dr
      rw [Bool.and_eq_true] at d2
      refine .cons ?_ (ih d2.2)
      cases a with
      | d x => exact h
      | raw v => exact h
      | no => exact h.elim
      | ol _ => cases d2.1
      | vw _ => cases d2.1
  · obtain ⟨st2, ok2⟩ := k.unfr st ok
    obtain ⟨qo, q⟩ := q
    refine fin r' ⟨d', τ.cs⟩ G' _ H' v st2 ok2 ?_ q
    have r : TR Ts K τ G F H := k.r
    have eF : ∀ p, F' p → tF Ts ⟨d', τ.cs⟩ p := fun p hp => by
      have h : drR K d' G' F' H' := ok.r
      cases d' with
      | off => exact (h p hp).elim
      | on a b => exact .inl ((h.1 p).mp hp)
    cases r' with
    | no => exact res
    | d x => exact res
    | raw v => exact res
    | ol xs =>
      obtain ⟨p, e, w⟩ := res
      refine ⟨p, e, w.at', w.g, fun z => ?_, w.new⟩
      rcases st2.fn p z with y | y
      · exact k.fh p y w.new
      · rcases z with z | z | z
        · have h : drR K d' G' F' H' := ok.r
          refine w.f ?_
          cases d' with
          | off => exact z.elim
          | on a b => exact (h.1 p).mpr z
        · exact k.fh p ((r.f p).mpr (.inr (.inl z))) w.new
        · exact k.fh p ((r.f p).mpr (.inr (.inr z))) w.new
    | vw xs => cases qo
end
end Z
namespace Z
open PySem L2
/-! ### exceptions as data -/
/-- an exception of the class at C, without fields -/
def exD (C : Addr) : D := .dict [(.none, .int (C : Nat))]
/-- what flies, told as data -/
def XR (K : PySem.W.Frag) (G : Hp) (x : D) (cls : Value) (d : Option Addr) : Prop :=
  (∃ C : Addr, x = exD C ∧ cls = .ref C ∧ d = none) ∨
  ∃ (C dx : Addr) (ks : List Str) (vs : List V) (ds : List D), x = .dict ((.none, .int (C : Nat)) :: (ks.map PyData.str).zip ds) ∧ cls = .ref C ∧ d = some dx ∧ G dx = some (.xd (ks.zip vs)) ∧ RpAll K G vs ds
/-- a promise with a way out by an exception -/
abbrev FWX (T : Type) := List SV → T → (SV → T → Prop) → (D → T → Prop) → Prop
def spDX (S : Sto) (K : PySem.W.Frag) (FX : FWX S.T) : Sp := fun vs H Q E => ∃ G F τ rs Qd Ed Ha, Ok S K τ G F H ∧ ResAll K Ha G F H rs vs ∧ rs.all SV.dr = true ∧ FX rs τ Qd Ed ∧
  (∀ r τ' G' F' H' v, Step G F H G' F' H' → Ok S K τ' G' F' H' → Res K H G' F' H' r v → Qd r τ' → Q v H') ∧
  ∀ x τ' G' F' H' cls d, Step G F H G' F' H' → Ok S K τ' G' F' H' → XR K G' x cls d → Ed x τ' → E cls d H'
def dCallX {T : Type} (FX : FWX T) (Ed : D → T → Prop) (ta : WA T) : W T := fun env τ Q => ta env τ fun rs τ1 => rs.all SV.dr = true ∧ FX rs τ1 Q Ed
structure KnownX (P : Program) (w : World) (K : PySem.W.Frag) (mg : Str → Option Value) (base : Heap) (S : Sto) (x : Str) (ps : List Str) (k : Nat) (FX : FWX S.T) : Prop where
  ex : ∃ f fd, FnOk P w K mg base (L2.CX P w) k f fd ps (spDX S K FX) ∧ mg x = some (.ref f) ∧ PySem.W.keepIn K (.ref f) = true ∧ Binds K fd ps []
section
variable {X : Cx} {B : Bk} {e : Expr} {es : List Expr} {pos p : Pos} {ta : WA B.T} {FX : FWX B.S.T} {Ed : D → B.T → Prop} {E : XK} {ps : List Str} {k : Nat} {x : Str}
/-! raise -/
def dRaise {T : Type} (x : D) (Ed : D → T → Prop) : WS T := fun _ _ τ => Ed x τ
end
/-! ### isinstance of an exception -/
structure ExC (K : PySem.W.Frag) (D : Addr) : Prop where
  c : (PySem.W.clsIn K D).isSome = true
  hg : PySem.W.findIn K (.ref D) "__getattribute__" = some (some (.builtin "BaseException.__getattribute__"))
  hk : PySem.W.findIn K (.ref D) "__getattr__" = some none
  hs : PySem.W.subIn K (.ref D) (.type "BaseException") = some true
  ha : PySem.W.findIn K (.ref D) "__class__" = some (some (.builtin "object.__class__"))
  hn : PySem.W.specialIn K (.builtin "object.__class__") "__get__" = some (some (.builtin "getset_descriptor.__get__"))
  ht : PySem.W.takesIn K (.builtin "object.__class__") = some true
  hm : PySem.W.mroIn K D (.type "object") = some true
/-- the class of an exception's data -/
def exC? : D → Option Int
  | .dict ((.none, .int c) :: _) => some c
  | _ => none
section
variable {X : Cx} {B : Bk} {e : Expr} {cs : List Expr} {p q q2 pos : Pos} {te : W B.T} {us : List Value} {cv : List V} {kk : Nat}
/-- isinstance(e, C), isinstance(e, (C1, C2, ..)): classes of the program, or built-in ones -/
def dIsX {T : Type} (K : PySem.W.Frag) (us : List Value) (te : W T) : W T := fun env τ Q => te env τ fun r τ1 => ∃ (x : D) (C : Addr) (b : Bool), r = .d x ∧ exC? x = some (C : Nat) ∧ ExC K C ∧ PySem.W.kitAny K (.ref C) us = some b ∧ Q (.d (.bool b)) τ1
variable (hK : X.K = B.K) (hgi : Gl X "isinstance") (hmi : X.mg "isinstance" = none) (hvi : bootBuiltins "isinstance" = some (.builtin "isinstance"))
include hK hgi hmi hvi
end
end Z
namespace Z
open PySem PySem.Spec PyProof.Rows L2 LamX
/-! ### a lambda handed to a def that calls it and catches -/
/-- what a lambda does, by data -/
abbrev LD (T : Type) := T → (SV → T → Prop) → (D → T → Prop) → Prop
/-- a promise of a def that calls what it got -/
abbrev FC (T : Type) := LD T → T → (SV → T → Prop) → Prop
/-- what a lambda sees of its maker's slots -/
def capS : SV → SV
  | .ol _ => .no
  | s => s
def dLam {T : Type} (fc : FC T) (tb : (D → T → Prop) → W T) : W T := fun env τ Q => fc (fun τ' Q' Ed' => tb Ed' (env.map capS) τ' Q') τ Q
section
variable {Ts : List (Addr × Str)} {K : PySem.W.Frag} {τ : T2} {G H H1 : Hp} {F : Addr → Prop} {P : Addr} {q : Str}
/-- a lambda was made -/
theorem Ok.made (k : Ok (theT Ts) K τ G F H) (mk : Mks P H H1) (t1 : Tabs Ts H1) (hP : (P, q) ∈ Ts) : ∃ G1, Step G F H G1 F H1 ∧ Ok (theT Ts) K τ G1 F H1 := by
  classical
  have r : TR Ts K τ G F H := k.r
  have FP : F P := (r.f P).mpr (.inr (.inr (List.mem_map.mpr ⟨_, hP, rfl⟩)))
  have GP : G P = none := k.gf P FP
  obtain ⟨ps1, hP1, _⟩ := t1 _ hP
  have dom : ∀ a, H a ≠ none → H1 a ≠ none := fun a h => by
    cases e : H a with
    | none => exact absurd e h
    | some o =>
      by_cases q : a = P
      · rw [q, hP1]; exact fun z => by cases z
      · rw [mk.old a o e q]; exact fun z => by cases z
  have sm : Same G (fun b => if H b = none then H1 b else G b) := fun b o e => by
    have : H b ≠ none := fun z => by rw [k.same b o e] at z; cases z
    show (if H b = none then H1 b else G b) = some o
    rw [if_neg this]; exact e
  have keep : ∀ b o, H b = some o → (∀ ps, o ≠ .tbl ps) → H1 b = H b := fun b o e n => by
    rw [e]
    refine mk.old b o e fun z => ?_
    obtain ⟨ps, h, _⟩ := r.tb _ hP
    rw [z] at e
    exact n ps (Option.some.inj (e.symm.trans h))
  refine ⟨fun b => if H b = none then H1 b else G b, ⟨sm, fun a o n e => mk.old a o e fun z => n (by rw [z]; exact FP), fun a o e => ?_, fun a h => .inl h, fun a h => h, dom⟩, ⟨fun a o e => ?_, fun a h => ?_, fun a h => dom a (k.fh a h), ⟨r.f, ?_, fun e he => ?_, r.nd, fun p hp => ?_⟩, fun a ps e => ?_, fun a φ e => ?_⟩⟩
  · by_cases h : H a = none
    · exact .inr (.inl h)
    · have e : (if H a = none then H1 a else G a) = some o := e
      rw [if_neg h] at e
      exact .inl e
  · have e : (if H a = none then H1 a else G a) = some o := e
    by_cases h : H a = none
    · rw [if_pos h] at e; exact e
    · rw [if_neg h] at e
      exact mk.old a o (k.same a o e) fun z => by rw [z, GP] at e; cases e
  · show (if H a = none then H1 a else G a) = none
    rw [if_neg (k.fh a h)]
    exact k.gf a h
  · refine drP.mono sm r.dr fun p hp => ?_
    have hd := r.dr
    cases e : τ.dr with
    | off => rw [e] at hp; exact hp.elim
    | on a b =>
      rw [e] at hp hd
      have hp : p = a := hp
      subst hp
      obtain ⟨kvs, h⟩ := hd.1.some
      exact keep _ _ h fun _ z => by cases z
  · obtain ⟨o, h, n, _⟩ := (r.cs e he).some
    refine (r.cs e he).mono sm (keep _ o h n) fun q hq => ?_
    exact keep q _ ((r.cs e he).own hq) fun _ z => by cases z
  · obtain ⟨ps, h1, h2, h3⟩ := t1 p hp
    refine ⟨ps, h1, h2, fun pos cv hc => ?_⟩
    obtain ⟨c, e1, e2⟩ := h3 pos cv hc
    refine ⟨c, e1, ?_⟩
    show (if H c = none then H1 c else G c) = _
    by_cases h : H c = none
    · rw [if_pos h]; exact e2
    · rw [if_neg h]
      rcases mk.new c _ e2 with z | z | ⟨z, _⟩
      · rw [z, hP1] at e2; cases e2
      · exact k.nx c _ z
      · exact absurd z h
  · rcases mk.new a _ e with z | z | ⟨_, _, z⟩
    · rw [z]; exact List.mem_map.mpr ⟨_, hP, rfl⟩
    · exact k.nt a ps z
    · cases z
  · show (if H a = none then H1 a else G a) = some (.ext φ)
    by_cases h : H a = none
    · rw [if_pos h]; exact e
    · rw [if_neg h]
      rcases mk.new a _ e with z | z | ⟨z, _⟩
      · rw [z, hP1] at e; cases e
      · exact k.nx a φ z
      · exact absurd z h
end
end Z
namespace Z
open PySem PySem.Spec PyProof.Rows L2 LamX
/-! ### try: told = deed() / except C as n: kept = n -/
theorem XR.cls {K : PySem.W.Frag} {G : Hp} {x : D} {cls : Value} {d : Option Addr} {C : Addr} (h : XR K G x cls d) (e : exC? x = some (C : Nat)) : cls = .ref C := by
  rcases h with ⟨C', rfl, rfl, _⟩ | ⟨C', dx, ks, vs, ds, rfl, rfl, _⟩
  · have e := Option.some.inj e
    rw [Int.ofNat.inj e]
  · have e := Option.some.inj e
    rw [Int.ofNat.inj e]
end Z
namespace Z
open PySem PySem.Spec PyProof.Rows L2 LamX
/-! ### the end, with the tables of those defs that make lambdas -/
abbrev lamQ (x : Str) : Str := (x ++ ".<locals>.") ++ "<lambda>"
/-- a def's name, its code object, its table -/
abbrev TN := Str × Addr × Addr
abbrev tsOf (Tn : List TN) : List (Addr × Str) := Tn.map fun e => (e.2.2, lamQ e.1)
def FF_lawT : FW T2 := fun rs τ Q => ∃ ns : List Int, rs = [.d (.list (ns.map PyData.int))] ∧ ns.length ≤ 63 ∧ τ = ⟨.off, []⟩ ∧ ∀ τ', Q (.d (.bool true)) τ'
theorem law_startT {Tn : List TN} {K : PySem.W.Frag} {H : Hp} {a : Addr} {ns : List Int} (hl : ns.length ≤ 63) (h : SqP K H a (ns.map V.int)) (ht : ∀ p ∈ tsOf Tn, H p.1 = some (.tbl #[])) (hnt : ∀ b ps, H b = some (.tbl ps) → b ∈ (tsOf Tn).map (·.1)) (hnx : ∀ b φ, H b ≠ some (.ext φ)) :
    spD (theT (tsOf Tn)) K FF_lawT [.ref a] H (fun v _ => v = .bl true) fun _ _ _ => False := by
  classical
  have isT : ∀ b, b ∈ (tsOf Tn).map (·.1) → H b = some (.tbl #[]) := fun b hb => by
    obtain ⟨p, hp, e⟩ := List.mem_map.mp hb
    rw [← e]; exact ht p hp
  have sm : Same (fun b => if b ∈ (tsOf Tn).map (·.1) then none else H b) H := fun b o e => by
    have e : (if b ∈ (tsOf Tn).map (·.1) then none else H b) = some o := e
    by_cases h : b ∈ (tsOf Tn).map (·.1)
    · rw [if_pos h] at e; cases e
    · rw [if_neg h] at e; exact e
  have hS : SqP K (fun b => if b ∈ (tsOf Tn).map (·.1) then none else H b) a (ns.map V.int) := by
    have na : ∀ o, H a = some o → (∀ ps, o ≠ .tbl ps) → (if a ∈ (tsOf Tn).map (·.1) then none else H a) = some o := fun o e n => by
      rw [if_neg fun z => n _ (Option.some.inj (e.symm.trans (isT a z)))]; exact e
    rcases h with (h | ⟨o, h⟩) | h
    · exact .inl (.inl (na _ h fun _ z => by cases z))
    · exact .inl (.inr ⟨o, na _ h fun _ z => by cases z⟩)
    · exact .inr h
  refine ⟨_, fun b => b ∈ (tsOf Tn).map (·.1), ⟨.off, []⟩, [.d (.list (ns.map PyData.int))], fun r _ => r = .d (.bool true), H, ⟨sm, fun b hb => if_pos hb, (fun b hb => by rw [isT b hb]; exact fun z => by cases z), ⟨fun p => ⟨fun h => .inr (.inr h), fun h => ?_⟩, trivial, fun e he => (nomatch he), List.nodup_nil, fun p hp => ⟨#[], ht p hp, True.intro, fun pos cv hc => ?_⟩⟩, hnt, fun b φ e => absurd e (hnx b φ)⟩,
    .cons (.lst hS (rp_ints ns)) .nil, rfl, ⟨ns, rfl, hl, rfl, fun _ => rfl⟩, ?_⟩
  · rcases h with h | ⟨e, he, _⟩ | h
    · exact h.elim
    · exact nomatch he
    · exact h
  · have z : codeAmong pos [] = some cv := hc
    simp [codeAmong] at z
  · rintro r τ' G' F' H' v _ _ res rfl
    exact rbl res
section
variable {P : Program} {w : World} {K : PySem.W.Frag} {mg mb : Str → Option Value} {k : Nat} {fa a : Addr} {fd : FuncData} {x : Str} {sp : Sp} {s₁ : Shared} {vs : List Value} {ns : List Int} {Tn : List TN}
theorem law_gT (KX : K.In s₁.heap) (nsM : s₁.heap.Ns mainGlobals mg) (nsB : s₁.heap.Ns builtinsNs mb) (bb : ∀ x : Str, x ≠ "__name__" → mb x = bootBuiltins x) (lim : s₁.heap.NoLimit) (noG : s₁.gens = #[])
    (hT : ∀ e ∈ Tn, PySem.W.CodeHd s₁.heap e.2.1 e.2.2 ∧ s₁.heap.get? e.2.2 = some (PySem.W.tabObj #[])) (nT : ∀ e ∈ Tn, K.lookup e.2.2 = none)
    (hbm : ∃ (bm : Addr) (ob : Obj), mg "__builtins__" = some (.ref bm) ∧ bm ≠ builtinsNs ∧ s₁.heap.get? bm = some ob ∧ ob.cls = .type "module" ∧ ob.dict = some builtinsNs ∧ ob.data = .plain)
    (ha : s₁.heap.get? a = some { cls := .type "list", data := .seq vs.toArray }) (hi : IntsAre vs ns) (hl : ns.length ≤ sizeLine) (hr : Room k callerA)
    (F : ∀ base : Heap, K.In base → base.Ns mainGlobals mg → (∀ e ∈ Tn, TabB base mg e.2.1 e.2.2) → FnG P w K mg base k fa fd [x] sp) (bd : ∀ (s : Shared) (u : Value), BindsTo s fd ⟨[u], []⟩ [(x, u)])
    (start : ∀ H : Hp, SqP K H a (ns.map V.int) → (∀ p ∈ tsOf Tn, H p.1 = some (.tbl #[])) → (∀ b ps, H b = some (.tbl ps) → b ∈ (tsOf Tn).map (·.1)) → (∀ b φ, H b ≠ some (.ext φ)) → sp [.ref a] H (fun v _ => v = .bl true) fun _ _ _ => False) :
    codeAny (model P w) callerA (.call (.ref fa) ⟨[.ref a], []⟩) (fun r s' => r = .ok (.ret (.bool true)) ∧ OldK s₁.heap s'.heap ∧ s'.os = s₁.os ∧ AllBare s'.gens) s₁ := by
  classical
  have rv := vals_ints hi
  have lv := hi.length
  have hz : (ns.map V.int).length ≤ sizeLine := by rw [List.length_map]; exact hl
  let obj : Obj := { cls := .type "list", data := .seq vs.toArray }
  let tbs : List Addr := Tn.map fun e => e.2.2
  have etb : (tsOf Tn).map (·.1) = tbs := by show (Tn.map fun e => (e.2.2, lamQ e.1)).map (·.1) = _; rw [List.map_map]; rfl
  have atT : ∀ b, b ∈ tbs → s₁.heap.get? b = some (PySem.W.tabObj #[]) := fun b hb => by
    obtain ⟨e, he, q⟩ := List.mem_map.mp hb
    rw [← q]; exact (hT e he).2
  have aT : a ∉ tbs := fun z => by
    have q := atT a z
    rw [ha] at q
    have z2 : Data.seq vs.toArray _ = Data.fields #[] := congrArg Obj.data (Option.some.inj q)
    cases z2
  have main : ∀ H : Hp, SqP K H a (ns.map V.int) → (∀ b ∈ tbs, H b = some (.tbl #[])) → HOk P w H s₁.heap → (∀ b u, H b = some u → (b = a ∧ u = .frz obj (.lst (ns.map V.int)) ∧ K.lookup a = none) ∨ (b ∈ tbs ∧ u = .tbl #[])) →
      codeAny (model P w) callerA (.call (.ref fa) ⟨[.ref a], []⟩) (fun r s' => r = .ok (.ret (.bool true)) ∧ OldK s₁.heap s'.heap ∧ s'.os = s₁.os ∧ AllBare s'.gens) s₁ := by
    intro H hS hTb ok only
    -- what is neither the script nor a table is untracked
    have free : ∀ {b : Addr} {o : Obj}, s₁.heap.get? b = some o → o.data ≠ obj.data → o.data ≠ .fields #[] → H b = none := fun {b o} e n1 n2 => by
      cases q : H b with
      | none => rfl
      | some u =>
        rcases only b u q with ⟨z, _⟩ | ⟨z, _⟩
        · subst z
          rw [ha] at e
          exact (n1 (congrArg Obj.data (Option.some.inj e)).symm).elim
        · rw [atT b z] at e
          exact (n2 (congrArg Obj.data (Option.some.inj e)).symm).elim
    have stay : ∀ {b : Addr} {o : Obj}, s₁.heap.get? b = some o → H b = none → (hidT s₁.heap H).get? b = some o := fun e n => hidT_get e n
    have freeD : ∀ {b : Addr} {o : Obj} {es : Array DictEntry} {ep : Nat}, s₁.heap.get? b = some o → o.data = .dict es ep → H b = none := fun {b o es ep} e d =>
      free e (fun z => by rw [d] at z; cases z) fun z => by rw [d] at z; cases z
    have nsH : ∀ {b : Addr} {m : Str → Option Value}, s₁.heap.Ns b m → (hidT s₁.heap H).Ns b m := fun {b m} ⟨o, es, ep, e, d, r⟩ => ⟨o, es, ep, stay e (freeD e d), d, r⟩
    have inH : K.In (hidT s₁.heap H) := fun b o e => stay (KX b o e) (by
      cases q : H b with
      | none => rfl
      | some u =>
        rcases only b u q with ⟨z, _, n⟩ | ⟨z, _⟩
        · subst z
          rw [n] at e
          cases e
        · obtain ⟨t, ht, et⟩ := List.mem_map.mp z
          rw [← et, nT t ht] at e
          cases e)
    have md : Mod K mg (hidT s₁.heap H) := ⟨inH, nsH nsM, ⟨mb, nsH nsB, bb⟩, let ⟨mc, h1, h2⟩ := lim; ⟨mc, nsH h1, h2⟩⟩
    have tabB : ∀ e ∈ Tn, TabB (hidT s₁.heap H) mg e.2.1 e.2.2 := fun e he => by
      obtain ⟨hc, hp⟩ := hT e he
      refine ⟨?_, ?_, fun z => ?_⟩
      · obtain ⟨o, us, file, tf, flags, tg, inF, text, tt, e1, r1, r2, r3, r⟩ := hc
        refine ⟨o, us, file, tf, flags, tg, inF, text, tt, stay e1 (free e1 (fun z => ?_) fun z => ?_), r1, r2, r3, r⟩
        · rw [r2] at z; cases z
        · rw [r2] at z
          cases z
          simp at r3
      · obtain ⟨bm, ob, b1, b2, b3, b4, b5, b6⟩ := hbm
        refine ⟨bm, ob, b1, b2, fun q => ?_, fun q => ?_, stay b3 (free b3 (fun z => ?_) fun z => ?_), b4, b5, b6⟩
        · obtain ⟨o, es, ep, e2, d2, _⟩ := nsM
          rw [q, e2] at b3
          cases b3
          rw [d2] at b6
          cases b6
        · rw [q, hp] at b3
          cases b3
          cases b6
        · rw [b6] at z; cases z
        · rw [b6] at z; cases z
      · obtain ⟨o, es, ep, e2, d2, _⟩ := nsM
        rw [z, hp] at e2
        cases e2
        cases d2
    have z0 : Env0 P w K mg (hidT s₁.heap H) callerA [] s₁ H := ⟨rfl, md, fun b o e => of_hidT e, Nat.le_of_eq (hidT_size _ _), trivial, fun b hb => (nomatch hb), ok, .of_eq noG⟩
    have st := start H hS (fun p hp => hTb _ (by rw [← etb]; exact List.mem_map.mpr ⟨p, hp, rfl⟩)) (fun b ps e => by
      rcases only b _ e with ⟨_, z, _⟩ | ⟨z, _⟩
      · cases z
      · rw [etb]; exact z) (fun b φ e => by
      rcases only b _ e with ⟨_, z, _⟩ | ⟨_, z⟩ <;> cases z)
    refine codeAny_mono ((F _ inH (nsH nsM) tabB).run callerA [] s₁ H ⟨[.ref a], []⟩ [.ref a] [.ref a] _ _ ⟨hr, rfl⟩ z0 (bd s₁ (.ref a)) (.cons rfl .nil) st) fun r s2 h => ?_
    match r, h with
    | .error e, h => exact False.elim h
    | .ok .next, h => exact False.elim h
    | .ok .brk, h => exact False.elim h
    | .ok .cont, h => exact False.elim h
    | .ok (.ret u), ⟨v, H2, os, bare, un, ok2, rr, q⟩ =>
      have q : v = .bl true := q
      subst q
      have eu : u = Value.bool true := rr
      subst eu
      have key : ∀ b o, b ∉ tbs → s₁.heap.get? b = some o → s2.heap.get? b = some o := fun b o nb e => by
        cases q : H b with
        | none => exact un.keep b o e q (fun z => nomatch z) (fun z => nomatch z)
        | some u =>
          rcases only b u q with ⟨z, eu, _⟩ | ⟨z, _⟩
          · subst eu
            obtain ⟨e1, _⟩ := ok b _ q
            obtain ⟨e2, _⟩ := ok2 b _ (un.frzs b obj _ q)
            rw [e] at e1
            cases e1
            exact e2
          · exact (nb z).elim
      have grown : ∀ b ∈ tbs, ∃ more : Array Value, s2.heap.get? b = some (PySem.W.tabObj more) := fun b hb => by
        obtain ⟨more, z⟩ := un.tbls b #[] (hTb b hb)
        exact ⟨_, ok2 b _ z⟩
      refine ⟨rfl, ⟨fun b o e => ?_, fun b o e => ?_⟩, os, bare⟩
      · by_cases hb : b ∈ tbs
        · obtain ⟨t, ht, et⟩ := List.mem_map.mp hb
          obtain ⟨more, hm⟩ := grown b hb
          rw [atT b hb] at e
          cases e
          have hc := ((hT t ht).1.tab (hT t ht).2).isCodeTable
          rw [et] at hc
          exact .inr (.inl ⟨hc, rfl, #[], more, rfl, by rw [Array.empty_append]; exact hm⟩)
        · exact .inl (key b o hb e)
      · by_cases hb : b ∈ tbs
        · obtain ⟨more, hm⟩ := grown b hb
          exact ⟨_, hm⟩
        · exact ⟨o, key b o hb e⟩
  cases hk : K.lookup a with
  | some o =>
    have e := KX a o hk
    rw [ha] at e
    cases e
    refine main (fun b => if b ∈ tbs then some (.tbl #[]) else none) (.inr ⟨vs, hk, hz, rv⟩) (fun b hb => if_pos hb) (fun b u z => ?_) fun b u z => ?_
    · by_cases hb : b ∈ tbs
      · have z2 := (if_pos hb).symm.trans z
        cases z2
        exact atT b hb
      · have z2 := (if_neg hb).symm.trans z
        cases z2
    · by_cases hb : b ∈ tbs
      · have z2 := (if_pos hb).symm.trans z
        cases z2
        exact .inr ⟨hb, rfl⟩
      · have z2 := (if_neg hb).symm.trans z
        cases z2
  | none =>
    refine main (fun b => if b = a then some (.frz obj (.lst (ns.map V.int))) else if b ∈ tbs then some (.tbl #[]) else none) (.inl (.inr ⟨obj, if_pos rfl⟩)) (fun b hb => (if_neg fun z => aT (by rw [← z]; exact hb)).trans (if_pos hb)) (fun b u z => ?_) fun b u z => ?_
    · by_cases hb : b = a
      · have z2 := (if_pos hb).symm.trans z
        cases z2
        subst hb
        exact ⟨ha, hz, vs, _, rv, ha⟩
      · have z1 := (if_neg hb).symm.trans z
        by_cases hb2 : b ∈ tbs
        · have z2 := (if_pos hb2).symm.trans z1
          cases z2
          exact atT b hb2
        · have z2 := (if_neg hb2).symm.trans z1
          cases z2
    · by_cases hb : b = a
      · have z2 := (if_pos hb).symm.trans z
        cases z2
        exact .inl ⟨hb, rfl, hk⟩
      · have z1 := (if_neg hb).symm.trans z
        by_cases hb2 : b ∈ tbs
        · have z2 := (if_pos hb2).symm.trans z1
          cases z2
          exact .inr ⟨hb2, rfl⟩
        · have z2 := (if_neg hb2).symm.trans z1
          cases z2
end
/-- the table of the code object at c -/
def codeTab (K : PySem.W.Frag) (c : Addr) : Option Addr := match K.lookup c with
  | some ⟨_, _, .fields vs, _⟩ => (match (vs[11]? : Option Value) with
    | some (.ref P) => some P
    | _ => none)
  | _ => none
/-- what the top tells of a def that makes lambdas -/
structure TabK (K : PySem.W.Frag) (e : TN) : Prop where
  t : codeTab K e.2.1 = some e.2.2
  c : PySem.W.codeHdIn K e.2.1 e.2.2 = true
  n : K.lookup e.2.2 = none
theorem walk_ofT {l : PySem.W.OpenLaw} {k : Nat} {q : Program} {loose : List Str} {XP : (Str → Option Value) → Heap → Prop} {YP : World → Heap → Prop} {d : DefRec} {K : Params → PySem.W.Frag} {x : Str} {Tn : List TN}
    (hn : l.most = some 63) (hdf : d.params.defaults = []) (hr : Room k callerA)
    (hY : ∀ (w : World) (h : Heap), YP w h → (K w.params).In h) (hTn : ∀ (w : World), ∀ e ∈ Tn, TabK (K w.params) e) (hTab : ∀ (w : World) (h : Heap), YP w h → ∀ e ∈ Tn, h.get? e.2.2 = some (PySem.W.tabObj #[]))
    (F : ∀ (w : World) (mg : Str → Option Value) (fa : Addr) (h : Heap), (K w.params).In h → h.Ns mainGlobals mg → mg d.name = some (.ref fa) →
      ∃ fd : FuncData, (∀ (s : Shared) (u : Value), BindsTo s fd ⟨[u], []⟩ [(x, u)]) ∧
        ∀ base : Heap, (K w.params).In base → base.Ns mainGlobals mg → (∀ e ∈ Tn, TabB base mg e.2.1 e.2.2) → FnG l.prog w (K w.params) mg base k fa fd [x] (spD (theT (tsOf Tn)) (K w.params) FF_lawT))
    : PySem.W.WalkO q loose XP YP l.row.toRowW d [] (fun f vs => PySem.call f vs) := by
  refine Att.attach_call hn hdf fun w s₀ s₁ mg mb fa o pm cd doc a vs ns G Y ho hd hcd hmg hobj hints hlen hg => ?_
  have KX := hY w _ Y
  obtain ⟨fd, hb, hF⟩ := F w mg fa _ KX G.T.g hmg
  have h63 : 63 ≤ sizeLine := by rw [sizeLine_eq]; decide
  have hT : ∀ e ∈ Tn, PySem.W.CodeHd s₁.heap e.2.1 e.2.2 ∧ s₁.heap.get? e.2.2 = some (PySem.W.tabObj #[]) := fun e he => by
    exact ⟨PySem.W.codeHd_of_K KX (hTn w e he).c, hTab w _ Y e he⟩
  exact law_gT KX G.T.g G.T.b G.T.builtins G.T.nolimit hg hT (fun e he => (hTn w e he).n) G.T.bmain hobj hints (Nat.le_trans hlen h63) hr hF hb fun H hS h1 h2 h3 => law_startT hlen hS h1 h2 h3
end Z
namespace Z
open PySem PySem.Spec PyProof.Rows L2
/-! ### defs at the wider store -/
section
variable {P : Program} {w : World} {K : PySem.W.Frag} {mg : Str → Option Value} {base : Heap} {Ts : List (Addr × Str)}
/-- a def of the law (repr may be asked in it, lambdas made) -/
theorem okG {x qual : Str} {st : Stmt} {f : Addr} {fd : FuncData} {N ps : List Str} {k : Nat} {FF : FW T2} (F : Fun K x qual st f fd) (Sc : FnScope N ps (defScope st)) (len : ∀ rs τ Q, FF rs τ Q → rs.length = ps.length) (hl : ps.length ≤ N.length)
    (hbody : ∀ (cdv : Value) (A : Around) (outer : List Env) (s : Shared) (H : Hp) (E : XK) (G : Hp) (Fp : Addr → Prop), fd.code = cdv → RoomG k (A.deeper (PyProof.Rows.envOfC qual (defScope st) s.heap.objs.size f cdv)) →
      ∃ t : WS T2, PSs (cxOf CX0 P w K mg base N qual (defScope st) f cdv A outer s H E).nox (defBody st) (liftS ⟨theT Ts, K, G, Fp, H⟩ t) ∧ ∀ (rs : List SV) (τ : T2) (Qd : SV → T2 → Prop), FF rs τ Qd → t ⟨fun _ τ' => Qd (.d .none) τ', Qd, fun _ _ => False, fun _ _ => False⟩ (rs ++ List.replicate (N.length - rs.length) .no) τ) :
    FnG P w K mg base (k + 1) f fd ps (spD (theT Ts) K FF) := by
  refine fng_of F Sc (fun vs H Q E z9 => by obtain ⟨G, F, τ, rs, Qd, Ha, ok, r, dr, h, fin⟩ := z9; rw [← r.length]; exact len _ _ _ h) fun cdv A outer s H vs Q E hcd hr z9 => ?_
  obtain ⟨G, Fp, τ, rs, Qd, Ha, ok, r, dr, h, fin⟩ := z9
  obtain ⟨t, d, sem⟩ := hbody cdv A outer s H E G Fp hcd hr
  have hle : rs.length ≤ N.length := by rw [len _ _ _ h]; exact hl
  exact ⟨_, d, G, Fp, _, τ, _, ⟨Step.refl _ _ _, ok, env_start (B := ⟨theT Ts, K, G, Fp, H⟩) r dr hle⟩, sem rs τ Qd h,
    ⟨fun G' F' σ' H' env' τ' _ st q => fin (.d .none) τ' G' F' H' .non st.s st.k Rp.non q, fun r τ' G' F' H' v f res q => fin r τ' G' F' H' v f.s f.k res q, fun _ _ _ _ _ _ _ _ q => q.elim, fun _ _ _ _ _ _ _ _ q => q.elim⟩⟩
/-- a def of the program that lets nothing out -/
theorem okP {x qual : Str} {st : Stmt} {f : Addr} {fd : FuncData} {N ps : List Str} {k : Nat} {FF : FW T2} (F : Fun K x qual st f fd) (Sc : FnScope N ps (defScope st)) (len : ∀ rs τ Q, FF rs τ Q → rs.length = ps.length) (hl : ps.length ≤ N.length)
    (hbody : ∀ (cdv : Value) (A : Around) (outer : List Env) (s : Shared) (H : Hp) (E : XK) (G : Hp) (Fp : Addr → Prop), Room k (A.deeper (PyProof.Rows.envOfC qual (defScope st) s.heap.objs.size f cdv)) →
      ∃ t : WS T2, PSs (cxOf CX0 P w K mg base N qual (defScope st) f cdv A outer s H E).nox (defBody st) (liftS ⟨theT Ts, K, G, Fp, H⟩ t) ∧ ∀ (rs : List SV) (τ : T2) (Qd : SV → T2 → Prop), FF rs τ Qd → t ⟨fun _ τ' => Qd (.d .none) τ', Qd, fun _ _ => False, fun _ _ => False⟩ (rs ++ List.replicate (N.length - rs.length) .no) τ) :
    FnOk P w K mg base CX0 (k + 1) f fd ps (spD (theT Ts) K FF) := okD (S := theT Ts) F Sc len hl hbody
/-! what is drawn by, at the wider store -/
def FF_begin : FW T2 := fun rs τ Q => ∃ (ns : List Int) (cs : List (Addr × Cel)), rs = [.d (.list (ns.map PyData.int))] ∧ ns.length ≤ 63 ∧ τ = ⟨.off, cs⟩ ∧ ∀ a, Q (.raw (.ref a)) ⟨.on a 1152921504606846976, cs⟩
def FF_next : FW T2 := fun rs τ Q => ∃ (a : Addr) (b : Nat) (n : Int) (cs : List (Addr × Cel)), rs = [.raw (.ref a), .d (.int n)] ∧ τ = ⟨.on a (b + 1), cs⟩ ∧ (0 < n ∧ n < 1073741824) ∧ ∀ r : Int, 0 ≤ r → r < n → Q (.d (.int r)) ⟨.on a b, cs⟩
theorem imp_fr {CX : CXT} {k : Nat} {f : Addr} {fd : FuncData} {ps : List Str} {FF : FW DrT} {FT : FW T2} (F : FnOk P w K mg base CX k f fd ps (spD (theS (Ts.map (·.1))) K FF)) (h : ∀ rs τ Q, FT rs τ Q → frm FF rs τ Q) : FnOk P w K mg base CX k f fd ps (spD (theT Ts) K FT) :=
  F.imp fun vs H Q E z9 => by
    obtain ⟨G, F, τ, rs, Qd, Ha, ok, r, dr, hf, fin⟩ := z9
    exact spD_fr ⟨G, F, τ, rs, Qd, Ha, ok, r, dr, h _ _ _ hf, fin⟩
theorem begin_fr (rs : List SV) (τ : T2) (Q : SV → T2 → Prop) : FF_begin rs τ Q → frm FF__law_begin rs τ Q := by
  rintro ⟨ns, cs, rfl, h, rfl, q⟩
  exact ⟨ns, rfl, h, rfl, fun a => ⟨rfl, q a⟩⟩
theorem next_fr (rs : List SV) (τ : T2) (Q : SV → T2 → Prop) : FF_next rs τ Q → frm FF__law_next rs τ Q := by
  rintro ⟨a, b, n, cs, rfl, rfl, h, q⟩
  exact ⟨a, b, n, rfl, rfl, h, fun r r0 r1 => ⟨rfl, q r r0 r1⟩⟩
end
theorem nextT {a : Addr} {b : Nat} {n : Int} {cs : List (Addr × Cel)} {Q : SV → T2 → Prop} (hb : 1 ≤ b) (h0 : 0 < n) (h1 : n < 1073741824) (h : ∀ r : Int, 0 ≤ r → r < n → Q (.d (.int r)) ⟨.on a (b - 1), cs⟩) : FF_next [.raw (.ref a), .d (.int n)] ⟨.on a b, cs⟩ Q :=
  ⟨a, b - 1, n, cs, rfl, by rw [Nat.sub_add_cancel hb], ⟨h0, h1⟩, h⟩
/-! ### how many there are of a tuple of ints, each once -/
def dis : List Int → List Int
  | [] => []
  | a :: r => if a ∈ r then dis r else a :: dis r
theorem nodup_le {α : Type} [DecidableEq α] : ∀ {a b : List α}, a.Nodup → (∀ x ∈ a, x ∈ b) → a.length ≤ b.length
  | [], _, _, _ => Nat.zero_le _
  | x :: r, b, h, s => by
    rw [List.nodup_cons] at h
    have hx : x ∈ b := s x List.mem_cons_self
    have ih := nodup_le (a := r) (b := b.erase x) h.2 fun y hy => (List.mem_erase_of_ne (fun e => by rw [e] at hy; exact h.1 hy)).mpr (s y (List.mem_cons_of_mem _ hy))
    rw [List.length_erase_of_mem hx] at ih
    have := List.length_pos_of_mem hx
    rw [List.length_cons]
    omega
def tupI? : SV → Option (List Int)
  | .d (.tuple xs) => ints? xs
  | _ => none
def dLenSet {T : Type} (te : W T) : W T := fun env τ Q => te env τ fun r τ1 => ∃ ns, tupI? r = some ns ∧ ns.length ≤ 4000 ∧ Q (.d (.int ((dis ns).length : Nat))) τ1
section
variable {X : Cx} {B : Bk} {e : Expr} {te : W B.T}
/-! ### xs[::-1] of a list -/
def dRev {T : Type} (te : W T) : W T := fun env τ Q => te env τ fun r τ1 => opt r.lst? fun xs => Q (.ol xs.reverse) τ1
end
/-! ### repr, of {} too -/
def gReprE (rs : List SV) (Q : SV → Prop) : Prop := match rs with
  | [.d (.dict [])] => Q (.d (.str (PyData.dict []).shown))
  | rs => gRepr rs Q
end Z
namespace Z
open PySem L2
/-! ### equations for the new readings -/
section
variable {T : Type}
def kCallX (FX : FWX T) (Ed : Z.D → T → Prop) (Q : SV → T → Prop) (rs : List SV) (τ : T) : Prop := rs.all SV.dr = true ∧ FX rs τ Q Ed
theorem dCallX_k (FX : FWX T) (Ed : Z.D → T → Prop) (ta : WA T) (env : List SV) (τ : T) (Q : SV → T → Prop) : dCallX FX Ed ta env τ Q = ta env τ (kCallX FX Ed Q) := rfl
def kIsX (K : PySem.W.Frag) (us : List Value) (Q : SV → T → Prop) (r : SV) (τ : T) : Prop := ∃ (x : Z.D) (C : Addr) (b : Bool), r = .d x ∧ exC? x = some (C : Nat) ∧ ExC K C ∧ PySem.W.kitAny K (.ref C) us = some b ∧ Q (.d (.bool b)) τ
theorem dIsX_k (K : PySem.W.Frag) (us : List Value) (te : W T) (env : List SV) (τ : T) (Q : SV → T → Prop) : dIsX K us te env τ Q = te env τ (kIsX K us Q) := rfl
/-- a lambda, by data -/
def ldOf (tb : (Z.D → T → Prop) → W T) (env : List SV) : LD T := fun τ Q Ed => tb Ed env τ Q
theorem dLam_k (fc : FC T) (tb : (Z.D → T → Prop) → W T) (env : List SV) (τ : T) (Q : SV → T → Prop) : dLam fc tb env τ Q = fc (ldOf tb (env.map capS)) τ Q := rfl
theorem dRaise_k (x : Z.D) (Ed : Z.D → T → Prop) (D : DEnds T) (env : List SV) (τ : T) : dRaise x Ed D env τ = Ed x τ := rfl
def kLenSet (Q : SV → T → Prop) (r : SV) (τ : T) : Prop := ∃ ns, tupI? r = some ns ∧ ns.length ≤ 4000 ∧ Q (.d (.int ((dis ns).length : Nat))) τ
theorem dLenSet_k (te : W T) (env : List SV) (τ : T) (Q : SV → T → Prop) : dLenSet te env τ Q = te env τ (kLenSet Q) := rfl
def kRev (Q : SV → T → Prop) (r : SV) (τ : T) : Prop := opt r.lst? fun xs => Q (.ol xs.reverse) τ
theorem dRev_k (te : W T) (env : List SV) (τ : T) (Q : SV → T → Prop) : dRev te env τ Q = te env τ (kRev Q) := rfl
theorem kRev_1 (Q : SV → T → Prop) (xs : List Z.D) (τ : T) : kRev Q (.vw xs) τ = Q (.ol xs.reverse) τ := rfl
theorem kRev_2 (Q : SV → T → Prop) (xs : List Z.D) (τ : T) : kRev Q (.ol xs) τ = Q (.ol xs.reverse) τ := rfl
theorem kRev_3 (Q : SV → T → Prop) (xs : List Z.D) (τ : T) : kRev Q (.d (.list xs)) τ = Q (.ol xs.reverse) τ := rfl
end
theorem gReprE_e (Q : SV → Prop) : gReprE [.d (.dict [])] Q = Q (.d (.str (PyData.dict []).shown)) := rfl
/-- what can be told -/
def reprOk (d : Z.D) : Prop := d.canLay0 = true ∧ d.showable = true ∧ d.hasDict = false ∧ d.depth ≤ 64 ∧ d.shown.length ≤ sizeLine
theorem gReprE_n (Q : SV → Prop) : gReprE [.d .none] Q = (reprOk .none ∧ Q (.d (.str (PyData.none).shown))) := rfl
theorem gReprE_b (b : Bool) (Q : SV → Prop) : gReprE [.d (.bool b)] Q = (reprOk (.bool b) ∧ Q (.d (.str (PyData.bool b).shown))) := rfl
theorem gReprE_i (i : Int) (Q : SV → Prop) : gReprE [.d (.int i)] Q = (reprOk (.int i) ∧ Q (.d (.str (PyData.int i).shown))) := rfl
theorem gReprE_s (i : Str) (Q : SV → Prop) : gReprE [.d (.str i)] Q = (reprOk (.str i) ∧ Q (.d (.str (PyData.str i).shown))) := rfl
theorem gReprE_l (i : List Z.D) (Q : SV → Prop) : gReprE [.d (.list i)] Q = (reprOk (.list i) ∧ Q (.d (.str (PyData.list i).shown))) := rfl
theorem gReprE_t (i : List Z.D) (Q : SV → Prop) : gReprE [.d (.tuple i)] Q = (reprOk (.tuple i) ∧ Q (.d (.str (PyData.tuple i).shown))) := rfl
theorem gReprE_ol (i : List Z.D) (Q : SV → Prop) : gReprE [.ol i] Q = (reprOk (.list i) ∧ Q (.d (.str (PyData.list i).shown))) := rfl
theorem gReprE_vw (i : List Z.D) (Q : SV → Prop) : gReprE [.vw i] Q = (reprOk (.list i) ∧ Q (.d (.str (PyData.list i).shown))) := rfl
/-! ### a tuple of the module, of ints, truths and texts -/
end Z
namespace Z
open PySem L2
/-! ### what can be told by repr: data of a depth and a weight -/
structure Rb (m w : Nat) (d : D) : Prop where
  lay : d.canLay0 = true
  sh : d.showable = true
  dp : d.depth ≤ m
  st : PyData.intsShort 64 d = true
  wt : d.weight ≤ w
theorem Rb.le {m w m' w' : Nat} {d : D} (h : Rb m w d) (hm : m ≤ m') (hw : w ≤ w') : Rb m' w' d := ⟨h.lay, h.sh, Nat.le_trans h.dp hm, h.st, Nat.le_trans h.wt hw⟩
theorem Rb.none : Rb 0 0 .none := ⟨by rfl, by rfl, by decide, by rfl, by decide⟩
theorem Rb.bool (b : Bool) : Rb 0 0 (.bool b) := ⟨by rfl, by rfl, by simp [PyData.depth], by rfl, by simp [PyData.weight]⟩
theorem Rb.str {s : Str} {n : Nat} (h : okN n s) : Rb 0 n (.str s) := by
  refine ⟨?_, by rfl, by simp [PyData.depth], by rfl, ?_⟩
  · show PyData.strOk s = true
    unfold PyData.strOk
    rw [Array.all_eq_true']
    intro c hc
    exact decide_eq_true (h.2 c (by simpa [cs] using hc))
  · show s.cps.size ≤ n
    have := h.1
    rw [str_len] at this
    simpa [cs] using this
theorem Rb.int {i : Int} (h : i.natAbs < 10 ^ 60) : Rb 0 200 (.int i) := by
  have hl : i.natAbs.log2 < 200 := by
    by_cases h0 : i.natAbs = 0
    · rw [h0]; decide
    · exact (Nat.log2_lt h0).mpr (Nat.lt_trans h (by decide))
  refine ⟨by rfl, ?_, by simp [PyData.depth], ?_, ?_⟩
  · show decide (i.natAbs.log2 < 1920) = true
    exact decide_eq_true (by omega)
  · show decide ((PyData.shown (.int i)).length ≤ 64) = true
    refine decide_eq_true ?_
    have := int_text_length_le10 (k := 60) (by decide) h
    show (Str.ofString (toString i)).length ≤ 64
    rw [ofString_length]
    omega
  · show (if i == 0 then 0 else i.natAbs.log2 + 1) ≤ 200
    split <;> omega
theorem Rb.all {m w : Nat} : ∀ {xs : List D}, (∀ x ∈ xs, Rb m w x) → PyData.canLayAll0 xs = true ∧ PyData.showableAll xs = true ∧ PyData.depthAll xs ≤ m ∧ PyData.intsShortAll 64 xs = true ∧ PyData.weightAll xs ≤ (w + 1) * xs.length
  | [], _ => ⟨rfl, rfl, Nat.zero_le _, rfl, Nat.zero_le _⟩
  | x :: r, h => by
    have hx := h x List.mem_cons_self
    obtain ⟨h1, h2, h3, h4, h5⟩ := Rb.all (xs := r) fun y hy => h y (List.mem_cons_of_mem _ hy)
    refine ⟨?_, ?_, ?_, ?_, ?_⟩
    · rw [PyData.canLayAll0, hx.lay, h1]; rfl
    · rw [PyData.showableAll, hx.sh, h2]; rfl
    · rw [PyData.depthAll]; exact Nat.max_le.mpr ⟨hx.dp, h3⟩
    · rw [PyData.intsShortAll, hx.st, h4]; rfl
    · rw [PyData.weightAll, List.length_cons, Nat.mul_add]
      have := hx.wt
      omega
theorem Rb.tup {m w n : Nat} {xs : List D} (h : ∀ x ∈ xs, Rb m w x) (hl : xs.length ≤ n) : Rb (m + 1) ((w + 1) * n) (.tuple xs) := by
  obtain ⟨h1, h2, h3, h4, h5⟩ := Rb.all h
  have := Nat.mul_le_mul_left (w + 1) hl
  exact ⟨by rw [PyData.canLay0]; exact h1, by rw [PyData.showable]; exact h2, by rw [PyData.depth]; omega, by rw [PyData.intsShort]; exact h4, by rw [PyData.weight]; omega⟩
theorem Rb.lst {m w n : Nat} {xs : List D} (h : ∀ x ∈ xs, Rb m w x) (hl : xs.length ≤ n) : Rb (m + 1) ((w + 1) * n) (.list xs) := by
  obtain ⟨h1, h2, h3, h4, h5⟩ := Rb.all h
  have := Nat.mul_le_mul_left (w + 1) hl
  exact ⟨by rw [PyData.canLay0]; exact h1, by rw [PyData.showable]; exact h2, by rw [PyData.depth]; omega, by rw [PyData.intsShort]; exact h4, by rw [PyData.weight]; omega⟩
end Z
namespace Z
open PySem L2
/-! ### plain lemmas: cuts, pairs, all -/
theorem ints_of {α : Type} (f : α → Int) (l : List α) : ints? (l.map fun x => PyData.int (f x)) = some (l.map f) := by
  induction l with
  | nil => rfl
  | cons a r ih => rw [List.map_cons, ints?, ih]; rfl
theorem ints_mapI (l : List Int) : ints? (l.map PyData.int) = some l := by
  have := ints_of (fun x => x) l
  simpa using this
/-- each number of a row beside each one behind it -/
def pairsB (r : Int → Int → Bool) : List Int → Bool
  | [] => true
  | a :: l => l.all (r a) && pairsB r l
end Z
namespace Z
open PySem PySem.Spec PyProof.Rows L2
/-! ### enumerate(tuple) -/
section
variable {X : Cx} {B : Bk}
def dEnum2 {T : Type} (ta : WA T) : WI T := fun env τ Q => ta env τ fun rs τ1 => ∃ xs, (rs = [.d (.list xs)] ∨ rs = [.d (.tuple xs)]) ∧ Q (enumD xs) τ1
end
section
variable {T : Type}
def kEn2 (Q : List D → T → Prop) (rs : List SV) (τ : T) : Prop := ∃ xs, (rs = [.d (.list xs)] ∨ rs = [.d (.tuple xs)]) ∧ Q (enumD xs) τ
theorem kEn2_l {Q : List D → T → Prop} {xs : List D} {τ : T} : kEn2 Q [.d (.list xs)] τ = Q (enumD xs) τ := by simp [kEn2]
theorem kEn2_t {Q : List D → T → Prop} {xs : List D} {τ : T} : kEn2 Q [.d (.tuple xs)] τ = Q (enumD xs) τ := by simp [kEn2]
theorem dEnum2_k (ta : WA T) (env : List SV) (τ : T) (Q : List D → T → Prop) : dEnum2 ta env τ Q = ta env τ (kEn2 Q) := rfl
end
end Z
namespace Z
open PySem L2
/-! ### tuple.index(text), abs -/
section
variable {X : Cx} {B : Bk} {e : Expr}
def gAbs (rs : List SV) (Q : SV → Prop) : Prop := match rs with
  | [.d (.int i)] => Q (.d (.int (if i < 0 then -i else i)))
  | _ => False
end
/-- NAME.index(text), NAME a tuple of texts of the module -/
def dGIndex {T : Type} (ys : List Str) (te : W T) : W T := fun env τ Q => te env τ fun y τ1 => ∃ (z : Str) (j : Nat), y = .d (.str z) ∧ ys[j]? = some z ∧ (∀ m, m < j → ys[m]? ≠ some z) ∧ Q (.d (.int (j : Nat))) τ1
section
variable {T : Type}
def kGIx (ys : List Str) (Q : SV → T → Prop) (y : SV) (τ : T) : Prop := ∃ (z : Str) (j : Nat), y = .d (.str z) ∧ ys[j]? = some z ∧ (∀ m, m < j → ys[m]? ≠ some z) ∧ Q (.d (.int (j : Nat))) τ
theorem dGIndex_k (ys : List Str) (te : W T) (env : List SV) (τ : T) (Q : SV → T → Prop) : dGIndex ys te env τ Q = te env τ (kGIx ys Q) := rfl
end
theorem gAbs_i (i : Int) (Q : SV → Prop) : gAbs [.d (.int i)] Q = Q (.d (.int (if i < 0 then -i else i))) := rfl
end Z
namespace Z
open PySem PySem.Spec PyProof.Rows L2 PySem.W
/-! ### min, max of a tuple of ints with default= -/
/-- min(row, default=d) -/
def dMnD {T : Type} (f : Int → List Int → Int) (d : Int) (te : W T) : W T := fun env τ Q => te env τ fun r τ1 => ∃ ns, tupI? r = some ns ∧ Q (.d (.int (f d ns))) τ1
section
variable {T : Type}
def kMnD (f : Int → List Int → Int) (d : Int) (Q : SV → T → Prop) (r : SV) (τ : T) : Prop := ∃ ns, tupI? r = some ns ∧ Q (.d (.int (f d ns))) τ
theorem dMnD_k (f : Int → List Int → Int) (d : Int) (te : W T) (env : List SV) (τ : T) (Q : SV → T → Prop) : dMnD f d te env τ Q = te env τ (kMnD f d Q) := rfl
end
end Z
namespace Z
open PySem L2
/-! ### tests put together, without cases -/
section
variable {T : Type}
theorem kOrT_or {u : WT T} {env : List SV} {Q : Bool → T → Prop} {b c : Bool} {τ : T} (h : b = false → ∀ Q' : Bool → T → Prop, Q' c τ → u env τ Q') (q : Q (b || c) τ) : kOrT u env Q b τ := by
  cases b with
  | true => rw [kOrT_t]; exact q
  | false => rw [kOrT_f]; exact h rfl Q q
end
end Z
namespace Z
open PySem PySem.Spec PyProof.Rows L2
/-! ### sum, sorted of a list or a tuple of ints -/
section
variable {prog : Program} {w : World} {A : Around} {E : Value → Shared → Prop} {s : Shared} {l : Addr}
/-- what a tuple is gathered to -/
theorem gather_tup {its : List Value} {Q : List Value → Shared → Prop} (ht : s.heap.IsTuple l its.toArray) (hz : its.length ≤ sizeLine)
    (fin : Q its { s with heap := (s.heap.push (seqObj "list" #[] 0)).update s.heap.objs.size (Obj.mapSeq (· ++ its.toArray)) }) : wpAny (model prog w) A (collect (.ref l)) Q E s := by
  obtain ⟨o, at0, cl, n, dt⟩ := id ht
  unfold collect
  refine wpAny_bind (wpAny_runValue (codeAny_builtin entry_proto_collect' (wpAny_bind (wpAny_newList (wpAny_pure ⟨Code.quiet_builtin _ (by decide +kernel), codeAny_builtin entry_list_iadd' ?_⟩)))))
  show wpAny _ _ (Builtin.List.listExtendWith (.ref s.heap.objs.size) (.ref l) (.ref s.heap.objs.size)) _ _ { s with heap := s.heap.push (seqObj "list" #[] 0) }
  unfold Builtin.List.listExtendWith
  have at1 : (s.heap.push (seqObj "list" #[] 0)).get? l = some o := Heap.get?_push_of_some _ at0
  have me : (s.heap.push (seqObj "list" #[] 0)).get? s.heap.objs.size = some (seqObj "list" #[] 0) := Heap.get?_push_size _ rfl
  refine wpAny_bind (wpAny_typeOf (T := "tuple") ⟨o, at1, cl⟩ ?_)
  rw [if_pos (by rw [show (Value.type "tuple" == Value.type "tuple") = true from by rfl, Bool.or_true])]
  refine wpAny_bind (listItems_at at1 dt (wpAny_bind (listItems_at (xs := #[]) (n := 0) me rfl ?_)))
  rw [if_neg (by simp)]
  have sz : ((#[] : Array Value) ++ its.toArray).size ≤ sizeLine + 1 := by
    rw [Array.size_append, List.size_toArray]
    simp only [List.size_toArray, List.length_nil]
    omega
  refine wpAny_bind (listUpdate_at (xs := #[]) (n := 0) me rfl (wpAny_pure ?_) (Nat.zero_le _) sz)
  refine wpAny_bind (wpAny_load (get?_update_seq me _) (wpAny_pure ?_))
  rw [show ((#[] : Array Value) ++ its.toArray).toList = its by simp]
  exact fin
theorem sorted_tup {its : List Value} {ltv : Value → Value → Bool} {Q : Value → Shared → Prop} (O : SrtO.Swo ltv) (ht : s.heap.IsTuple l its.toArray) (hz : its.length ≤ sizeLine)
    (can : 2 ≤ its.length → ∀ (h₁ : Heap) (a : Addr), h₁.get? a = some (seqObj "list" its.toArray 0) → SrtO.SortableO prog w A.in1.in1 { s with heap := h₁ } a its ltv)
    (fin : ∀ out : List Value, SrtO.Srtd ltv out → SrtO.Stb ltv out its → Q (.ref (s.heap.objs.size + 1)) { s with heap := sortedAll s.heap its out.toArray }) :
    wpAny (model prog w) A (call (.builtin "sorted") [.ref l]) Q E s := by
  have es : ((s.heap.push (seqObj "list" #[] 0)).update s.heap.objs.size (Obj.mapSeq (· ++ its.toArray))).objs.size = s.heap.objs.size + 1 := (Heap.size_update ..).trans (size_push' ..)
  have own : (((s.heap.push (seqObj "list" #[] 0)).update s.heap.objs.size (Obj.mapSeq (· ++ its.toArray))).push (seqObj "list" its.toArray 0)).get? (s.heap.objs.size + 1) = some (seqObj "list" its.toArray 0) := es ▸ Heap.get?_push_size _ rfl
  refine Calls.call_function_entry kind_sorted plain_sorted entry_sorted (args_sorted1 _) ?_
  unfold Builtin.«sorted»
  refine wpAny_bind (m := checkCount "sorted" 1 1 _) (wpAny_pure (wpAny_bind (gather_tup ht hz (wpAny_bind (wpAny_newList ?_ hz)))))
  show wpAny _ _ _ _ _ { s with heap := ((s.heap.push (seqObj "list" #[] 0)).update s.heap.objs.size (Obj.mapSeq (· ++ its.toArray))).push (seqObj "list" its.toArray 0) }
  rw [es]
  refine wpAny_bind (wpAny_holding (wpAny_call_entry slot_list_sort ⟨_, own, rfl⟩ entry_list_sort (SrtO.list_sort_ord O own hz (fun h2 => can h2 _ _ own) fun out hs hb => ⟨_, rfl, ?_⟩) (args_list_sort _)))
  exact wpAny_pure ⟨_, rfl, fin out hs hb⟩
end
section
variable {X : Cx} {B : Bk}
def rSortA (K : PySem.W.Frag) : List V → Hp → VK → Prop := fun vs H Q => ∃ (a : Addr) (ns : List Int), vs = [V.ref a] ∧ (SqL K H a (ns.map V.int) ∨ SqT K H a (ns.map V.int)) ∧
  ∀ (ms : List Int) (p : Addr), ms.Perm ns → ms.Pairwise (· ≤ ·) → H p = none → Q (.ref p) (upd H p (.lst (ms.map V.int)))
theorem cr_sortA : CallR X (.builtin "sorted") (rSortA X.K) := by
  rintro pins s σ H vs us Q I r ⟨a, ns, rfl, hs | hs, q⟩
  · exact cr_sortedI pins s σ H [V.ref a] us Q I r ⟨a, ns, rfl, hs, q⟩
  · obtain ⟨its, rv, hl, hz⟩ := I.tuple hs
    rw [Vals.ref1 r]
    have ia := rv.ints
    refine sorted_tup SrtO.swo_int hl (by rw [← rv.length]; exact hz) (fun h2 h₁ a' _ => SrtO.ints_sortable ia h2) fun out g1 g2 => ?_
    obtain ⟨k1, k2, k3⟩ := SrtO.ints_out ia g1 g2
    obtain ⟨ep, he⟩ := PyProof.Rows.sortedAll_at s.heap its out.toArray
    have sz : ((out.map SrtO.iv).map V.int).length ≤ sizeLine := by
      rw [List.length_map, k2.length_eq, ← List.length_map (f := V.int)]
      exact hz
    exact ⟨.ref _, _, I.laid (t' := s.toks) (o := .lst ((out.map SrtO.iv).map V.int)) (fun _ _ => PyProof.Rows.sortedAll_old) (Nat.le_succ _) ⟨sz, out, ep, vals_of_ints k1, he⟩, rfl, q _ _ k2 k3 (I.hok.fresh (Nat.le_succ _))⟩
def gSumA (rs : List SV) (Q : SV → Prop) : Prop := match rs with
  | [x] => opt (x.seqd?.bind ints?) fun ns => Q (.d (.int ns.sum))
  | _ => False
def gSortA (rs : List SV) (Q : SV → Prop) : Prop := match rs with
  | [x] => opt (x.seqd?.bind ints?) fun ns => ∀ ms : List Int, ms.Perm ns → ms.Pairwise (· ≤ ·) → Q (.ol (ms.map PyData.int))
  | _ => False
theorem cd_sortA (hK : X.K = B.K) : CallD B (rSortA X.K) gSortA := fun rs vs Ha G F H τ Qv Q k r h fin => by
  unfold gSortA at h
  split at h
  · obtain ⟨ns, en, h⟩ := opt_of h
    obtain ⟨xs, ex, en⟩ := bind_of en
    obtain ⟨v, rfl, rx⟩ := r.one
    obtain ⟨p, ws, e1, hs, a⟩ := rx.seqd k.same ex
    have e2 := ints_ok a en
    subst e2
    rw [hK]
    exact ⟨p, ns, by rw [e1], hs, fun ms l h1 h2 hl => fin.ol k hl (rp_ints ms) (h ms h1 h2)⟩
  · exact h.elim
end
theorem gSumA_t {ns : List Int} {Q : SV → Prop} : gSumA [.d (.tuple (ns.map .int))] Q = Q (.d (.int ns.sum)) := by
  unfold gSumA
  show opt (ints? (ns.map PyData.int)) _ = _
  rw [ints_mapI]
  rfl
theorem gSumA_ol {ns : List Int} {Q : SV → Prop} : gSumA [.ol (ns.map .int)] Q = Q (.d (.int ns.sum)) := by
  unfold gSumA
  show opt (ints? (ns.map PyData.int)) _ = _
  rw [ints_mapI]
  rfl
theorem gSumA_l {ns : List Int} {Q : SV → Prop} : gSumA [.d (.list (ns.map .int))] Q = Q (.d (.int ns.sum)) := gSumA_ol
theorem gSumA_vw {ns : List Int} {Q : SV → Prop} : gSumA [.vw (ns.map .int)] Q = Q (.d (.int ns.sum)) := gSumA_ol
/-- sorted(..) of numbers that are known as such -/
theorem gSortA_of {x : SV} {ns : List Int} {Q : SV → Prop} (e : x.seqd? = some (ns.map .int)) (h : ∀ ms : List Int, ms.Perm ns → ms.Pairwise (· ≤ ·) → Q (.ol (ms.map .int))) : gSortA [x] Q := by
  show opt (x.seqd?.bind ints?) _
  rw [e, Option.bind_some, ints_mapI]
  exact h
end Z
namespace Z
open PySem L2
/-! ### ways that come together again -/
section
variable {T : Type}
theorem kIf_join {u v : W T} {Q : SV → T → Prop} {env : List SV} {b : Bool} {τ : T} (P : SV → T → Prop)
    (h1 : b = true → ∀ Q' : SV → T → Prop, (∀ x τ', P x τ' → Q' x τ') → u env τ Q') (h2 : b = false → ∀ Q' : SV → T → Prop, (∀ x τ', P x τ' → Q' x τ') → v env τ Q')
    (q : ∀ x τ', P x τ' → Q x τ') : kIf u v env Q b τ := by
  cases b with
  | true => rw [kIf_t]; exact h1 rfl Q q
  | false => rw [kIf_f]; exact h2 rfl Q q
end
end Z
namespace Z
open PySem PySem.Spec PyProof.Rows L2
/-! ### list(range(a, b)), tuple(range(a, b)) -/
section
variable {T : Type}
def kRgB (f : List D → SV) (x : SV) (Q : SV → T → Prop) (y : SV) (τ : T) : Prop := ∃ i j : Int, x = .d (.int i) ∧ y = .d (.int j) ∧ RgOk i j ∧ Q (f (rgI i (j - i).toNat)) τ
def kRgA (f : List D → SV) (tb : W T) (env : List SV) (Q : SV → T → Prop) (x : SV) (τ : T) : Prop := tb env τ (kRgB f x Q)
def dRg (f : List D → SV) (ta tb : W T) : W T := fun env τ Q => ta env τ (kRgA f tb env Q)
theorem dRg_k (f : List D → SV) (ta tb : W T) (env : List SV) (τ : T) (Q : SV → T → Prop) : dRg f ta tb env τ Q = ta env τ (kRgA f tb env Q) := rfl
theorem kRgB_k {f : List D → SV} {i j : Int} {Q : SV → T → Prop} {τ : T} : kRgB f (.d (.int i)) Q (.d (.int j)) τ = (RgOk i j ∧ Q (f (rgI i (j - i).toNat)) τ) := by
  refine propext ⟨?_, fun h => ⟨i, j, rfl, rfl, h⟩⟩
  rintro ⟨i', j', e1, e2, h⟩
  cases e1
  cases e2
  exact h
end
theorem rp_rg {K : PySem.W.Frag} {G : Hp} (a b : Int) : RpAll K G (rgV a b) (rgI a (b - a).toNat) := by
  have := rp_ints (K := K) (G := G) ((List.range (b - a).toNat).map fun i => a + (i : Nat))
  rw [List.map_map, List.map_map] at this
  exact this
section
variable {X : Cx} {B : Bk} {a b : Expr} {p p2 pos pos2 : Pos} {ta tb : W B.T}
theorem de_lstRg (hg : Gl X "list") (hm : X.mg "list" = none) (hg2 : Gl X "range") (hm2 : X.mg "range" = none) (ha : PE X a (lift B ta)) (hb : PE X b (lift B tb)) (hc : X.calm = true := by rfl)
    (n1 : starEach [a, b] X.env = (false, eval a X.env) :: starEach [b] X.env := by rfl) (n2 : starEach [b] X.env = (false, eval b X.env) :: starEach [] X.env := by rfl) (n3 : (backTo pos2 (starEach [b] X.env)).any (·.1) = false := by rfl)
    (n4 : starEach [.Call (.Name "range" p2) [a, b] [] pos2] X.env = (false, eval (.Call (.Name "range" p2) [a, b] [] pos2) X.env) :: starEach [] X.env := by rfl) :
    PE X (.Call (.Name "list" p) [.Call (.Name "range" p2) [a, b] [] pos2] [] pos) (lift B (dRg (fun xs => .ol xs) ta tb)) :=
  pe_imp (pe_listRg hc hg hm (prg_2 hg2 hm2 ha hb n1 n2 n3) n4) fun σ H Q z9 => ex53 z9 fun G F env τ Qd s t k => ⟨G, F, env, τ, _, s, t, fun x τ1 G1 F1 H1 vx f1 r1 q1 => ⟨G1, F1, env, τ1, _, s.fin f1, q1, fun y τ2 G2 F2 H2 vy f2 r2 q2 => by
    obtain ⟨i, j, ex, ey, ok, q⟩ := q2
    subst ex ey
    exact ⟨i, j, rint r1, rint r2, ok, fun l hl => (FinT.trans k (f1.trans f2)).ol f2.k hl (rp_rg i j) q⟩⟩⟩
theorem de_tupRg (hg : Gl X "tuple") (hm : X.mg "tuple" = none) (hg2 : Gl X "range") (hm2 : X.mg "range" = none) (ha : PE X a (lift B ta)) (hb : PE X b (lift B tb)) (hc : X.calm = true := by rfl)
    (n1 : starEach [a, b] X.env = (false, eval a X.env) :: starEach [b] X.env := by rfl) (n2 : starEach [b] X.env = (false, eval b X.env) :: starEach [] X.env := by rfl) (n3 : (backTo pos2 (starEach [b] X.env)).any (·.1) = false := by rfl)
    (n4 : starEach [.Call (.Name "range" p2) [a, b] [] pos2] X.env = (false, eval (.Call (.Name "range" p2) [a, b] [] pos2) X.env) :: starEach [] X.env := by rfl) :
    PE X (.Call (.Name "tuple" p) [.Call (.Name "range" p2) [a, b] [] pos2] [] pos) (lift B (dRg (fun xs => .d (.tuple xs)) ta tb)) :=
  pe_imp (pe_tupRg hc hg hm (prg_2 hg2 hm2 ha hb n1 n2 n3) n4) fun σ H Q z9 => ex53 z9 fun G F env τ Qd s t k => ⟨G, F, env, τ, _, s, t, fun x τ1 G1 F1 H1 vx f1 r1 q1 => ⟨G1, F1, env, τ1, _, s.fin f1, q1, fun y τ2 G2 F2 H2 vy f2 r2 q2 => by
    obtain ⟨i, j, ex, ey, ok, q⟩ := q2
    subst ex ey
    exact ⟨i, j, rint r1, rint r2, ok, fun l hl => (FinT.trans k (f1.trans f2)).tup f2.k hl (rp_rg i j) q⟩⟩⟩
/-! ### x in a tuple of data -/
/-! ### a, b, c = [], [], [] -/
end
section
variable {X : Cx} {B : Bk} {a b c : Expr} {ta : TA} {i j k : Nat} {x y z : Str} {px py pz pt pt2 pos : Pos} {kt k2 : _}
def dNil3 {T : Type} (i j k : Nat) : WS T := fun D env τ => D.nx (((env.set i (.ol [])).set j (.ol [])).set k (.ol [])) τ
end
theorem dNil3_k {T : Type} (i j k : Nat) (D : DEnds T) (env : List SV) (τ : T) : dNil3 i j k D env τ = D.nx (((env.set i (.ol [])).set j (.ol [])).set k (.ol [])) τ := rfl
end Z
namespace Z
open PySem PySem.Spec PyProof.Rows L2
/-! ### t[::-1] of a tuple -/
section
variable {X : Cx} {B : Bk} {e : Expr} {te : W B.T}
def kRevT {T : Type} (Q : SV → T → Prop) (r : SV) (τ : T) : Prop := ∃ xs, r = .d (.tuple xs) ∧ Q (.d (.tuple xs.reverse)) τ
def dRevT {T : Type} (te : W T) : W T := fun env τ Q => te env τ (kRevT Q)
theorem dRevT_k {T : Type} (te : W T) (env : List SV) (τ : T) (Q : SV → T → Prop) : dRevT te env τ Q = te env τ (kRevT Q) := rfl
theorem kRevT_k {T : Type} {Q : SV → T → Prop} {xs : List D} {τ : T} : kRevT Q (.d (.tuple xs)) τ = Q (.d (.tuple xs.reverse)) τ := by
  refine propext ⟨?_, fun h => ⟨xs, rfl, h⟩⟩
  rintro ⟨ys, e, h⟩
  cases e
  exact h
end
end Z
namespace Z
open PySem PySem.Spec PyProof.Rows L2
/-! ### d.update(e), both dicts with keys of the kind of texts and ints -/
/-! ### d != {} -/
/-! ### tables as data -/
def putD (m : List (Key × D)) (k : Key) (v : D) : List (Key × D) := if (m.any fun kv => decide (kv.1 = k)) = true then m.map (fun kv => if kv.1 = k then (kv.1, v) else kv) else m ++ [(k, v)]
def mergeD (m more : List (Key × D)) : List (Key × D) := more.foldl (fun acc kv => putD acc kv.1 kv.2) m
abbrev PrK (K : PySem.W.Frag) (G : Hp) : List (Key × V) → List (Key × D) → Prop := Paired fun (x : Key × V) (y : Key × D) => x.1 = y.1 ∧ Rp K G x.2 y.2
section
variable {K : PySem.W.Frag} {G G' : Hp}
theorem PrK.any : ∀ {kvs : List (Key × V)} {m : List (Key × D)} (k : Key), PrK K G kvs m → (kvs.any fun kv => decide (kv.1 = k)) = m.any fun kv => decide (kv.1 = k)
  | _, _, _, .nil => rfl
  | _, _, k, .cons h t => by rw [List.any_cons, List.any_cons, h.1, PrK.any k t]
theorem PrK.repl {v : V} {d : D} (r : Rp K G v d) (k : Key) : ∀ {kvs : List (Key × V)} {m : List (Key × D)}, PrK K G kvs m → PrK K G (kvs.map fun kv => if kv.1 = k then (kv.1, v) else kv) (m.map fun kv => if kv.1 = k then (kv.1, d) else kv)
  | _, _, .nil => .nil
  | _, _, .cons (a := a) (b := b) h t => by
    rw [List.map_cons, List.map_cons]
    refine .cons ?_ (PrK.repl r k t)
    by_cases e : a.1 = k
    · rw [if_pos e, if_pos (by rw [← h.1]; exact e)]
      exact ⟨h.1, r⟩
    · rw [if_neg e, if_neg (by rw [← h.1]; exact e)]
      exact h
theorem PrK.app : ∀ {a b : List (Key × V)} {m n : List (Key × D)}, PrK K G a m → PrK K G b n → PrK K G (a ++ b) (m ++ n)
  | _, _, _, _, .nil, s => s
  | _, _, _, _, .cons h t, s => .cons h (PrK.app t s)
theorem PrK.put {kvs : List (Key × V)} {m : List (Key × D)} {v : V} {d : D} (h : PrK K G kvs m) (r : Rp K G v d) (k : Key) : PrK K G (putK kvs k v) (putD m k d) := by
  unfold putK putD
  rw [h.any k]
  split
  · exact h.repl r k
  · exact h.app (.cons ⟨rfl, r⟩ .nil)
theorem PrK.mono (e : Same G G') {kvs : List (Key × V)} {m : List (Key × D)} (h : PrK K G kvs m) : PrK K G' kvs m := Paired.mapP h fun _ _ z => ⟨z.1, z.2.mono e⟩
theorem PrK.length : ∀ {kvs : List (Key × V)} {m : List (Key × D)}, PrK K G kvs m → kvs.length = m.length
  | _, _, .nil => rfl
  | _, _, .cons _ t => congrArg Nat.succ (PrK.length t)
theorem PrK.keys : ∀ {kvs : List (Key × V)} {m : List (Key × D)}, PrK K G kvs m → kvs.map (·.1) = m.map (·.1)
  | _, _, .nil => rfl
  | _, _, .cons h t => by rw [List.map_cons, List.map_cons, h.1, PrK.keys t]
end
def dKey : D → Option Key
  | .int i => some (.inl i)
  | .str x => some (.inr x)
  | _ => none
def pairD : D → Option (Key × D)
  | .tuple [a, b] => (dKey a).map fun k => (k, b)
  | _ => none
def pairsD : List D → Option (List (Key × D))
  | [] => some []
  | x :: r => (pairD x).bind fun p => (pairsD r).map fun ps => p :: ps
section
variable {K : PySem.W.Frag} {G : Hp}
theorem key_rel {v : V} {d : D} {k : Key} (r : Rp K G v d) (e : dKey d = some k) : v = L2.kV k := by
  cases d with
  | int i => cases e; cases r; rfl
  | str x => cases e; cases r; rfl
  | _ => cases e
end
/-! ### dicts of one's own, in the store -/
theorem celF_dk {p : Addr} {cs : List (Addr × Cel)} {m m' : List (Key × D)} {a : Addr} (h : celF ((p, .dk m) :: cs) a) : celF ((p, .dk m') :: cs) a := by
  obtain ⟨e, he, q⟩ := h
  rcases List.mem_cons.mp he with rfl | he
  · exact ⟨_, List.mem_cons_self, q.imp id id⟩
  · exact ⟨e, List.mem_cons_of_mem _ he, q⟩
section
variable {Ts : List (Addr × Str)} {K : PySem.W.Frag} {τ τ' : T2} {G H G' H' : Hp} {F F' : Addr → Prop} {p : Addr}
theorem Ok.dnew (k : Ok (theT Ts) K τ G F H) (n : H p = none) : p ∉ τ.cs.map (·.1) ∧
    Step G F H G (tF Ts ⟨τ.dr, (p, .dk []) :: τ.cs⟩) (upd H p (.dK [])) ∧ Ok (theT Ts) K ⟨τ.dr, (p, .dk []) :: τ.cs⟩ G (tF Ts ⟨τ.dr, (p, .dk []) :: τ.cs⟩) (upd H p (.dK [])) := by
  have r : TR Ts K τ G F H := k.r
  have nF : ¬ F p := fun z => k.fh p z n
  have nc : p ∉ τ.cs.map (·.1) := fun z => by
    obtain ⟨e, he, q⟩ := List.mem_map.mp z
    exact nF ((r.f p).mpr (.inr (.inl ⟨e, he, .inl q⟩)))
  have ne : ∀ a, F a → a ≠ p := fun a h z => by subst z; exact nF h
  have up : ∀ a, F a → (upd H p (.dK [])) a = H a := fun a h => upd_ne (ne a h)
  have gp : G p = none := by
    cases q : G p with
    | none => rfl
    | some o => rw [k.same p o q] at n; cases n
  have inF : ∀ a, tF Ts τ a → F a := fun a => (r.f a).mpr
  have spl : ∀ a, tF Ts ⟨τ.dr, (p, .dk []) :: τ.cs⟩ a → F a ∨ a = p := fun a h => by
    rcases h with h | ⟨e, he, q⟩ | h
    · exact .inl (inF a (.inl h))
    · rcases List.mem_cons.mp he with rfl | he
      · rcases q with q | q
        · exact .inr q.symm
        · exact q.elim
      · exact .inl (inF a (.inr (.inl ⟨e, he, q⟩)))
    · exact .inl (inF a (.inr (.inr h)))
  have wid : ∀ a, F a → tF Ts ⟨τ.dr, (p, .dk []) :: τ.cs⟩ a := fun a h => by
    rcases (r.f a).mp h with h | ⟨e, he, q⟩ | h
    · exact .inl h
    · exact .inr (.inl ⟨e, List.mem_cons_of_mem _ he, q⟩)
    · exact .inr (.inr h)
  refine ⟨nc, ⟨Same.refl G, fun a o _ e => by rw [upd_ne (ne_of_none e n)]; exact e, fun a o e => .inl e, fun a h => ?_, wid, fun a h => ?_⟩, ⟨fun a o e => ?_, fun a h => ?_, fun a h => ?_, ⟨fun a => Iff.rfl, ?_, fun e he => ?_, ?_, fun q hq => ?_⟩, k.nt' (by intro _ z; cases z), k.nx' (by intro _ z; cases z)⟩⟩
  · rcases spl a h with h | h
    · exact .inl h
    · exact .inr (by rw [h]; exact n)
  · by_cases q : a = p
    · subst q; exact absurd n h
    · rw [upd_ne q]; exact h
  · rw [upd_ne (ne_of_none (k.same a o e) n)]; exact k.same a o e
  · rcases spl a h with h | h
    · exact k.gf a h
    · rw [h]; exact gp
  · rcases spl a h with h | h
    · rw [up a h]; exact k.fh a h
    · rw [h, upd_same]; exact fun z => by cases z
  · have hd := r.dr
    show drP K ((p, .dk []) :: τ.cs) G _ τ.dr
    cases q : τ.dr with
    | off => trivial
    | on a b =>
      rw [q] at hd
      have fa : F a := inF a (.inl (by rw [q]; rfl))
      refine ⟨hd.1.mono (Same.refl G) (up a fa), fun e he => ?_⟩
      rcases List.mem_cons.mp he with rfl | he
      · exact (ne a fa).symm
      · exact hd.2 e he
  · rcases List.mem_cons.mp he with rfl | he
    · exact ⟨[], upd_same, .nil⟩
    · exact (r.cs e he).mono (Same.refl G) (up _ (inF _ (.inr (.inl ⟨e, he, .inl rfl⟩)))) fun q hq => up _ (inF _ (.inr (.inl ⟨e, he, .inr hq⟩)))
  · rw [List.map_cons]; exact List.nodup_cons.mpr ⟨nc, r.nd⟩
  · exact (r.tb q hq).mono (Same.refl G) (up _ (inF _ (.inr (.inr (List.mem_map.mpr ⟨q, hq, rfl⟩)))))
theorem Ok.dcell {cs : List (Addr × Cel)} {m : List (Key × D)} {d : DrT} (k : Ok (theT Ts) K ⟨d, (p, .dk m) :: cs⟩ G F H) : ∃ kvs, H p = some (.dK kvs) ∧ PrK K G kvs m := by
  have r : TR Ts K ⟨d, (p, .dk m) :: cs⟩ G F H := k.r
  exact r.cs _ List.mem_cons_self
theorem Ok.dput {cs : List (Addr × Cel)} {m m' : List (Key × D)} {kvs : List (Key × V)} {d : DrT} (k : Ok (theT Ts) K ⟨d, (p, .dk m) :: cs⟩ G F H) (h : PrK K G kvs m') :
    Step G F H G F (upd H p (.dK kvs)) ∧ Ok (theT Ts) K ⟨d, (p, .dk m') :: cs⟩ G F (upd H p (.dK kvs)) := by
  have r : TR Ts K ⟨d, (p, .dk m) :: cs⟩ G F H := k.r
  obtain ⟨kv0, hp, _⟩ := k.dcell
  have fp : F p := (r.f p).mpr (.inr (.inl ⟨_, List.mem_cons_self, .inl rfl⟩))
  have eF : ∀ a, F a ↔ tF Ts ⟨d, (p, .dk m') :: cs⟩ a := fun a => (r.f a).trans (or_congr Iff.rfl (or_congr ⟨celF_dk, celF_dk⟩ Iff.rfl))
  have nd := r.nd
  rw [List.map_cons, List.nodup_cons] at nd
  have gp : G p = none := k.gf p fp
  have nec : ∀ e ∈ cs, e.1 ≠ p := fun e he z => nd.1 (List.mem_map.mpr ⟨e, he, z⟩)
  refine ⟨⟨Same.refl G, fun a o nf e => by rw [upd_ne (fun z => nf (by rw [z]; exact fp))]; exact e, fun a o e => .inl e, fun a h => .inl h, fun a h => h, fun a h => ?_⟩, ⟨fun a o e => ?_, k.gf, fun a h => ?_, ⟨eF, ?_, fun e he => ?_, r.nd, fun q hq => ?_⟩, k.nt' (by intro _ z; cases z), k.nx' (by intro _ z; cases z)⟩⟩
  · by_cases q : a = p
    · subst q; rw [upd_same]; exact fun z => by cases z
    · rw [upd_ne q]; exact h
  · rw [upd_ne (ne_of_none e gp)]; exact k.same a o e
  · by_cases q : a = p
    · subst q; rw [upd_same]; exact fun z => by cases z
    · rw [upd_ne q]; exact k.fh a h
  · have hd := r.dr
    show drP K ((p, .dk m') :: cs) G _ d
    cases d with
    | off => trivial
    | on a b =>
      have na : a ≠ p := fun z => hd.2 _ List.mem_cons_self z.symm
      refine ⟨hd.1.mono (Same.refl G) (upd_ne na), fun e he => ?_⟩
      rcases List.mem_cons.mp he with rfl | he
      · exact Ne.symm na
      · exact hd.2 e (List.mem_cons_of_mem _ he)
  · rcases List.mem_cons.mp he with rfl | he
    · exact ⟨kvs, upd_same, h⟩
    · have z := r.cs e (List.mem_cons_of_mem _ he)
      refine z.mono (Same.refl G) (upd_ne (nec e he)) fun q hq => upd_ne fun y => ?_
      have := z.own hq
      rw [y, hp] at this
      cases this
  · have z := r.tb q hq
    refine z.mono (Same.refl G) (upd_ne fun y => ?_)
    obtain ⟨ps, h1, _⟩ := z
    rw [y, hp] at h1
    cases h1
/-! what was made within a def is forgotten at its end -/
theorem Step.less (s : Step G F H G' F' H') : Step G F H G' F H' := ⟨s.g, s.h, s.gn, fun a h => .inl h, fun a h => h, s.dom⟩
theorem Res.less {Ha : Hp} {F2 : Addr → Prop} (h : ∀ a, F2 a → F a) : ∀ {r : SV} {v : V}, Res K Ha G F H r v → Res K Ha G F2 H r v
  | .no, _, z => z.elim
  | .d _, _, z => z
  | .ol _, _, ⟨p, e, w⟩ => ⟨p, e, w.at', w.g, fun z => w.f (h p z), w.new⟩
  | .vw _, _, ⟨p, vs, e, e2, a, nf⟩ => ⟨p, vs, e, e2, a, fun z => nf (h p z)⟩
  | .raw _, _, z => z
theorem Ok.fewer (k : Ok (theT Ts) K τ G F H) (s : Step G F H G' F' H') (k' : Ok (theT Ts) K τ' G' F' H') (hd : τ'.dr = τ.dr) (hc : ∃ new, τ'.cs = new ++ τ.cs) : Ok (theT Ts) K τ G' F H' := by
  have r : TR Ts K τ G F H := k.r
  have r' : TR Ts K τ' G' F' H' := k'.r
  obtain ⟨new, hc⟩ := hc
  have mem : ∀ e ∈ τ.cs, e ∈ τ'.cs := fun e he => by rw [hc]; exact List.mem_append_right _ he
  refine ⟨k'.same, fun a h => k'.gf a (s.ff a h), fun a h => k'.fh a (s.ff a h), ⟨r.f, ?_, fun e he => r'.cs e (mem e he), r.nd, r'.tb⟩, k'.nt, k'.nx⟩
  have h := r'.dr
  rw [hd] at h
  cases q : τ.dr with
  | off => trivial
  | on a b =>
    rw [q] at h
    exact ⟨h.1, fun e he => h.2 e (mem e he)⟩
def dropF (FF : FW T2) : FW T2 := fun rs τ Q2 => ∃ Q, FF rs τ Q ∧ Q2 = fun r τ' => τ'.dr = τ.dr ∧ (∃ new, τ'.cs = new ++ τ.cs) ∧ Q r τ
theorem spD_drop {FF : FW T2} {vs : List V} {Q : VK} {E : XK} (h : spD (theT Ts) K FF vs H Q E) : spD (theT Ts) K (dropF FF) vs H Q E := by
  obtain ⟨G, F, τ, rs, Qd, Ha, ok, r, dr, hf, fin⟩ := h
  exact ⟨G, F, τ, rs, _, Ha, ok, r, dr, ⟨Qd, hf, rfl⟩, fun r τ' G' F' H' v st ok' res ⟨e1, e2, q⟩ => fin r τ G' F H' v st.less (ok.fewer st ok' e1 e2) (res.less st.ff) q⟩
end
theorem FnG.drop {P : Program} {w : World} {K : PySem.W.Frag} {mg : Str → Option Value} {base : Heap} {Ts : List (Addr × Str)} {k : Nat} {f : Addr} {fd : FuncData} {ps : List Str} {FF : FW T2} (F : FnG P w K mg base k f fd ps (spD (theT Ts) K (dropF FF))) : FnG P w K mg base k f fd ps (spD (theT Ts) K FF) :=
  ⟨fun vs H Q E h => F.len vs H Q E (spD_drop h), fun A st s H as us vs Q E rg z b v h => F.run A st s H as us vs Q E rg z b v (spD_drop h)⟩
/-! ### readings -/
def kNewD (Q : SV → T2 → Prop) (τ : T2) : Prop := ∀ p, p ∉ τ.cs.map (·.1) → Q (.raw (.ref p)) ⟨τ.dr, (p, .dk []) :: τ.cs⟩
def dNewD : W T2 := fun env τ Q => kNewD Q τ
theorem dNewD_k (env : List SV) (τ : T2) (Q : SV → T2 → Prop) : dNewD env τ Q = kNewD Q τ := rfl
/-- d.update(dict(e)) -/
def kUpdD (p : Addr) (m : List (Key × D)) (cs : List (Addr × Cel)) (Q : SV → T2 → Prop) (rs : List SV) (τ1 : T2) : Prop :=
  ∃ xs ps, rs = [.d (.list xs)] ∧ pairsD xs = some ps ∧ τ1.cs = (p, .dk m) :: cs ∧ m.length + ps.length ≤ sizeLine ∧ Q (.d .none) ⟨τ1.dr, (p, .dk (mergeD m (mergeD [] ps))) :: cs⟩
def kUpd0 (ta : WA T2) (env : List SV) (Q : SV → T2 → Prop) (τ : T2) : Option SV → Prop
  | some (.raw (.ref p)) => match τ.cs with
    | (q, .dk m) :: cs => q = p ∧ ta env τ (kUpdD p m cs Q)
    | _ => False
  | _ => False
def dUpdD (i : Nat) (ta : WA T2) : W T2 := fun env τ Q => kUpd0 ta env Q τ env[i]?
theorem dUpdD_k (i : Nat) (ta : WA T2) (env : List SV) (τ : T2) (Q : SV → T2 → Prop) : dUpdD i ta env τ Q = kUpd0 ta env Q τ env[i]? := rfl
theorem kUpd0_1 {ta : WA T2} {env : List SV} {Q : SV → T2 → Prop} {d : DrT} {p : Addr} {m : List (Key × D)} {cs : List (Addr × Cel)} : kUpd0 ta env Q ⟨d, (p, .dk m) :: cs⟩ (some (.raw (.ref p))) = ta env ⟨d, (p, .dk m) :: cs⟩ (kUpdD p m cs Q) := by
  show (p = p ∧ _) = _
  simp
/-- sorted(d) -/
def kSrtD (Q : SV → T2 → Prop) (τ : T2) (m : List (Key × D)) : Prop := ∃ ks : List Int, m.map (·.1) = ks.map Sum.inl ∧ ks.length < 64 ∧ ∀ ys : List Int, ys.Perm ks → ys.Pairwise (· ≤ ·) → Q (.ol (ys.map .int)) τ
def kSrt0 (Q : SV → T2 → Prop) (τ : T2) : Option SV → Prop
  | some (.raw (.ref p)) => match τ.cs with
    | (q, .dk m) :: cs => q = p ∧ kSrtD Q τ m
    | _ => False
  | _ => False
def dSrtD (i : Nat) : W T2 := fun env τ Q => kSrt0 Q τ env[i]?
theorem dSrtD_k (i : Nat) (env : List SV) (τ : T2) (Q : SV → T2 → Prop) : dSrtD i env τ Q = kSrt0 Q τ env[i]? := rfl
theorem kSrt0_1 {Q : SV → T2 → Prop} {d : DrT} {p : Addr} {m : List (Key × D)} {cs : List (Addr × Cel)} : kSrt0 Q ⟨d, (p, .dk m) :: cs⟩ (some (.raw (.ref p))) = kSrtD Q ⟨d, (p, .dk m) :: cs⟩ m := by
  show (p = p ∧ _) = _
  simp
/-- d != {} -/
def kNe0 (Q : Bool → T2 → Prop) (τ : T2) : Option SV → Prop
  | some (.raw (.ref p)) => match τ.cs with
    | (q, .dk m) :: cs => q = p ∧ Q (!m.isEmpty) τ
    | _ => False
  | _ => False
def dNe0 (i : Nat) : WT T2 := fun env τ Q => kNe0 Q τ env[i]?
theorem dNe0_k (i : Nat) (env : List SV) (τ : T2) (Q : Bool → T2 → Prop) : dNe0 i env τ Q = kNe0 Q τ env[i]? := rfl
theorem kNe0_1 {Q : Bool → T2 → Prop} {d : DrT} {p : Addr} {m : List (Key × D)} {cs : List (Addr × Cel)} : kNe0 Q ⟨d, (p, .dk m) :: cs⟩ (some (.raw (.ref p))) = Q (!m.isEmpty) ⟨d, (p, .dk m) :: cs⟩ := by
  show (p = p ∧ _) = _
  simp
section
variable {X : Cx} {Ts : List (Addr × Str)} {K : PySem.W.Frag} {G0 : Hp} {F0 : Addr → Prop} {H0 : Hp} {i : Nat} {pos p p2 pos2 apos : Pos} {x e : Expr}
theorem raw_slot {B : Bk} {G H : Hp} {F : Addr → Prop} {σ : L2.St} {env : List SV} {τ : B.T} {v : V} (s : StR B G F σ H env τ) (e : env[i]? = some (.raw v)) : σ[i]? = some (some v) := by
  have e1 : σ[i]?.join = some v := s.e.at' i _ e
  cases z : σ[i]? with
  | none => rw [z] at e1; cases e1
  | some o => rw [z] at e1; exact congrArg some e1
theorem de_newD : PE X (.Dict [] [] pos) (lift ⟨theT Ts, K, G0, F0, H0⟩ dNewD) :=
  pe_imp pe_dnewK fun σ H Q z9 => ex53 z9 fun G F env τ Qd s t fin => fun p hp => by
    obtain ⟨nc, st, ok⟩ := Ok.dnew s.k hp
    exact fin (.raw (.ref p)) _ G _ _ (.ref p) ⟨st, ok⟩ rfl (t p nc)
theorem de_srtD (ho : PE X x (tVar i)) (hg : Gl X "sorted") (hm : X.mg "sorted" = none) (hc : X.calm = true := by rfl)
    (h1 : starEach [x] X.env = (false, eval x X.env) :: starEach [] X.env := by rfl) (h2 : (backTo pos (starEach [] X.env)).any (·.1) = false := by rfl) :
    PE X (.Call (.Name "sorted" p) [x] [] pos) (lift ⟨theT Ts, K, G0, F0, H0⟩ (dSrtD i)) :=
  pe_imp (pe_callB (call_sortedDI hc) hg hm (by decide +kernel) (pa_cons ho pa_nil h1) (by decide) (by decide) h1 h2) fun σ H Q z9 => ex53 z9 fun G F env τ Qd s t fin => by
    unfold dSrtD at t
    cases ei : env[i]? with
    | none => rw [ei] at t; exact t.elim
    | some sv =>
      rw [ei] at t
      unfold kSrt0 at t
      split at t
      · rename_i z pa ez
        cases ez
        obtain ⟨dr, cs0⟩ := τ
        split at t
        · rename_i q m cs ecs
          obtain ⟨rfl, ks, h1, h2, t⟩ := t
          cases ecs
          obtain ⟨kvs, hp, pk⟩ := Ok.dcell s.k
          refine ⟨_, raw_slot s ei, q, kvs, ks, rfl, .inl hp, by rw [pk.keys]; exact h1, h2, fun ys a hperm hs hn => ?_⟩
          exact FinT.ol (B := ⟨theT Ts, K, G0, F0, H0⟩) (G := G) (F := F) (τ := ⟨dr, (q, .dk m) :: cs⟩) (Qv := fun r => Qd r ⟨dr, (q, .dk m) :: cs⟩) (fun r G' F' H' v f res q => fin r _ G' F' H' v f res q) s.k hn (rp_ints ys) (t ys hperm hs)
        · exact t.elim
      · exact t.elim
end
end Z
namespace Z
open PySem PySem.Spec PyProof.Rows L2
/-! ### defs as values -/
def fnD (a : Addr) : D := .dict [(.bool true, .int (a : Nat))]
/-- what is known of a def that stands at f -/
structure FunV (P : Program) (w : World) (K : PySem.W.Frag) (mg : Str → Option Value) (base : Heap) (S : Sto) (k : Nat) (f : Addr) (FF : FW S.T) : Prop where
  ex : ∃ j fd ps, j ≤ k ∧ FnOk P w K mg base CX0 j f fd ps (spD S K FF) ∧ PySem.W.keepIn K (.ref f) = true ∧ Binds K fd ps []
structure FunX (P : Program) (w : World) (K : PySem.W.Frag) (mg : Str → Option Value) (base : Heap) (S : Sto) (k : Nat) (f : Addr) (FX : FWX S.T) : Prop where
  ex : ∃ j fd ps, j ≤ k ∧ FnOk P w K mg base (L2.CX P w) j f fd ps (spDX S K FX) ∧ PySem.W.keepIn K (.ref f) = true ∧ Binds K fd ps []
theorem FunV.of {P : Program} {w : World} {K : PySem.W.Frag} {mg : Str → Option Value} {base : Heap} {S : Sto} {x : Str} {ps : List Str} {j k : Nat} {f : Addr} {FF : FW S.T} (h : Known P w K mg base S x ps j FF) (e : mg x = some (.ref f)) (l : j ≤ k) : FunV P w K mg base S k f FF := by
  obtain ⟨f', fd, F, hm, hk, hb⟩ := h.ex
  rw [e] at hm
  cases hm
  exact ⟨j, fd, ps, l, F, hk, hb⟩
theorem FunX.of {P : Program} {w : World} {K : PySem.W.Frag} {mg : Str → Option Value} {base : Heap} {S : Sto} {x : Str} {ps : List Str} {j k : Nat} {f : Addr} {FX : FWX S.T} (h : KnownX P w K mg base S x ps j FX) (e : mg x = some (.ref f)) (l : j ≤ k) : FunX P w K mg base S k f FX := by
  obtain ⟨f', fd, F, hm, hk, hb⟩ := h.ex
  rw [e] at hm
  cases hm
  exact ⟨j, fd, ps, l, F, hk, hb⟩
def kCallV {T : Type} (fs : List (Addr × FW T)) (ta : WA T) (env : List SV) (Q : SV → T → Prop) (τ : T) (sv : Option SV) : Prop := ∃ f FF, sv = some (.d (fnD f)) ∧ (f, FF) ∈ fs ∧ dCall FF ta env τ Q
def dCallV {T : Type} (i : Nat) (fs : List (Addr × FW T)) (ta : WA T) : W T := fun env τ Q => kCallV fs ta env Q τ env[i]?
theorem dCallV_k {T : Type} (i : Nat) (fs : List (Addr × FW T)) (ta : WA T) (env : List SV) (τ : T) (Q : SV → T → Prop) : dCallV i fs ta env τ Q = kCallV fs ta env Q τ env[i]? := rfl
def kCallVX {T : Type} (fs : List (Addr × FWX T)) (Ed : D → T → Prop) (ta : WA T) (env : List SV) (Q : SV → T → Prop) (τ : T) (sv : Option SV) : Prop := ∃ f FF, sv = some (.d (fnD f)) ∧ (f, FF) ∈ fs ∧ dCallX FF Ed ta env τ Q
def dCallVX {T : Type} (i : Nat) (fs : List (Addr × FWX T)) (Ed : D → T → Prop) (ta : WA T) : W T := fun env τ Q => kCallVX fs Ed ta env Q τ env[i]?
theorem dCallVX_k {T : Type} (i : Nat) (fs : List (Addr × FWX T)) (Ed : D → T → Prop) (ta : WA T) (env : List SV) (τ : T) (Q : SV → T → Prop) : dCallVX i fs Ed ta env τ Q = kCallVX fs Ed ta env Q τ env[i]? := rfl
theorem RoomG.u0 {k : Nat} {A : Around} (h : RoomG k A) : A.units < cLine := by
  have := h.un
  omega
/-! ### walks over what α's tell -/
section
variable {T : Type} {α : Type} {t : Tg} {tt : WT T} {te : W T} {τ : T}
theorem lc_filt' {Q : List D → T → Prop} {env : List SV} (g f : α → D) (p : α → Bool) : ∀ (l : List α) (acc : List D),
    (∀ x ∈ l, ∀ (kc : D → T → Prop) (k0 : T → Prop), (p x = true → kc (f x) τ) → (p x = false → k0 τ) → kTgB tt te kc k0 τ (tgE t (g x) env)) →
    acc.length + l.length ≤ sizeLine → Q (acc ++ (l.filter p).map f) τ → lcW t tt te Q (l.map g) acc env τ
  | [], acc, _, _, q => by
    rw [List.filter_nil, List.map_nil, List.append_nil] at q
    exact q
  | c :: l, acc, h, hl, q => by
    rw [List.length_cons] at hl
    refine turn_k (h c (by simp) _ _ (fun e => ?_) fun e => ?_)
    · rw [List.filter_cons, if_pos e] at q
      refine ⟨by omega, lc_filt' g f p l _ (fun y hy => h y (by simp [hy])) (by rw [List.length_append, List.length_singleton]; omega) ?_⟩
      rw [List.append_assoc]
      exact q
    · rw [List.filter_cons, if_neg (by rw [e]; decide)] at q
      exact lc_filt' g f p l acc (fun y hy => h y (by simp [hy])) (by omega) q
/-- [f(x) for x in l if p(x)] -/
theorem lc_filt {Q : List D → T → Prop} {env : List SV} (g f : α → D) (p : α → Bool) (l : List α)
    (h : ∀ x ∈ l, ∀ (kc : D → T → Prop) (k0 : T → Prop), (p x = true → kc (f x) τ) → (p x = false → k0 τ) → kTgB tt te kc k0 τ (tgE t (g x) env))
    (hl : l.length ≤ sizeLine) (q : Q ((l.filter p).map f) τ) : lcW t tt te Q (l.map g) [] env τ :=
  lc_filt' g f p l [] h (by simpa using hl) q
/-- for x in l -/
theorem for_mapA {tb : WS T} {D : DEnds T} (g : α → Z.D) (P : Nat → List SV → T → Prop) (l : List α) (env : List SV) (τ : T) (h0 : P 0 env τ)
    (h : ∀ j x env τ, l[j]? = some x → P j env τ → ∀ kn : List SV → T → Prop, (∀ env' τ', P (j + 1) env' τ' → kn env' τ') → kFtB tb ⟨kn, D.rt, D.nx, kn⟩ τ (tgE t (g x) env))
    (q : ∀ env τ, P l.length env τ → D.nx env τ) : forW t tb D (l.map g) env τ :=
  for_inv P (l.map g) env τ h0 (fun j x env τ e p kn h1 => by
    rw [List.getElem?_map] at e
    cases z : l[j]? with
    | none => rw [z] at e; cases e
    | some y =>
      rw [z] at e
      cases e
      exact h j y env τ z p kn h1) (by rw [List.length_map]; exact q)
end
end Z
namespace Z
open PySem PySem.Spec PyProof.Rows L2
/-! ### xs.count(d) of a list -/
def dCnt {T : Type} (te : W T) (ta : WA T) : W T := fun env τ Q => te env τ fun r τ1 => ∃ xs, r.lst? = some xs ∧ ta env τ1 fun rs τ2 => ∃ d, rs = [.d d] ∧ PyData.canLayAll0 xs = true ∧ d.canLay0 = true ∧ d.depth ≤ 8 ∧ Q (.d (.int (xs.countP fun y => PyData.eqv y d : Nat))) τ2
def kCnt2 {T : Type} (xs : List D) (Q : SV → T → Prop) (rs : List SV) (τ2 : T) : Prop := ∃ d, rs = [.d d] ∧ PyData.canLayAll0 xs = true ∧ d.canLay0 = true ∧ d.depth ≤ 8 ∧ Q (.d (.int (xs.countP fun y => PyData.eqv y d : Nat))) τ2
def kCntB {T : Type} (ta : WA T) (env : List SV) (Q : SV → T → Prop) (τ1 : T) : Option (List D) → Prop
  | some xs => ta env τ1 (kCnt2 xs Q)
  | none => False
def kCnt1 {T : Type} (ta : WA T) (env : List SV) (Q : SV → T → Prop) (r : SV) (τ1 : T) : Prop := kCntB ta env Q τ1 r.lst?
theorem dCnt_k {T : Type} (te : W T) (ta : WA T) (env : List SV) (τ : T) (Q : SV → T → Prop) : dCnt te ta env τ Q = te env τ (kCnt1 ta env Q) := by
  unfold dCnt
  congr 1
  funext r τ1
  unfold kCnt1 kCntB
  cases r.lst? with
  | none => simp
  | some xs =>
    simp only [Option.some.injEq, exists_eq_left']
    rfl
theorem kCnt1_1 {T : Type} {ta : WA T} {env : List SV} {Q : SV → T → Prop} {xs : List D} {τ : T} : kCnt1 ta env Q (.ol xs) τ = ta env τ (kCnt2 xs Q) := rfl
theorem kCnt1_2 {T : Type} {ta : WA T} {env : List SV} {Q : SV → T → Prop} {xs : List D} {τ : T} : kCnt1 ta env Q (.vw xs) τ = ta env τ (kCnt2 xs Q) := rfl
theorem kCnt1_3 {T : Type} {ta : WA T} {env : List SV} {Q : SV → T → Prop} {xs : List D} {τ : T} : kCnt1 ta env Q (.d (.list xs)) τ = ta env τ (kCnt2 xs Q) := rfl
/-! ### walks over what stands there, turn by turn -/
section
variable {T : Type} {t : Tg} {tt : WT T} {te : W T} {Q : List D → T → Prop} {x y : Z.D} {xs acc : List Z.D} {env : List SV} {τ : T} {tb : WS T} {D : DEnds T}
def kLcY (t : Tg) (tt : WT T) (te : W T) (Q : List Z.D → T → Prop) (xs acc : List Z.D) (env : List SV) : Z.D → T → Prop := fun y τ => acc.length < sizeLine ∧ lcW t tt te Q xs (acc ++ [y]) env τ
def kLcN (t : Tg) (tt : WT T) (te : W T) (Q : List Z.D → T → Prop) (xs acc : List Z.D) (env : List SV) : T → Prop := fun τ => lcW t tt te Q xs acc env τ
theorem lcW_n : lcW t tt te Q [] acc env τ = Q acc τ := rfl
theorem kLcY_e : kLcY t tt te Q xs acc env y τ = (acc.length < sizeLine ∧ lcW t tt te Q xs (acc ++ [y]) env τ) := rfl
theorem kLcN_e : kLcN t tt te Q xs acc env τ = lcW t tt te Q xs acc env τ := rfl
def kForN (t : Tg) (tb : WS T) (D : DEnds T) (xs : List Z.D) : List SV → T → Prop := fun env τ => forW t tb D xs env τ
theorem forW_n : forW t tb D [] env τ = D.nx env τ := rfl
theorem kForN_e : kForN t tb D xs env τ = forW t tb D xs env τ := rfl
theorem szl : 0 < sizeLine ∧ 1 < sizeLine ∧ 2 < sizeLine ∧ 3 < sizeLine ∧ 4 < sizeLine ∧ 5 < sizeLine ∧ 6 < sizeLine ∧ 7 < sizeLine ∧ 8 < sizeLine ∧ 9 < sizeLine := by
  rw [sizeLine_eq]
  decide
end
/-! ### a, b, .. = a list -/
def kUnl2 {T : Type} (D : DEnds T) (τ : T) : Option (List SV) → Prop
  | some env => D.nx env τ
  | none => False
def kUnl1 {T : Type} (ts : List Tg) (D : DEnds T) (env : List SV) (τ : T) : Option (List Z.D) → Prop
  | some xs => kUnl2 D τ (tgEs ts xs env)
  | none => False
def kUnl {T : Type} (ts : List Tg) (D : DEnds T) (env : List SV) (r : SV) (τ : T) : Prop := kUnl1 ts D env τ r.lst?
def dAsgL {T : Type} (ts : List Tg) (te : W T) : WS T := fun D env τ => te env τ (kUnl ts D env)
theorem dAsgL_k {T : Type} (ts : List Tg) (te : W T) (D : DEnds T) (env : List SV) (τ : T) : dAsgL ts te D env τ = te env τ (kUnl ts D env) := rfl
theorem kUnl_1 {T : Type} {ts : List Tg} {D : DEnds T} {env : List SV} {xs : List Z.D} {τ : T} : kUnl ts D env (.ol xs) τ = kUnl2 D τ (tgEs ts xs env) := rfl
theorem kUnl_2 {T : Type} {ts : List Tg} {D : DEnds T} {env : List SV} {xs : List Z.D} {τ : T} : kUnl ts D env (.d (.list xs)) τ = kUnl2 D τ (tgEs ts xs env) := rfl
theorem kUnl2_1 {T : Type} {D : DEnds T} {env : List SV} {τ : T} : kUnl2 D τ (some env) = D.nx env τ := rfl
end Z
namespace Z
open PySem PySem.Spec PyProof.Rows L2
/-! ### list(range(n)), tuple(range(n)) -/
def kRg1B {T : Type} (f : List D → SV) (Q : SV → T → Prop) (x : SV) (τ : T) : Prop := ∃ j : Int, x = .d (.int j) ∧ RgOk 0 j ∧ Q (f (rgI 0 (j - 0).toNat)) τ
def dRg1 {T : Type} (f : List D → SV) (ta : W T) : W T := fun env τ Q => ta env τ (kRg1B f Q)
theorem dRg1_k {T : Type} (f : List D → SV) (ta : W T) (env : List SV) (τ : T) (Q : SV → T → Prop) : dRg1 f ta env τ Q = ta env τ (kRg1B f Q) := rfl
theorem kRg1B_k {T : Type} {f : List D → SV} {j : Int} {Q : SV → T → Prop} {τ : T} : kRg1B f Q (.d (.int j)) τ = (RgOk 0 j ∧ Q (f (rgI 0 (j - 0).toNat)) τ) := by
  refine propext ⟨?_, fun h => ⟨j, rfl, h⟩⟩
  rintro ⟨j', e1, h⟩
  cases e1
  exact h
/-! ### (x,) * n, n 0 and 1 too -/
end Z
namespace Z
open PySem PySem.Spec PyProof.Rows L2
/-! ### cells found by where they stand -/
def kyD : Key → D
  | .inl i => .int i
  | .inr x => .str x
def cget : List (Addr × Cel) → Addr → Option Cel
  | [], _ => none
  | (q, c) :: r, p => if q = p then some c else cget r p
def cset : List (Addr × Cel) → Addr → Cel → List (Addr × Cel)
  | [], _, _ => []
  | (q, c0) :: r, p, c => if q = p then (q, c) :: r else (q, c0) :: cset r p c
theorem cset_keys (p : Addr) (c : Cel) : ∀ cs : List (Addr × Cel), (cset cs p c).map (·.1) = cs.map (·.1)
  | [] => rfl
  | (q, c0) :: r => by
    unfold cset
    by_cases e : q = p
    · rw [if_pos e]; rfl
    · rw [if_neg e, List.map_cons, List.map_cons, cset_keys p c r]
theorem cget_mem {p : Addr} {c : Cel} : ∀ {cs : List (Addr × Cel)}, cget cs p = some c → (p, c) ∈ cs
  | (q, c0) :: r, e => by
    unfold cget at e
    by_cases h : q = p
    · rw [if_pos h] at e
      cases e
      rw [h]
      exact List.mem_cons_self
    · rw [if_neg h] at e
      exact List.mem_cons_of_mem _ (cget_mem e)
theorem cset_mem {p : Addr} {c : Cel} {e : Addr × Cel} : ∀ {cs : List (Addr × Cel)}, (cs.map (·.1)).Nodup → e ∈ cset cs p c → e = (p, c) ∨ (e ∈ cs ∧ e.1 ≠ p)
  | [], _, h => by cases h
  | (q, c0) :: r, nd, h => by
    rw [List.map_cons, List.nodup_cons] at nd
    unfold cset at h
    by_cases z : q = p
    · rw [if_pos z] at h
      rcases List.mem_cons.mp h with rfl | h
      · exact .inl (by rw [z])
      · exact .inr ⟨List.mem_cons_of_mem _ h, fun y => nd.1 (by rw [z, ← y]; exact List.mem_map.mpr ⟨e, h, rfl⟩)⟩
    · rw [if_neg z] at h
      rcases List.mem_cons.mp h with rfl | h
      · exact .inr ⟨List.mem_cons_self, z⟩
      · rcases cset_mem nd.2 h with h | ⟨h1, h2⟩
        · exact .inl h
        · exact .inr ⟨List.mem_cons_of_mem _ h1, h2⟩
theorem mem_uniq {p : Addr} {c c' : Cel} : ∀ {cs : List (Addr × Cel)}, (cs.map (·.1)).Nodup → (p, c) ∈ cs → (p, c') ∈ cs → c = c'
  | (q, c0) :: r, nd, h, h' => by
    rw [List.map_cons, List.nodup_cons] at nd
    rcases List.mem_cons.mp h with e | g <;> rcases List.mem_cons.mp h' with e' | g'
    · cases e; cases e'; rfl
    · cases e; exact (nd.1 (List.mem_map.mpr ⟨(p, c'), g', rfl⟩)).elim
    · cases e'; exact (nd.1 (List.mem_map.mpr ⟨(p, c), g, rfl⟩)).elim
    · exact mem_uniq nd.2 g g'
theorem mem_cset {p : Addr} {c c0 : Cel} : ∀ {cs : List (Addr × Cel)}, cget cs p = some c0 → (p, c) ∈ cset cs p c
  | (q, c1) :: r, e => by
    unfold cget at e
    unfold cset
    by_cases h : q = p
    · rw [if_pos h, h]; exact List.mem_cons_self
    · rw [if_neg h] at e ⊢
      exact List.mem_cons_of_mem _ (mem_cset e)
theorem mem_cset' {p : Addr} {c : Cel} {e : Addr × Cel} : ∀ {cs : List (Addr × Cel)}, e ∈ cs → e.1 ≠ p → e ∈ cset cs p c
  | (q, c1) :: r, h, n => by
    unfold cset
    rcases List.mem_cons.mp h with rfl | h
    · rw [if_neg n]; exact List.mem_cons_self
    · by_cases z : q = p
      · rw [if_pos z]; exact List.mem_cons_of_mem _ h
      · rw [if_neg z]; exact List.mem_cons_of_mem _ (mem_cset' h n)
section
variable {Ts : List (Addr × Str)} {K : PySem.W.Frag} {τ τ' : T2} {G H G' H' : Hp} {F F' : Addr → Prop} {p : Addr}
theorem celF_cset {cs : List (Addr × Cel)} {c c' : Cel} (nd : (cs.map (·.1)).Nodup) (e : cget cs p = some c) (ow : ∀ q, ¬ c.own q) (ow' : ∀ q, ¬ c'.own q) (a : Addr) : celF (cset cs p c') a ↔ celF cs a := by
  constructor
  · rintro ⟨x, hx, q⟩
    rcases cset_mem nd hx with rfl | ⟨h, _⟩
    · exact ⟨_, cget_mem e, q.imp id fun z => (ow' _ z).elim⟩
    · exact ⟨x, h, q⟩
  · rintro ⟨x, hx, q⟩
    by_cases z : x.1 = p
    · rcases q with q | q
      · exact ⟨_, mem_cset e, .inl (z.symm.trans q)⟩
      · have : x = (p, c) := by
          obtain ⟨x1, x2⟩ := x
          cases z
          rw [mem_uniq nd hx (cget_mem e)]
        subst this
        exact (ow _ q).elim
    · exact ⟨x, mem_cset' hx z, q⟩
theorem Ok.celR {cs : List (Addr × Cel)} {d : DrT} {c : Cel} (k : Ok (theT Ts) K ⟨d, cs⟩ G F H) (e : cget cs p = some c) : CelR K G H p c := by
  have r : TR Ts K ⟨d, cs⟩ G F H := k.r
  exact r.cs _ (cget_mem e)
theorem Ok.cput {cs : List (Addr × Cel)} {d : DrT} {c c' : Cel} {o : HO} (k : Ok (theT Ts) K ⟨d, cs⟩ G F H) (e : cget cs p = some c) (ow : ∀ q, ¬ c.own q) (ow' : ∀ q, ¬ c'.own q) (h : CelR K G (upd H p o) p c')
    (nt : ∀ ps, o ≠ .tbl ps := by intro _ z; cases z) (nx : ∀ φ, o ≠ .ext φ := by intro _ z; cases z) : Step G F H G F (upd H p o) ∧ Ok (theT Ts) K ⟨d, cset cs p c'⟩ G F (upd H p o) := by
  have r : TR Ts K ⟨d, cs⟩ G F H := k.r
  have hm := cget_mem e
  obtain ⟨o0, hp, no1, no2⟩ := (r.cs _ hm).some
  have fp : F p := (r.f p).mpr (.inr (.inl ⟨_, hm, .inl rfl⟩))
  have eF : ∀ a, F a ↔ tF Ts ⟨d, cset cs p c'⟩ a := fun a => (r.f a).trans (or_congr Iff.rfl (or_congr (celF_cset r.nd e ow ow' a).symm Iff.rfl))
  have gp : G p = none := k.gf p fp
  refine ⟨⟨Same.refl G, fun a o nf e => by rw [upd_ne (fun z => nf (by rw [z]; exact fp))]; exact e, fun a o e => .inl e, fun a h => .inl h, fun a h => h, fun a h => ?_⟩, ⟨fun a o e => ?_, k.gf, fun a h => ?_, ⟨eF, ?_, fun e he => ?_, by rw [cset_keys]; exact r.nd, fun q hq => ?_⟩, k.nt' nt, k.nx' nx⟩⟩
  · by_cases q : a = p
    · subst q; rw [upd_same]; exact fun z => by cases z
    · rw [upd_ne q]; exact h
  · rw [upd_ne (ne_of_none e gp)]; exact k.same a o e
  · by_cases q : a = p
    · subst q; rw [upd_same]; exact fun z => by cases z
    · rw [upd_ne q]; exact k.fh a h
  · have hd := r.dr
    show drP K (cset cs p c') G _ d
    cases d with
    | off => trivial
    | on a b =>
      have na : a ≠ p := fun z => hd.2 _ hm z.symm
      refine ⟨hd.1.mono (Same.refl G) (upd_ne na), fun e he => ?_⟩
      rcases cset_mem r.nd he with rfl | ⟨he, _⟩
      · exact Ne.symm na
      · exact hd.2 e he
  · rcases cset_mem r.nd he with rfl | ⟨he, ne⟩
    · exact h
    · have z := r.cs e he
      refine z.mono (Same.refl G) (upd_ne ne) fun q hq => upd_ne fun y => ?_
      have := z.own hq
      rw [y, hp] at this
      exact no2 _ (Option.some.inj this)
  · have z := r.tb q hq
    refine z.mono (Same.refl G) (upd_ne fun y => ?_)
    obtain ⟨ps, h1, _⟩ := z
    rw [y, hp] at h1
    exact no1 _ (Option.some.inj h1)
theorem Ok.cnew {c : Cel} {o : HO} (k : Ok (theT Ts) K τ G F H) (n : H p = none) (ow : ∀ q, ¬ c.own q) (hc : CelR K G (upd H p o) p c) (nt : ∀ ps, o ≠ .tbl ps := by intro _ z; cases z) (nx : ∀ φ, o ≠ .ext φ := by intro _ z; cases z) : p ∉ τ.cs.map (·.1) ∧
    Step G F H G (tF Ts ⟨τ.dr, (p, c) :: τ.cs⟩) (upd H p o) ∧ Ok (theT Ts) K ⟨τ.dr, (p, c) :: τ.cs⟩ G (tF Ts ⟨τ.dr, (p, c) :: τ.cs⟩) (upd H p o) := by
  have r : TR Ts K τ G F H := k.r
  have nF : ¬ F p := fun z => k.fh p z n
  have nc : p ∉ τ.cs.map (·.1) := fun z => by
    obtain ⟨e, he, q⟩ := List.mem_map.mp z
    exact nF ((r.f p).mpr (.inr (.inl ⟨e, he, .inl q⟩)))
  have ne : ∀ a, F a → a ≠ p := fun a h z => by subst z; exact nF h
  have up : ∀ a, F a → (upd H p o) a = H a := fun a h => upd_ne (ne a h)
  have gp : G p = none := by
    cases q : G p with
    | none => rfl
    | some o => rw [k.same p o q] at n; cases n
  have inF : ∀ a, tF Ts τ a → F a := fun a => (r.f a).mpr
  have spl : ∀ a, tF Ts ⟨τ.dr, (p, c) :: τ.cs⟩ a → F a ∨ a = p := fun a h => by
    rcases h with h | ⟨e, he, q⟩ | h
    · exact .inl (inF a (.inl h))
    · rcases List.mem_cons.mp he with rfl | he
      · rcases q with q | q
        · exact .inr q.symm
        · exact (ow _ q).elim
      · exact .inl (inF a (.inr (.inl ⟨e, he, q⟩)))
    · exact .inl (inF a (.inr (.inr h)))
  have wid : ∀ a, F a → tF Ts ⟨τ.dr, (p, c) :: τ.cs⟩ a := fun a h => by
    rcases (r.f a).mp h with h | ⟨e, he, q⟩ | h
    · exact .inl h
    · exact .inr (.inl ⟨e, List.mem_cons_of_mem _ he, q⟩)
    · exact .inr (.inr h)
  refine ⟨nc, ⟨Same.refl G, fun a o _ e => by rw [upd_ne (ne_of_none e n)]; exact e, fun a o e => .inl e, fun a h => ?_, wid, fun a h => ?_⟩, ⟨fun a o e => ?_, fun a h => ?_, fun a h => ?_, ⟨fun a => Iff.rfl, ?_, fun e he => ?_, ?_, fun q hq => ?_⟩, k.nt' nt, k.nx' nx⟩⟩
  · rcases spl a h with h | h
    · exact .inl h
    · exact .inr (by rw [h]; exact n)
  · by_cases q : a = p
    · subst q; exact absurd n h
    · rw [upd_ne q]; exact h
  · rw [upd_ne (ne_of_none (k.same a o e) n)]; exact k.same a o e
  · rcases spl a h with h | h
    · exact k.gf a h
    · rw [h]; exact gp
  · rcases spl a h with h | h
    · rw [up a h]; exact k.fh a h
    · rw [h, upd_same]; exact fun z => by cases z
  · have hd := r.dr
    show drP K ((p, c) :: τ.cs) G _ τ.dr
    cases q : τ.dr with
    | off => trivial
    | on a b =>
      rw [q] at hd
      have fa : F a := inF a (.inl (by rw [q]; rfl))
      refine ⟨hd.1.mono (Same.refl G) (up a fa), fun e he => ?_⟩
      rcases List.mem_cons.mp he with rfl | he
      · exact (ne a fa).symm
      · exact hd.2 e he
  · rcases List.mem_cons.mp he with rfl | he
    · exact hc
    · exact (r.cs e he).mono (Same.refl G) (up _ (inF _ (.inr (.inl ⟨e, he, .inl rfl⟩)))) fun q hq => up _ (inF _ (.inr (.inl ⟨e, he, .inr hq⟩)))
  · rw [List.map_cons]; exact List.nodup_cons.mpr ⟨nc, r.nd⟩
  · exact (r.tb q hq).mono (Same.refl G) (up _ (inF _ (.inr (.inr (List.mem_map.mpr ⟨q, hq, rfl⟩)))))
end
/-! ### tables with tuples of ints as keys -/
abbrev PrT (K : PySem.W.Frag) (G : Hp) : List (List Key × V) → List (List Key × D) → Prop := Paired fun (x : List Key × V) (y : List Key × D) => x.1 = y.1 ∧ Rp K G x.2 y.2
def putT (m : List (List Key × D)) (k : List Key) (v : D) : List (List Key × D) := if (m.any fun kv => decide (kv.1 = k)) = true then m.map (fun kv => if kv.1 = k then (kv.1, v) else kv) else m ++ [(k, v)]
section
variable {K : PySem.W.Frag} {G G' : Hp}
theorem PrT.any : ∀ {kvs : List (List Key × V)} {m : List (List Key × D)} (k : List Key), PrT K G kvs m → (kvs.any fun kv => decide (kv.1 = k)) = m.any fun kv => decide (kv.1 = k)
  | _, _, _, .nil => rfl
  | _, _, k, .cons h t => by rw [List.any_cons, List.any_cons, h.1, PrT.any k t]
theorem PrT.repl {v : V} {d : D} (r : Rp K G v d) (k : List Key) : ∀ {kvs : List (List Key × V)} {m : List (List Key × D)}, PrT K G kvs m → PrT K G (kvs.map fun kv => if kv.1 = k then (kv.1, v) else kv) (m.map fun kv => if kv.1 = k then (kv.1, d) else kv)
  | _, _, .nil => .nil
  | _, _, .cons (a := a) (b := b) h t => by
    rw [List.map_cons, List.map_cons]
    refine .cons ?_ (PrT.repl r k t)
    by_cases e : a.1 = k
    · rw [if_pos e, if_pos (by rw [← h.1]; exact e)]
      exact ⟨h.1, r⟩
    · rw [if_neg e, if_neg (by rw [← h.1]; exact e)]
      exact h
theorem PrT.app : ∀ {a b : List (List Key × V)} {m n : List (List Key × D)}, PrT K G a m → PrT K G b n → PrT K G (a ++ b) (m ++ n)
  | _, _, _, _, .nil, s => s
  | _, _, _, _, .cons h t, s => .cons h (PrT.app t s)
theorem PrT.put {kvs : List (List Key × V)} {m : List (List Key × D)} {v : V} {d : D} (h : PrT K G kvs m) (r : Rp K G v d) (k : List Key) : PrT K G (putK kvs k v) (putT m k d) := by
  unfold putK putT
  rw [h.any k]
  split
  · exact h.repl r k
  · exact h.app (.cons ⟨rfl, r⟩ .nil)
theorem PrT.length : ∀ {kvs : List (List Key × V)} {m : List (List Key × D)}, PrT K G kvs m → kvs.length = m.length
  | _, _, .nil => rfl
  | _, _, .cons _ t => congrArg Nat.succ (PrT.length t)
end
/-- no constant of the written part is a tuple of ints, but an empty one -/
def isIntV : Value → Bool
  | .int _ _ => true
  | _ => false
def intFree (K : PySem.W.Frag) : Bool := K.all fun e => match e.2.data with
  | .seq its _ => its.toList.isEmpty || its.toList.any fun v => !isIntV v
  | _ => true
theorem lookup_mem {K : PySem.W.Frag} {a : Addr} {o : Obj} : K.lookup a = some o → (a, o) ∈ K := by
  induction K with
  | nil => intro h; cases h
  | cons x r ih =>
    obtain ⟨b, u⟩ := x
    intro h
    rw [List.lookup_cons] at h
    by_cases e : (a == b) = true
    · rw [e] at h
      cases h
      rw [eq_of_beq e]
      exact List.mem_cons_self
    · have e : (a == b) = false := by simpa using e
      rw [e] at h
      exact List.mem_cons_of_mem _ (ih h)
theorem ints_vals : ∀ {ks : List Int} {its : List Value}, Vals (ks.map V.int) its → its.all isIntV = true
  | [], _, .nil => rfl
  | k :: ks, _, .cons h t => by
    obtain ⟨t', rfl⟩ := (show ∃ t, _ = Value.int k t from h)
    rw [List.all_cons, ints_vals t]
    rfl
theorem rp_intsV {K : PySem.W.Frag} {G : Hp} : ∀ {ks : List Int} {vs : List V}, RpAll K G vs (ks.map PyData.int) → vs = ks.map V.int
  | [], _, .nil => rfl
  | k :: ks, _, .cons h t => by
    rw [rp_intsV t]
    cases h
    rfl
/-- a tuple of ints is tracked -/
theorem tup_at {K : PySem.W.Frag} {G H : Hp} {v : V} {ks : List Int} (nf : intFree K = true) (sm : Same G H) (r : Rp K G v (.tuple (ks.map .int))) : ∃ b, v = .ref b ∧ H b = some (.tup (ks.map V.int)) := by
  cases r with
  | @tup a vs _ h ra =>
    have ev := rp_intsV ra
    subst ev
    refine ⟨a, rfl, ?_⟩
    rcases h with h | ⟨o, its, n, h1, h2, h3, h4, h5, h6⟩
    · exact sm _ _ h
    · have hm := lookup_mem h1
      have := (List.all_eq_true.mp nf) _ hm
      dsimp only at this
      rw [h3] at this
      dsimp only at this
      have hi := ints_vals h5
      rw [Bool.or_eq_true, List.any_eq_true] at this
      rcases this with h | ⟨x, hx, hn⟩
      · rw [List.isEmpty_iff] at h
        rw [h] at h5
        cases ks with
        | nil => exact absurd rfl h6
        | cons k ks => cases h5
      · have := (List.all_eq_true.mp hi) x hx
        rw [this] at hn
        cases hn
/-! ### a def that is never called -/
theorem u1 {n : Nat} (h : n + 64 + 1 < cLine) : n + 1 < cLine := by omega
end Z
namespace Z
open PySem PySem.Spec PyProof.Rows L2
/-! ### a table of two tables: {a: {}, b: {}} -/
/-- what is put into the table at q -/
def kPutC (Q : List (Addr × Cel) → Prop) (cs : List (Addr × Cel)) (q : Addr) (key v : D) : Prop := match cget cs q with
  | some (.dt m) => ∃ ks : List Int, key = .tuple (ks.map .int) ∧ m.length < sizeLine ∧ Q (cset cs q (.dt (putT m (ks.map Sum.inl) v)))
  | some (.dk m) => ∃ k, dKey key = some k ∧ m.length < sizeLine ∧ Q (cset cs q (.dk (putD m k v)))
  | _ => False
/-! ### what is never come to -/
/-! ### x in a list of data -/
/-! ### a, b = [], e -/
end Z
/-! DnC: calls by the arguments' names, nothing by position -/
namespace Z
open PySem PySem.Spec PyProof.Rows L2
/-- the values in the parameters' order -/
def kwg (sw : Bool) {α : Type} (l : List α) : List α := if sw then l.reverse else l
def KwB (K : PySem.W.Frag) (fd : FuncData) (ps ks : List Str) (sw : Bool) : Prop := KBinds K fd ps ks (fun us ws => us ++ kwg sw ws) (fun us ws => us ++ kwg sw ws)
structure KnKX (P : Program) (w : World) (K : PySem.W.Frag) (mg : Str → Option Value) (base : Heap) (S : Sto) (x : Str) (ps ks : List Str) (sw : Bool) (k : Nat) (FX : FWX S.T) : Prop where
  ex : ∃ f fd, FnOk P w K mg base (L2.CX P w) k f fd ps (spDX S K FX) ∧ mg x = some (.ref f) ∧ PySem.W.keepIn K (.ref f) = true ∧ KwB K fd ps ks sw
structure FunKX (P : Program) (w : World) (K : PySem.W.Frag) (mg : Str → Option Value) (base : Heap) (S : Sto) (ks : List Str) (sw : Bool) (k : Nat) (f : Addr) (FX : FWX S.T) : Prop where
  ex : ∃ j fd ps, j ≤ k ∧ FnOk P w K mg base (L2.CX P w) j f fd ps (spDX S K FX) ∧ PySem.W.keepIn K (.ref f) = true ∧ KwB K fd ps ks sw
theorem FunKX.of {P : Program} {w : World} {K : PySem.W.Frag} {mg : Str → Option Value} {base : Heap} {S : Sto} {x : Str} {ps ks : List Str} {sw : Bool} {j k : Nat} {f : Addr} {FX : FWX S.T} (h : KnKX P w K mg base S x ps ks sw j FX) (e : mg x = some (.ref f)) (l : j ≤ k) : FunKX P w K mg base S ks sw k f FX := by
  obtain ⟨f', fd, F, hm, hk, hb⟩ := h.ex
  rw [e] at hm
  cases hm
  exact ⟨j, fd, ps, l, F, hk, hb⟩
section
variable {X : Cx} {B : Bk} {e : Expr} {pos p kpos : Pos} {kws : List Keyword} {t : W B.T} {ta tk : WA B.T} {FX : FWX B.S.T} {Ed : Z.D → B.T → Prop} {E : XK} {ps ks : List Str} {k : Nat} {x : Str} {sw : Bool} {nm : Option Str}
theorem pk_imp {t t' : TA} (h : PK X kws t) (i : ∀ σ H Q, t' σ H Q → t σ H Q) : PK X kws t' := ⟨fun pos pins s σ H Q I z => h.run pos pins s σ H Q I (i σ H Q z)⟩
theorem dk_nil : PK X [] (liftA B dNil) := pk_imp pk_nil fun σ H Q z9 => ex53 z9 fun G F env τ Qd s t k => k [] τ G F H [] s.refl .nil t
theorem dk_cons (he : PE X e (lift B t)) (hr : PK X kws (liftA B ta)) : PK X (⟨nm, e, kpos⟩ :: kws) (liftA B (dCons t ta)) :=
  pk_imp (pk_cons he hr) fun σ H Q z9 => ex53 z9 fun G F env τ Qd s t k => ⟨G, F, env, τ, _, s, t, fun r τ1 G1 F1 H1 v f1 r1 q0 => by
    obtain ⟨a, e, q⟩ := kCo_of q0
    obtain ⟨G2, f2, sm, r2⟩ := r1.arg f1 e
    exact ⟨G2, F1, env, τ1, _, s.fin f2, q, fun rs τ2 G3 F3 H3 vs f3 r3 q3 => k (a :: rs) τ2 G3 F3 H3 (v :: vs) (f2.trans f3) (.cons (r2.step f3.s) (r3.back (dead f2.s.dom))) q3⟩⟩
theorem ResAll.append {K : PySem.W.Frag} {Ha G : Hp} {F : Addr → Prop} {H : Hp} : ∀ {rs qs : List SV} {vs us : List V}, ResAll K Ha G F H rs vs → ResAll K Ha G F H qs us → ResAll K Ha G F H (rs ++ qs) (vs ++ us)
  | _, _, _, _, .nil, h => h
  | _, _, _, _, .cons a t, h => .cons a (t.append h)
end
end Z
/-! DnD: repr of tuples with {} inside -/
namespace Z
open PySem PySem.Spec PyProof.Rows L2
mutual
/-- no list within, each dict is empty -/
def tdk : Z.D → Bool
  | .list _ => false
  | .dict [] => true
  | .dict (_ :: _) => false
  | .tuple xs => tdkAll xs
  | .none => true
  | .bool _ => true
  | .int _ => true
  | .str _ => true
def tdkAll : List Z.D → Bool
  | [] => true
  | x :: xs => tdk x && tdkAll xs
end
/-! ### what can be told so -/
structure Rt (m w : Nat) (d : Z.D) : Prop where
  tk : tdk d = true
  sh : d.showable = true
  dp : d.depth ≤ m
  st : d.leavesShort 64 = true
  wt : d.weight ≤ w
theorem Rt.le {m w m' w' : Nat} {d : Z.D} (h : Rt m w d) (hm : m ≤ m') (hw : w ≤ w') : Rt m' w' d := ⟨h.tk, h.sh, Nat.le_trans h.dp hm, h.st, Nat.le_trans h.wt hw⟩
theorem Rt.of {m w : Nat} {d : Z.D} (h : Rb m w d) (t : tdk d = true) : Rt m w d := ⟨t, h.sh, h.dp, PyData.leavesShort_of_canLay0 64 d h.lay h.st, h.wt⟩
theorem Rt.emp : Rt 1 0 (.dict []) := ⟨by rfl, by rfl, by decide, by rfl, by decide⟩
theorem Rt.all {m w : Nat} : ∀ {xs : List Z.D}, (∀ x ∈ xs, Rt m w x) → tdkAll xs = true ∧ PyData.showableAll xs = true ∧ PyData.depthAll xs ≤ m ∧ PyData.leavesShortAll 64 xs = true ∧ PyData.weightAll xs ≤ (w + 1) * xs.length
  | [], _ => ⟨rfl, rfl, Nat.zero_le _, rfl, Nat.zero_le _⟩
  | x :: r, h => by
    have hx := h x List.mem_cons_self
    obtain ⟨h1, h2, h3, h4, h5⟩ := Rt.all (xs := r) fun y hy => h y (List.mem_cons_of_mem _ hy)
    have := hx.dp
    have := hx.wt
    refine ⟨by rw [tdkAll, hx.tk, h1]; rfl, by rw [PyData.showableAll, hx.sh, h2]; rfl, by rw [PyData.depthAll]; omega, by rw [PyData.leavesShortAll, hx.st, h4]; rfl, ?_⟩
    rw [PyData.weightAll, List.length_cons, Nat.mul_add, Nat.mul_one]
    omega
theorem Rt.tup {m w n : Nat} {xs : List Z.D} (h : ∀ x ∈ xs, Rt m w x) (hl : xs.length ≤ n) : Rt (m + 1) ((w + 1) * n) (.tuple xs) := by
  obtain ⟨h1, h2, h3, h4, h5⟩ := Rt.all h
  have := Nat.mul_le_mul_left (w + 1) hl
  exact ⟨by rw [tdk]; exact h1, by rw [PyData.showable]; exact h2, by rw [PyData.depth]; omega, by rw [PyData.leavesShort]; exact h4, by rw [PyData.weight]; omega⟩
end Z
/-! DnE: instances of the program's own classes, as cells -/
namespace Z
open PySem PySem.Spec PyProof.Rows L2
/-! ### fields -/
def putS (f : Str) (v : SV) : List (Str × SV) → List (Str × SV)
  | [] => [(f, v)]
  | (g, x) :: r => if g = f then (g, v) :: r else (g, x) :: putS f v r
abbrev PrI (K : PySem.W.Frag) (G : Hp) : List (Str × V) → List (Str × SV) → Prop := Paired (fun (x : Str × V) (y : Str × SV) => x.1 = y.1 ∧ FvR K G x.2 y.2)
theorem PrI.put {K : PySem.W.Frag} {G : Hp} {f : Str} {v : V} {s : SV} (r : FvR K G v s) : ∀ {fv : List (Str × V)} {fs : List (Str × SV)}, PrI K G fv fs → PrI K G (putF f v fv) (putS f s fs)
  | _, _, .nil => .cons ⟨rfl, r⟩ .nil
  | _, _, .cons (a := a) (b := b) h t => by
    obtain ⟨g, x⟩ := a
    obtain ⟨g', y⟩ := b
    obtain ⟨h1, h2⟩ := h
    have h1 : g = g' := h1
    subst h1
    unfold putF putS
    by_cases e : g = f
    · rw [if_pos e, if_pos e]; exact .cons ⟨rfl, r⟩ t
    · rw [if_neg e, if_neg e]; exact .cons ⟨rfl, h2⟩ (PrI.put r t)
theorem PrI.length {K : PySem.W.Frag} {G : Hp} : ∀ {fv : List (Str × V)} {fs : List (Str × SV)}, PrI K G fv fs → fv.length = fs.length
  | _, _, .nil => rfl
  | _, _, .cons _ t => congrArg Nat.succ (PrI.length t)
theorem PrI.mono {K : PySem.W.Frag} {G G' : Hp} (sm : Same G G') {fv : List (Str × V)} {fs : List (Str × SV)} (h : PrI K G fv fs) : PrI K G' fv fs := Paired.mapP h fun _ _ z => ⟨z.1, z.2.mono sm⟩
/-! ### cells of its own are forgotten at a def's end -/
theorem FnOk.drop {P : Program} {w : World} {K : PySem.W.Frag} {mg : Str → Option Value} {base : Heap} {Ts : List (Addr × Str)} {k : Nat} {f : Addr} {fd : FuncData} {ps : List Str} {FF : FW T2} (F : FnOk P w K mg base CX0 k f fd ps (spD (theT Ts) K (dropF FF))) : FnOk P w K mg base CX0 k f fd ps (spD (theT Ts) K FF) :=
  ⟨fun vs H Q E h => F.len vs H Q E (spD_drop h), fun A st s H as us vs Q E rg z b v h => F.run A st s H as us vs Q E rg z b v (spD_drop h)⟩
end Z
/-! DnF: fields that hold a list of one's own -/
/-! DnG: three comparisons in a row, text.split(sign), {..}[w], X(), o.f == [] -/
/-! ### set(xs), xs a list of ints, in an order that is known -/
namespace Z
open PySem PySem.Spec PySem.Calls PyProof.Rows L2
section
variable {P : Program} {w : World} {A : Around} {E : Value → Shared → Prop} {s : Shared}
/-- a set object with nothing in it -/
abbrev set0 (w : World) : Obj := { cls := .type "set", dict := none, data := .set #[] 0 (.fresh 0 0 (!w.params.followText "set-order")) }
set_option maxRecDepth 100000 in
set_option maxHeartbeats 3200000 in
theorem call_set_lstI {l : Addr} {its : Array Value} (ns : List Int) {Q : Value → Shared → Prop} (nh : A.handled = none) (hl : s.heap.IsList l its) (hi : IntsAre its.toList ns) (hb : ns.length + 1 < scanBound)
    (fin : ∀ (h' : Heap) (tk c : Nat), SetR w h' s.heap.objs.size (fun j => decide (j ∈ ns)) c → c ≤ ns.length → (∀ b o, s.heap.get? b = some o → h'.get? b = some o) → Q (.ref s.heap.objs.size) { s with heap := h', toks := tk }) :
    wpAny (model P w) A (call (.type "set") [.ref l]) Q E s := by
  have sz : its.size = ns.length := by
    have := IntsAre.length hi
    rwa [Array.length_toList] at this
  obtain ⟨c0, tl, hmro⟩ := PySem.F.called_set.mro
  have hmade := PySem.F.called_set.made
  have hsub := PySem.F.called_set.sub
  refine wpAny_call (codeAny_of_tree ?_)
  show wpAny _ _ (callAny (.type "set") _) _ _ _
  refine wpAny_pure ⟨Code.quiet_builtin _ (by decide +kernel), codeAny_builtin PySem.F.entry_type_call ?_⟩
  rw [Around.under_plain (weight_type_call_type "set" [.ref l] []) rfl]
  have t1 := PySem.F.called_set.notType
  have t2 := PySem.F.called_set.canCreate
  have t3 := PySem.F.typeCall_set_1 (.ref l)
  repeat (any_goals (first | assumption | wp_step))
  refine codeAny_mono (code_set_led1 (.ref l) (E := E) (Q₁ := fun y s1 => y = .ref s.heap.objs.size ∧ s1 = { s with heap := s.heap.push (set0 w) }) ⟨rfl, rfl⟩) fun r s1 hr => ?_
  match r, hr with
  | .error e, hr => exact hr
  | .ok (.ret y), hr =>
    obtain ⟨rfl, rfl⟩ := hr
    have at0 : (s.heap.push (set0 w)).get? s.heap.objs.size = some (set0 w) := Heap.get?_push_size _ rfl
    have ty : Shared.TypeIs { s with heap := s.heap.push (set0 w) } (.ref s.heap.objs.size) "set" := ⟨_, at0, rfl⟩
    have li := PySem.F.called_set.init.lookup
    have bi := PySem.F.called_set.init.bind (.ref s.heap.objs.size)
    repeat (any_goals (first | assumption | wp_step))
    refine codeAny_mono (codeAny_call_builtin (R := wants (fun r s2 => r = .none ∧ ∃ h' tk c, s2 = { s with heap := h', toks := tk } ∧ SetR w h' s.heap.objs.size (fun j => decide (j ∈ ns)) c ∧ c ≤ ns.length ∧ (∀ b o, s.heap.get? b = some o → h'.get? b = some o)) E)
      PySem.F.called_set.init.plain PySem.F.entry_set_init (check_set_init_1 ty ?_)) fun r2 s2 hr2 => ?_
    · obtain ⟨ol, h1, h2, nl, h3⟩ := hl
      obtain ⟨c1, d1, dat, sl⟩ := ol
      simp only at h2 h3
      subst h2; subst h3
      have lt := Heap.lt_size h1
      have l1 : (s.heap.push (set0 w)).IsList l its := ⟨_, Heap.get?_push_of_some _ h1, rfl, nl, rfl⟩
      have u1 := PySem.F.sub_list_set
      have u2 := PySem.F.sub_list_frozenset
      have u3 : (Value.type "list" == Value.type "dict") = false := by decide
      have u4 := Heap.get?_push_of_some (set0 w) h1
      unfold Builtin.«set.__init__» noKeywords Builtin.Frozenset.updateFrom
      generalize gp : pyIter = PI
      wp_walk
      subst gp
      refine wpAny_pyIter_list l1 (wpAny_bind (wpAny_runValue ?_))
      have nh3 : A.in1.in1.in1.handled = none := by simp [nh]
      have ps : (s.heap.push (set0 w)).objs.size = s.heap.objs.size + 1 := Heap.size_push ..
      have ne : l ≠ (s.heap.push (set0 w)).objs.size := by rw [ps]; exact Nat.ne_of_lt (Nat.lt_succ_of_lt lt)
      have nm : s.heap.objs.size ∉ [(s.heap.push (set0 w)).objs.size, l] := by
        rw [ps]
        simp only [List.mem_cons, List.not_mem_nil, or_false, not_or]
        exact ⟨Nat.ne_of_lt (Nat.lt_succ_self _), Nat.ne_of_gt lt⟩
      have val : ∀ (i : Nat) (v : Value), its[i]? = some v → ∃ k t, ns[i]? = some k ∧ v = .int k t := fun i v hv => by
        have lt2 : i < ns.length := by rw [← sz]; exact (Array.getElem?_eq_some_iff.mp hv).1
        obtain ⟨t, e⟩ := IntsAre.int_at hi i v (by rw [Array.getElem?_toList]; exact hv)
        refine ⟨ns[i], t, List.getElem?_eq_getElem lt2, ?_⟩
        rw [e, List.getD_eq_getElem?_getD, List.getElem?_eq_getElem lt2]
        rfl
      refine set_update_ints ((Walks.list nh3 _ l ne its).toS) s.heap.objs.size nm ns sz hb val (its.size - 0) 0 _ (by omega) (Nat.zero_le _)
        ⟨⟨_, Heap.get?_push_size _ rfl, rfl, rfl⟩, l1.push _⟩ ⟨0, Nat.le_refl 0, setR_new_at (Heap.get?_push_of_some _ at0)⟩ fun s3 c3 mv hc3 R3 => ?_
      obtain ⟨h4, g4, d4, k4, o4⟩ := s3
      have eg : g4 = s.gens := mv.gens
      have ed : d4 = s.drawn := mv.drawn
      have eo : o4 = s.os := mv.os
      subst eg; subst ed; subst eo
      rw [sz] at hc3
      refine wpAny_pure ?_
      show wpAny _ _ (ret Value.none) _ _ _
      refine wpAny_pure ⟨rfl, h4, k4, c3, rfl, R3, hc3, fun b o e => ?_⟩
      have lb := Heap.lt_size e
      refine mv.heap b o ?_ (Heap.get?_push_of_some _ (Heap.get?_push_of_some _ e))
      rw [ps]
      simp only [List.mem_cons, List.not_mem_nil, or_false, not_or]
      exact ⟨Nat.ne_of_lt lb, Nat.ne_of_lt (Nat.lt_succ_of_lt lb)⟩
    · match r2, hr2 with
      | .error e, hr2 => exact hr2
      | .ok (.ret y), hr2 =>
        obtain ⟨rfl, h', tk, c', rfl, R', hc', k'⟩ := hr2
        repeat (any_goals (first | assumption | wp_step))
        exact fin _ _ _ R' hc' k'
      | .ok .next, hr2 => exact hr2.elim
      | .ok .brk, hr2 => exact hr2.elim
      | .ok .cont, hr2 => exact hr2.elim
  | .ok .next, hr => exact hr.elim
  | .ok .brk, hr => exact hr.elim
  | .ok .cont, hr => exact hr.elim
end
/-! ### sorted(set(xs)) -/
def tSrtSet (K : PySem.W.Frag) (te : TE) : TE := fun σ H Q => te σ H fun x H1 => ∃ (l : Addr) (ns : List Int), x = .ref l ∧ SqL K H1 l (ns.map V.int) ∧ ns.length < 64 ∧ ∀ (ms : List Int) (p : Addr), ms.Pairwise (· < ·) → (∀ k, k ∈ ms ↔ k ∈ ns) → H1 p = none → Q (.ref p) (upd H1 p (.lst (ms.map V.int)))
theorem pe_srtSet {X : Cx} {a : Expr} {te : TE} {p p2 q pos : Pos} (hg : Gl X "sorted") (hm : X.mg "sorted" = none) (hg2 : Gl X "set") (hm2 : X.mg "set" = none) (ha : PE X a te) (hc : X.calm = true := by rfl)
    (na : starEach [a] X.env = (false, eval a X.env) :: starEach [] X.env := by rfl) : PE X (.Call (.Name "sorted" p) [.Call (.Name "set" p2) [a] [] q] [] pos) (tSrtSet X.K te) := by
  constructor
  intro pins s σ H Q I h
  refine Call_ (ld_blt I hg hm (u := .builtin "sorted") (by decide +kernel) (PyProof.Rows.callWith_builtin1 (PyProof.Rows.args_cons ?_ rfl) rfl rfl))
  refine Call_ (ld_blt I hg2 hm2 (u := .type "set") (by decide +kernel) (PyProof.Rows.callWith_type1 (PyProof.Rows.args_cons (thn (ha.run pins s σ H _ I h) fun v s1 ⟨x, H1, I1, r1, l, ns, ex, hT, hl, q1⟩ => PyProof.Rows.args_nil ?_) na) na rfl))
  subst ex
  cases r1
  obtain ⟨its, r, hI, hz⟩ := I1.list hT
  refine call_set_lstI ns (I1.ok.hd hc) hI.isList (ints_of_vals r) (by unfold scanBound; omega) fun h' tk c hS hcle hk => PyProof.Rows.args_nil ?_
  have I2 : Inv X pins σ H1 { s1 with heap := h', toks := tk } := I1.kept hk
  refine sorted_set hS (I1.ok.hd hc) (by omega) fun s' b out cc ms k g o hb hg hi hs hm hl => ?_
  have nb : H1 b = none := I2.hok.fresh hb
  have len : (ms.map V.int).length ≤ sizeLine := by rw [List.length_map, hl, sizeLine_eq]; omega
  have J : Inv X pins σ (upd H1 b (.lst (ms.map V.int))) { ({ s1 with heap := h', toks := tk } : Shared) with heap := s'.heap, gens := s'.gens, drawn := s'.drawn, toks := s'.toks } :=
    I2.call (ch := []) (Un.laid k hb nb) (I2.hok.laid k hb ⟨len, out.toList, cc, vals_of_ints hi, hg⟩) (by rw [g]; exact I2.bare) (fun _ z => nomatch z)
  have es : s' = { ({ s1 with heap := h', toks := tk } : Shared) with heap := s'.heap, gens := s'.gens, drawn := s'.drawn, toks := s'.toks } := by
    cases s'
    cases o
    rfl
  rw [es]
  exact ⟨.ref b, _, J, rfl, q1 ms b hs (fun x => (hm x).trans ⟨fun z => of_decide_eq_true z, fun z => decide_eq_true z⟩) nb⟩
def kSrtSet {T : Type} (Q : SV → T → Prop) (r : SV) (τ : T) : Prop := ∃ ns : List Int, r.lst? = some (ns.map .int) ∧ ns.length < 64 ∧ ∀ ms : List Int, ms.Pairwise (· < ·) → (∀ k, k ∈ ms ↔ k ∈ ns) → Q (.ol (ms.map .int)) τ
def dSrtSet {T : Type} (te : W T) : W T := fun env τ Q => te env τ (kSrtSet Q)
theorem dSrtSet_k {T : Type} (te : W T) (env : List SV) (τ : T) (Q : SV → T → Prop) : dSrtSet te env τ Q = te env τ (kSrtSet Q) := rfl
theorem rpInts {K : PySem.W.Frag} {G : Hp} : ∀ ms : List Int, RpAll K G (ms.map V.int) (ms.map PyData.int)
  | [] => .nil
  | _ :: t => .cons (.int _) (rpInts t)
section
variable {X : Cx} {B : Bk} {e : Expr} {te : W B.T}
theorem de_srtSet {p p2 q pos : Pos} (hK : X.K = B.K) (hg : Gl X "sorted") (hm : X.mg "sorted" = none) (hg2 : Gl X "set") (hm2 : X.mg "set" = none) (he : PE X e (lift B te)) (hc : X.calm = true := by rfl)
    (na : starEach [e] X.env = (false, eval e X.env) :: starEach [] X.env := by rfl) : PE X (.Call (.Name "sorted" p) [.Call (.Name "set" p2) [e] [] q] [] pos) (lift B (dSrtSet te)) :=
  pe_imp (pe_srtSet hg hm hg2 hm2 he hc na) fun σ H Q z9 => ex53 z9 fun G F env τ Qd s t fin => ⟨G, F, env, τ, _, s, t, fun r τ1 G1 F1 H1 v f1 r1 ⟨ns, en, hl, q⟩ => by
    obtain ⟨l, vs, ev, hT, ra⟩ := r1.sql f1.k.same en
    have e2 := ints_ok ra (ints_map ns)
    subst e2
    rw [hK]
    exact ⟨l, ns, ev, hT.sql, hl, fun ms b h1 h2 hb => (FinT.trans fin f1).ol f1.k hb (rpInts ms) (q ms h1 h2)⟩⟩
end
/-! ### x[k], x[j] = (a, b) -/
end Z
/-! ### `a if c else b` as a test -/
namespace L2
open PySem PySem.Spec PyProof.Rows
end L2
namespace Z
open PySem PySem.Spec PyProof.Rows L2 LamX
/-! ### try: any statements / except C as n: kept = n -/
theorem SvR.back {K : PySem.W.Frag} {H0 H1 G F H o} (b : ∀ a, H0 a = none → H1 a = none) : ∀ {s : SV}, SvR K H0 G F H s o → SvR K H1 G F H s o
  | .no, _ => trivial
  | .d _, h => h
  | .ol _, ⟨p, e, w⟩ => ⟨p, e, w.at', w.g, w.f, b p w.new⟩
  | .vw _, h => h.elim
  | .raw _, h => h
theorem EnvR.back {K : PySem.W.Frag} {H0 H1 G F H σ env} (b : ∀ a, H0 a = none → H1 a = none) (e : EnvR K H0 G F H σ env) : EnvR K H1 G F H σ env :=
  ⟨e.len, fun i s h => (e.at' i s h).back b, e.sep⟩
end Z
namespace Z
open PySem PySem.Spec PyProof.Rows L2
/-! ### d[k] = v for a dict of one's own with numbers for keys -/
def kPutN2 (p : Addr) (D : DEnds T2) (env : List SV) (xv : Z.D) (y : SV) (τ2 : T2) : Prop :=
  ∃ n m cs, y = .d (.int n) ∧ τ2.cs = (p, .dk m) :: cs ∧ m.length < sizeLine ∧ D.nx env ⟨τ2.dr, (p, .dk (putD m (.inl n) xv)) :: cs⟩
def kPutN1 (i : Nat) (te : W T2) (D : DEnds T2) (env : List SV) (v : SV) (τ1 : T2) : Prop :=
  ∃ xv p, v = .d xv ∧ env[i]? = some (.raw (.ref p)) ∧ te env τ1 (kPutN2 p D env xv)
def dPutN (i : Nat) (te tv : W T2) : WS T2 := fun D env τ => tv env τ (kPutN1 i te D env)
theorem dPutN_k (i : Nat) (te tv : W T2) (D : DEnds T2) (env : List SV) (τ : T2) : dPutN i te tv D env τ = tv env τ (kPutN1 i te D env) := rfl
theorem kPutN1_1 {i : Nat} {te : W T2} {D : DEnds T2} {env : List SV} {xv : Z.D} {τ1 : T2} : kPutN1 i te D env (.d xv) τ1 = ∃ p, env[i]? = some (.raw (.ref p)) ∧ te env τ1 (kPutN2 p D env xv) := by
  unfold kPutN1
  apply propext
  constructor
  · rintro ⟨x, p, e, h⟩
    cases e
    exact ⟨p, h⟩
  · rintro ⟨p, h⟩
    exact ⟨xv, p, rfl, h⟩
theorem kPutN2_1 {p : Addr} {D : DEnds T2} {env : List SV} {xv : Z.D} {n : Int} {d : DrT} {m : List (Key × Z.D)} {cs : List (Addr × Cel)} : kPutN2 p D env xv (.d (.int n)) ⟨d, (p, .dk m) :: cs⟩ = (m.length < sizeLine ∧ D.nx env ⟨d, (p, .dk (putD m (.inl n) xv)) :: cs⟩) := by
  unfold kPutN2
  apply propext
  constructor
  · rintro ⟨n, m, cs, e, e2, h⟩
    cases e
    cases e2
    exact h
  · exact fun h => ⟨n, m, cs, rfl, rfl, h⟩
section
variable {X : Cx} {Ts : List (Addr × Str)} {K : PySem.W.Frag} {G0 : Hp} {F0 : Addr → Prop} {H0 : Hp} {i : Nat} {o e value : Expr} {pos pos' : Pos} {te tv : W T2}
theorem ds_putN (hu : X.A.units + 1 < cLine) (ho : PE X o (tVar i)) (hi : PE X e (lift ⟨theT Ts, K, G0, F0, H0⟩ te)) (hv : PE X value (lift ⟨theT Ts, K, G0, F0, H0⟩ tv))
    (hs : swapsWith value (some (.Subscript o e pos')) pos.line X.env = pure false := by rfl) :
    PS X (.Assign [.Subscript o e pos'] value pos) (liftS ⟨theT Ts, K, G0, F0, H0⟩ (dPutN i te tv)) :=
  ps_imp (ps_dput hu ho hi hv hs) fun D σ H z9 => ex53 z9 fun G F env τ Dd s t En => by
    refine ⟨G, F, env, τ, _, s, t, fun r1 τ1 G1 F1 H1 v f1 res1 hq => ?_⟩
    obtain ⟨xv, p, rfl, ei, hq⟩ := hq
    have s1 := s.step f1.s f1.k
    refine ⟨_, raw_slot s1 ei, G1, F1, env, τ1, _, s1, hq, fun r2 τ2 G2 F2 H2 y f2 res2 hq => ?_⟩
    obtain ⟨n, m, cs, rfl, ec, hl, hq⟩ := hq
    obtain ⟨dr2, cs2⟩ := τ2
    cases ec
    obtain ⟨kv, hp, pk⟩ := Ok.dcell f2.k
    have rv : Rp K G2 v xv := Rp.mono f2.s.g (show Rp K G1 v xv from res1)
    obtain ⟨st3, ok3⟩ := Ok.dput f2.k (pk.put rv (.inl n))
    have ey : y = .int n := rint res2
    subst ey
    exact ⟨p, _, rfl, DPut.k (k := .inl n) hp (by rw [pk.length]; exact hl), En.nx G2 F2 σ _ env _ (f1.s.g.trans (f2.s.g.trans st3.g)) ⟨(s1.s.trans f2.s).trans st3, ok3, (s1.e.step f2.s).step st3⟩ hq⟩
end
/-! ### d[k] = v, d any dict of one's own (kPutC: numbers, texts, or tuples of numbers for keys) -/
def kPutV2 (p : Addr) (D : DEnds T2) (env : List SV) (dv : Z.D) (rk : SV) (τ2 : T2) : Prop := ∃ key, rk = .d key ∧ kPutC (fun cs => D.nx env ⟨τ2.dr, cs⟩) τ2.cs p key dv
def kPutV1 (i : Nat) (tk : W T2) (D : DEnds T2) (env : List SV) (rv : SV) (τ1 : T2) : Prop := ∃ dv p, rv = .d dv ∧ env[i]? = some (.raw (.ref p)) ∧ tk env τ1 (kPutV2 p D env dv)
def dPutV (i : Nat) (tk tv : W T2) : WS T2 := fun D env τ => tv env τ (kPutV1 i tk D env)
theorem dPutV_k (i : Nat) (tk tv : W T2) (D : DEnds T2) (env : List SV) (τ : T2) : dPutV i tk tv D env τ = tv env τ (kPutV1 i tk D env) := rfl
section
variable {X : Cx} {Ts : List (Addr × Str)} {K : PySem.W.Frag} {G0 : Hp} {F0 : Addr → Prop} {H0 : Hp} {i : Nat} {o e value : Expr} {pos pos' : Pos} {tk tv : W T2}
theorem ds_putV (nf : intFree K = true) (hu : X.A.units + 1 < cLine) (ho : PE X o (tVar i)) (hi : PE X e (lift ⟨theT Ts, K, G0, F0, H0⟩ tk)) (hv : PE X value (lift ⟨theT Ts, K, G0, F0, H0⟩ tv))
    (hs : swapsWith value (some (.Subscript o e pos')) pos.line X.env = pure false := by rfl) :
    PS X (.Assign [.Subscript o e pos'] value pos) (liftS ⟨theT Ts, K, G0, F0, H0⟩ (dPutV i tk tv)) :=
  ps_imp (ps_dput hu ho hi hv hs) fun D σ H z9 => ex53 z9 fun G F env τ Dd s z E => ⟨G, F, env, τ, _, s, z, fun rv τ1 G1 F1 H1 v f1 r1 q1 => by
    obtain ⟨dv, p, rfl, ei, q1⟩ := q1
    have s1 := s.fin f1
    refine ⟨_, raw_slot s1 ei, G1, F1, env, τ1, _, s1, q1, fun rk τ3 G3 F3 H3 yk f3 r3 q3 => ?_⟩
    obtain ⟨key, rfl, q3⟩ := q3
    have s3 := s1.fin f3
    obtain ⟨dr3, cs3⟩ := τ3
    have r1' : Rp K G3 v dv := Rp.mono f3.s.g r1
    have r3 : Rp K G3 yk key := r3
    unfold kPutC at q3
    split at q3
    · rename_i m hm
      obtain ⟨ks, rfl, hl, q3⟩ := q3
      obtain ⟨kv, hq, pk⟩ := Ok.celR s3.k hm
      obtain ⟨bk, rfl, hb⟩ := tup_at nf s3.k.same r3
      obtain ⟨st4, k4⟩ := Ok.cput (c' := .dt (putT m (ks.map Sum.inl) dv)) (o := .dT (putK kv (ks.map Sum.inl) v)) s3.k hm (fun _ z => z) (fun _ z => z) ⟨_, upd_same, PrT.put pk r1' _⟩
      refine ⟨p, _, rfl, DPut.t hq (k := ks.map Sum.inl) (by rw [hb, List.map_map]; rfl) (by rw [pk.length]; exact hl), ?_⟩
      exact E.nx G3 F3 σ _ env _ (f1.s.g.trans f3.s.g) (s3.fin ⟨st4, k4⟩) q3
    · rename_i m hm
      obtain ⟨k, hk, hl, q3⟩ := q3
      obtain ⟨kv, hq, pk⟩ := Ok.celR s3.k hm
      have ek := key_rel r3 hk
      subst ek
      obtain ⟨st4, k4⟩ := Ok.cput (c' := .dk (putD m k dv)) (o := .dK (putK kv k v)) s3.k hm (fun _ z => z) (fun _ z => z) ⟨_, upd_same, PrK.put pk r1' _⟩
      refine ⟨p, _, rfl, DPut.k hq (by rw [PrK.length pk]; exact hl), ?_⟩
      exact E.nx G3 F3 σ _ env _ (f1.s.g.trans f3.s.g) (s3.fin ⟨st4, k4⟩) q3
    · exact q3.elim⟩
/-- {}, to be a dict with tuples for keys -/
def dNewT : W T2 := fun _ τ Q => ∀ p, p ∉ τ.cs.map (·.1) → Q (.raw (.ref p)) ⟨τ.dr, (p, .dt []) :: τ.cs⟩
theorem de_newT : PE X (.Dict [] [] pos) (lift ⟨theT Ts, K, G0, F0, H0⟩ dNewT) :=
  pe_imp pe_dnewT fun σ H Q z9 => ex53 z9 fun G F env τ Qd s t fin => fun p hp => by
    obtain ⟨np, st1, k1⟩ := Ok.cnew (c := .dt []) (o := .dT []) s.k hp (fun _ z => z) ⟨[], upd_same, .nil⟩
    exact fin (.raw (.ref p)) _ G _ _ (.ref p) ⟨st1, k1⟩ rfl (t p np)
end
end Z
namespace Z
open PySem PySem.Spec PyProof.Rows L2
/-! ### a dict with tuples for keys is walked -/
def keyV (k : List Key) : D := .tuple (k.map kyD)
/-- for t in d, d at p being walked: what stands there stays -/
def forTW (t : Tg) (tb : WS T2) (D : DEnds T2) (p : Addr) (c : Cel) : List Z.D → List SV → T2 → Prop
  | [], env, τ => D.nx env τ
  | x :: xs, env, τ => opt (tgE t x env) fun env' => tb { D with nx := fun e τ' => cget τ'.cs p = some c ∧ forTW t tb D p c xs e τ', ct := fun e τ' => cget τ'.cs p = some c ∧ forTW t tb D p c xs e τ', bk := D.nx } env' τ
theorem forTW_c (t : Tg) (tb : WS T2) (D : DEnds T2) (p : Addr) (c : Cel) (x : Z.D) (xs : List Z.D) (env : List SV) (τ : T2) : forTW t tb D p c (x :: xs) env τ = opt (tgE t x env) fun env' => tb { D with nx := fun e τ' => cget τ'.cs p = some c ∧ forTW t tb D p c xs e τ', ct := fun e τ' => cget τ'.cs p = some c ∧ forTW t tb D p c xs e τ', bk := D.nx } env' τ := rfl
def dForT (i : Nat) (t : Tg) (tb : WS T2) : WS T2 := fun D env τ => ∃ p m, env[i]? = some (.raw (.ref p)) ∧ cget τ.cs p = some (.dt m) ∧
  ∀ od kv, kv.map (·.1) = m.map (·.1) → forTW t tb D p (.lk od kv) (m.map fun e => keyV e.1) env ⟨τ.dr, cset τ.cs p (.lk od kv)⟩
/-- the dict is locked, and stays so -/
def iLockT (td : TE) : TI := fun σ H R => td σ H fun x H1 => ∃ d kvs, x = .ref d ∧ H1 d = some (.dT kvs) ∧ ∀ o, R (Itkt d o kvs) (upd H1 d (.frz o (.dT kvs)))
theorem pi_lockT {X : Cx} {tg e : Expr} {td : TE} (he : PE X e td) : PI X tg e (iLockT td) := by
  refine ⟨fun pins s σ H R I h => ?_⟩
  refine thn (he.run pins s σ H _ I h) fun u s1 ⟨x, H1, I1, rx, d, kvs, ex, hd, q⟩ => ?_
  subst ex
  obtain rfl : u = Value.ref d := rx
  obtain ⟨o, I2⟩ := I1.lock hd trivial
  obtain ⟨hs, hgd, hx, es, ep, hdt, hsz, ent⟩ := I2.frzT upd_same
  refine iter_keys hs hgd hx hdt (pi_one (tk := s1.toks) I2 _ (turn_keysT _ hdt) ⟨_, Heap.get?_push_size _ rfl, rfl, ?_⟩ (q o))
  rw [hsz] <;> rfl
section
variable {X : Cx} {Ts : List (Addr × Str)} {K : PySem.W.Frag} {G0 : Hp} {F0 : Addr → Prop} {H0 : Hp} {i : Nat} {pos : Pos} {tg iter : Expr} {body : List Stmt} {t : Tg} {tb : WS T2}
theorem kys_rp {G : Hp} (ks : List Key) : RpAll K G (ks.map L2.kV) (ks.map kyD) := by
  induction ks with
  | nil => exact .nil
  | cons a r ih =>
    refine .cons ?_ ih
    cases a with
    | inl i => exact .int i
    | inr z => exact .str z
/-- a key's tuple is said for ever -/
theorem key_G {G H : Hp} {F : Addr → Prop} {τ : T2} {b : Addr} {ks : List Key} (k : Ok (theT Ts) K τ G F H) (h : H b = some (.tup (ks.map L2.kV))) :
    ∃ G', Fin ⟨theT Ts, K, G0, F0, H0⟩ G F H τ G' F H ∧ Rp K G' (.ref b) (keyV ks) := by
  cases q : G b with
  | some o =>
    have e := k.same b o q
    rw [h] at e
    cases e
    exact ⟨G, ⟨Step.refl _ _ _, k⟩, .tup (.inl q) (kys_rp ks)⟩
  | none =>
    have nF : ¬ F b := Ok.notup k h
    refine ⟨upd G b (.tup (ks.map L2.kV)), ⟨⟨fun a u z => by rw [upd_ne (ne_of_none z q)]; exact z, fun a o _ z => z, fun a o z => ?_, fun a z => .inl z, fun a z => z, fun a z => z⟩, k.frz h q nF⟩, .tup (.inl upd_same) (kys_rp ks)⟩
    by_cases y : a = b
    · subst y
      exact .inr (.inr ⟨⟨_, h⟩, nF⟩)
    · rw [upd_ne y] at z
      exact .inl z
theorem PrT.keys {G : Hp} {kv : List (List Key × V)} {m : List (List Key × D)} (h : PrT K G kv m) : kv.map (·.1) = m.map (·.1) := by
  induction h with
  | nil => rfl
  | cons a _ ih => rw [List.map_cons, List.map_cons, ih, a.1]
theorem cget_set {cs : List (Addr × Cel)} {p : Addr} {c c' : Cel} (h : cget cs p = some c) : cget (cset cs p c') p = some c' := by
  induction cs with
  | nil => cases h
  | cons a r ih =>
    obtain ⟨q, c0⟩ := a
    unfold cset
    by_cases e : q = p
    · rw [if_pos e]
      unfold cget
      rw [if_pos e]
    · rw [if_neg e]
      unfold cget at h ⊢
      rw [if_neg e] at h ⊢
      exact ih h
theorem ds_forT (hp : PassesOwn (model X.prog X.w) X.A X.env X.xe) (hc : X.calm = true) (ho : PE X iter (tVar i)) (hg : PG X tg (tgH (Bk.K ⟨theT Ts, K, G0, F0, H0⟩) t)) (hb : PSs X body (liftS ⟨theT Ts, K, G0, F0, H0⟩ tb))
    (hs : ∀ x, foldedSetIterable iter X.env x = pure x := by intro _; rfl) : PS X (.For tg iter body [] pos) (liftS ⟨theT Ts, K, G0, F0, H0⟩ (dForT i t tb)) :=
  ps_imp (ps_for hp hc (pi_lockT ho) hg hb hs) fun D σ H z9 => ex53 z9 fun G F env τ Dd s h E => by
    obtain ⟨p, m, ei, eg, q⟩ := h
    obtain ⟨dr, cs⟩ := τ
    obtain ⟨kv, hpv, pk⟩ := Ok.celR s.k eg
    refine ⟨_, raw_slot s ei, p, kv, rfl, hpv, fun o => ?_⟩
    obtain ⟨st1, k1⟩ := Ok.cput (c' := .lk o kv) (o := .frz o (.dT kv)) s.k eg (fun _ z => z) (fun _ z => z) upd_same
    have s1 := s.step st1 k1
    have ek := PrT.keys pk
    have q := q o kv ek
    have ec : cget (cset cs p (.lk o kv)) p = some (.lk o kv) := cget_set eg
    have el : kv.length = m.length := by rw [← List.length_map (f := (·.1)), ek, List.length_map]
    generalize hxs : (m.map fun e => keyV e.1) = xs at q
    have exl : xs.length = m.length := by rw [← hxs, List.length_map]
    refine ⟨fun i m' σ H => m' = xs.length - i ∧ i ≤ xs.length ∧ ∃ G2 F2 env2 τ2, StR ⟨theT Ts, K, G0, F0, H0⟩ G2 F2 σ H env2 τ2 ∧ Same G G2 ∧ cget τ2.cs p = some (.lk o kv) ∧ forTW t tb Dd p (.lk o kv) (xs.drop i) env2 τ2, ⟨_, rfl, Nat.zero_le _, G, F, env, _, s1, Same.refl _, ec, q⟩, ?_⟩
    rintro j m' σ2 H2 ⟨rfl, hi, G2, F2, env2, τ2, s2, sm, c2, q2⟩
    have hz : H2 p = some (.frz o (.dT kv)) := by
      obtain ⟨dr2, cs2⟩ := τ2
      exact Ok.celR s2.k c2
    by_cases hl : j < xs.length
    · have hlm : j < m.length := by rw [← exl]; exact hl
      have hlk : j < kv.length := by rw [el]; exact hlm
      rw [List.drop_eq_getElem_cons hl] at q2
      have q2 := (forTW_c t tb Dd p _ xs[j] _ env2 τ2).mp q2
      obtain ⟨env3, e3, q3⟩ := opt_of q2
      refine .inr ⟨⟨hz, hlk⟩, fun σ' H' => ∃ G4 F4 env4 τ4, StR ⟨theT Ts, K, G0, F0, H0⟩ G4 F4 σ' H' env4 τ4 ∧ Same G G4 ∧ cget τ4.cs p = some (.lk o kv) ∧ forTW t tb Dd p (.lk o kv) (xs.drop (j + 1)) env4 τ4, fun σ' H' n => ⟨_, by omega, rfl, by omega, n⟩, fun v H3 yl => ?_⟩
      obtain ⟨eH, k, v1, b, ekv, ev, hb⟩ := yl
      subst eH ev
      obtain ⟨G3, f3, r3⟩ := key_G (G0 := G0) (F0 := F0) (H0 := H0) s2.k hb
      have ex : xs[j] = keyV k := by
        have h1 : (kv.map (·.1))[j]? = some k := by rw [List.getElem?_map, ekv]; rfl
        rw [ek, List.getElem?_map] at h1
        have h2 : xs[j]? = some (keyV k) := by
          rw [← hxs, List.getElem?_map]
          cases z : m[j]? with
          | none => rw [z] at h1; cases h1
          | some e => rw [z] at h1; cases h1; rfl
        rw [List.getElem?_eq_getElem hl] at h2
        exact Option.some.inj h2
      rw [ex] at e3
      refine tg_ok [] t (s2.fin f3) r3 e3 fun σ' s' _ => ⟨G3, F2, env3, τ2, _, s', q3, ⟨?_, E.rt, ?_, ?_⟩⟩
      · exact fun G' F' σ' H' env' τ' smx sx qx => ⟨G', F', env', τ', sx, sm.trans (f3.s.g.trans smx), qx.1, qx.2⟩
      · exact fun G' F' σ' H' env' τ' smx sx qx => E.nx G' F' σ' H' env' τ' (sm.trans (f3.s.g.trans smx)) sx qx
      · exact fun G' F' σ' H' env' τ' smx sx qx => ⟨G', F', env', τ', sx, sm.trans (f3.s.g.trans smx), qx.1, qx.2⟩
    · rw [List.drop_eq_nil_of_le (by omega)] at q2
      have q2 : Dd.nx env2 τ2 := q2
      exact .inl ⟨⟨hz, by omega⟩, E.nx G2 F2 σ2 H2 env2 τ2 sm s2 q2⟩
/-- [e for t in d if ..] -/
def lcTW (t : Tg) (tt : WT T2) (te : W T2) (p : Addr) (c : Cel) (Q : List D → T2 → Prop) : List D → List D → List SV → T2 → Prop
  | [], acc, _, τ => Q acc τ
  | x :: xs, acc, env, τ => opt (tgE t x env) fun env' => tt env' τ fun b τ1 => if b = true then te env' τ1 fun r τ2 => opt r.dat? fun y => acc.length < sizeLine ∧ cget τ2.cs p = some c ∧ lcTW t tt te p c Q xs (acc ++ [y]) env τ2
      else cget τ1.cs p = some c ∧ lcTW t tt te p c Q xs acc env τ1
theorem lcTW_c (t : Tg) (tt : WT T2) (te : W T2) (p : Addr) (c : Cel) (Q : List D → T2 → Prop) (x : D) (xs acc : List D) (env : List SV) (τ : T2) : lcTW t tt te p c Q (x :: xs) acc env τ =
    opt (tgE t x env) fun env' => tt env' τ fun b τ1 => if b = true then te env' τ1 fun r τ2 => opt r.dat? fun y => acc.length < sizeLine ∧ cget τ2.cs p = some c ∧ lcTW t tt te p c Q xs (acc ++ [y]) env τ2
      else cget τ1.cs p = some c ∧ lcTW t tt te p c Q xs acc env τ1 := rfl
def dLcT (i : Nat) (t : Tg) (tt : WT T2) (te : W T2) (vs : List Nat) : W T2 := fun env τ Q => ∃ p m, env[i]? = some (.raw (.ref p)) ∧ cget τ.cs p = some (.dt m) ∧
  ∀ od kv, kv.map (·.1) = m.map (·.1) → lcTW t tt te p (.lk od kv) (fun acc τ2 => Q (.ol acc) τ2) (m.map fun e => keyV e.1) [] (wipeE env vs) ⟨τ.dr, cset τ.cs p (.lk od kv)⟩
theorem lift_lcT {tt : WT T2} {te : W T2} {vs : List Nat} (ht : t.all (· ∈ vs) = true) : ∀ σ H Q, lift ⟨theT Ts, K, G0, F0, H0⟩ (dLcT i t tt te vs) σ H Q →
    tLc (iLockT (tVar i)) (tgH K t) (liftT ⟨theT Ts, K, G0, F0, H0⟩ tt) (lift ⟨theT Ts, K, G0, F0, H0⟩ te) vs σ H Q := fun σ H Q z9 => ex53 z9 fun G F env τ Qd s h k => by
  obtain ⟨p, m, ei, eg, q⟩ := h
  obtain ⟨dr, cs⟩ := τ
  obtain ⟨kv, hpv, pk⟩ := Ok.celR s.k eg
  refine ⟨_, raw_slot s ei, p, kv, rfl, hpv, fun o => ?_⟩
  obtain ⟨st1, k1⟩ := Ok.cput (c' := .lk o kv) (o := .frz o (.dT kv)) s.k eg (fun _ z => z) (fun _ z => z) upd_same
  have s1 := s.step st1 k1
  have ek := PrT.keys pk
  have q := q o kv ek
  have ec : cget (cset cs p (.lk o kv)) p = some (.lk o kv) := cget_set eg
  have el : kv.length = m.length := by rw [← List.length_map (f := (·.1)), ek, List.length_map]
  generalize hxs : (m.map fun e => keyV e.1) = xs at q
  have exl : xs.length = m.length := by rw [← hxs, List.length_map]
  generalize hH1 : upd H p (.frz o (.dT kv)) = H1 at st1 k1 s1
  have f1 : Fin ⟨theT Ts, K, G0, F0, H0⟩ G F H ⟨dr, cset cs p (.lk o kv)⟩ G F H1 := ⟨st1, k1⟩
  intro D hD
  let P : Nat → Hp → Prop := fun i H' => ∃ G2 F2 τ2 acc, Fin ⟨theT Ts, K, G0, F0, H0⟩ G F H1 τ2 G2 F2 H' ∧ Own K H1 G2 F2 H' D acc ∧ cget τ2.cs p = some (.lk o kv) ∧ lcTW t tt te p (.lk o kv) (fun acc τ2 => Qd (.ol acc) τ2) (xs.drop i) acc (wipeE env vs) τ2
  refine ⟨fun i m H' => m = xs.length - i ∧ i ≤ xs.length ∧ P i H', ⟨_, rfl, Nat.zero_le _, ?_⟩, ?_⟩
  · obtain ⟨f2, p2, e, w⟩ := new_lst (B := ⟨theT Ts, K, G0, F0, H0⟩) (p := D) f1.k hD (.nil : RpAll K G [] [])
    cases e
    exact ⟨G, F, _, [], f2, w, ec, q⟩
  rintro j m' H2 ⟨rfl, hi, G2, F2, τ2, acc, f2, o2, c2, q2⟩
  have hz : H2 p = some (.frz o (.dT kv)) := by
    obtain ⟨dr2, cs2⟩ := τ2
    exact Ok.celR f2.k c2
  by_cases hl : j < xs.length
  · have hlm : j < m.length := by rw [← exl]; exact hl
    have hlk : j < kv.length := by rw [el]; exact hlm
    rw [List.drop_eq_getElem_cons hl] at q2
    have q2 := (lcTW_c t tt te p _ _ xs[j] _ acc _ τ2).mp q2
    obtain ⟨env3, e3, q3⟩ := opt_of q2
    refine .inr ⟨⟨hz, hlk⟩, P (j + 1), fun H' n => ⟨_, by omega, rfl, by omega, n⟩, fun v H3 yl => ?_⟩
    obtain ⟨eH, ks, v1, b, ekv, ev, hb⟩ := yl
    subst eH ev
    obtain ⟨G3, f3, r3⟩ := key_G (G0 := G0) (F0 := F0) (H0 := H0) f2.k hb
    have ex : xs[j] = keyV ks := by
      have h1 : (kv.map (·.1))[j]? = some ks := by rw [List.getElem?_map, ekv]; rfl
      rw [ek, List.getElem?_map] at h1
      have h2 : xs[j]? = some (keyV ks) := by
        rw [← hxs, List.getElem?_map]
        cases z : m[j]? with
        | none => rw [z] at h1; cases h1
        | some e => rw [z] at h1; cases h1; rfl
      rw [List.getElem?_eq_getElem hl] at h2
      exact Option.some.inj h2
    rw [ex] at e3
    have f23 := f2.trans f3
    have s3 := (s.fin f1).fin f23
    have o3 := o2.step f3.s
    refine tg_ok vs t ⟨s3.s, s3.k, s3.e.wipe vs⟩ r3 e3 fun σ' s' w => ⟨(w ht).trans (wipe_idem σ vs), G3, F2, env3, τ2, _, s', q3, fun b τ4 G4 F4 H4 f4 q4 => ?_⟩
    have f24 := f23.trans f4
    have o4 := o3.step f4.s
    cases b with
    | false =>
      obtain ⟨c4, q4⟩ : cget τ4.cs p = some (.lk o kv) ∧ lcTW t tt te p (.lk o kv) (fun acc τ2 => Qd (.ol acc) τ2) (xs.drop (j + 1)) acc (wipeE env vs) τ4 := q4
      exact iteF ⟨G4, F4, τ4, acc, f24, o4, c4, q4⟩
    | true =>
      refine iteT ⟨G4, F4, env3, τ4, _, s'.fin f4, q4, fun r τ5 G5 F5 H5 v5 f5 r5 q5 => ?_⟩
      obtain ⟨z, e5, hz, c5, q5⟩ := opt_of q5
      obtain ⟨G6, f6, sm, r6⟩ := r5.dat f5 e5
      have f26 := f24.trans f6
      have o6 := o4.step f6.s
      obtain ⟨ws, ew, aw⟩ := o6.at'
      obtain ⟨f7, o7⟩ := f26.mut o6 (aw.append (.cons r6 .nil))
      exact ⟨ws, ew, by rw [aw.length]; exact hz, G6, F5, τ5, acc ++ [z], f7, o7, c5, q5⟩
  · rw [List.drop_eq_nil_of_le (by omega)] at q2
    have q2 : Qd (.ol acc) τ2 := q2
    exact .inl ⟨⟨hz, by omega⟩, k (.ol acc) τ2 G2 F2 H2 (.ref D) (f1.trans f2) ⟨D, rfl, o2.at', o2.g, o2.f, dead f1.s.dom D o2.new⟩ q2⟩
theorem de_lcT {elt : Expr} {ifs : List Expr} {scope : Scope} {own : List (Str × Nat)} {tt : WT T2} {te : W T2} (hc : X.calm = true) (hN : X.N.Nodup) (ho : PE X iter (tVar i)) (ok : BlkOk X.N X.env.scope scope own) (hv : t.all (· ∈ own.map (·.2)) = true)
    (hg : ∀ (s : Shared) (H : Hp) (C : Addr) (cl : List (Str × Addr)) (fp : List Addr), PG (X.blk s H scope (compEnvC scope cl C X.env) fp) tg (tgH (Bk.K ⟨theT Ts, K, G0, F0, H0⟩) t)) (ht : ∀ (s : Shared) (H : Hp) (C : Addr) (cl : List (Str × Addr)) (fp : List Addr), PTs (X.blk s H scope (compEnvC scope cl C X.env) fp) ifs (liftT ⟨theT Ts, K, G0, F0, H0⟩ tt))
    (he : ∀ (s : Shared) (H : Hp) (C : Addr) (cl : List (Str × Addr)) (fp : List Addr), PE (X.blk s H scope (compEnvC scope cl C X.env) fp) elt (lift ⟨theT Ts, K, G0, F0, H0⟩ te)) (hs : ∀ x, foldedSetIterable iter X.env x = pure x := by intro _; rfl) :
    PE X (.ListComp elt [⟨tg, iter, ifs, 0⟩] scope pos) (lift ⟨theT Ts, K, G0, F0, H0⟩ (dLcT i t tt te (own.map (·.2)))) := pe_imp (pe_lc hc hN (pi_lockT ho) ok hg ht he hs) (lift_lcT hv)
/-! ### {(a, b): e} -/
def tDispT (tk tv : TE) : TE := fun σ H Q => ∀ p, H p = none → tk σ (upd H p (.dT [])) fun y H1 => tv σ H1 fun v H2 => ∃ k b, y = .ref b ∧ H2 p = some (.dT []) ∧ H2 b = some (.tup (k.map L2.kV)) ∧ Q (.ref p) (upd H2 p (.dT [(k, v)]))
theorem pe_dispT {k v : Expr} {tk tv : TE} (hu : X.A.units < cLine) (hk : PE X k tk) (hv : PE X v tv) : PE X (.Dict [some k] [v] pos) (tDispT tk tv) := by
  refine ⟨fun pins s σ H Q I q => ?_⟩
  have hn := I.hok.fresh (Nat.le_refl s.heap.objs.size)
  have I1 := I.laid (a := s.heap.objs.size) (o := .dT []) (h' := s.heap.push { cls := .type "dict", data := .dict #[] }) (t' := s.toks) (fun _ _ q => Heap.get?_push_of_some _ q) (Nat.le_refl _) (dt_empty s.heap I.big)
  refine wpAny_Dict_any rfl rfl (by simp) (by simp) (pairTrees_cons_walk (thn (hk.run pins _ σ _ _ I1 (q _ hn)) fun u s1 ⟨y, H1, I2, ry, q1⟩ => thn (hv.run pins s1 σ H1 _ I2 q1) fun w2 s2 ⟨v, H2, I3, rv, ks, b, ey, e, eb, q2⟩ => pairTrees_nil_walk ?_))
  subst ey
  cases (show u = Value.ref b from ry)
  obtain ⟨z, hd, xs, rel, dd⟩ := dt_of I3.hok e
  have hz : xs.length ≤ sizeLine := by rw [← Paired.length rel]; exact z
  unfold storeAll
  rw [List.forIn_cons]
  refine wpAny_bind (wpAny_bind (wpAny_dictSet_heap (hsz := hz) hu (key_of I3.hok eb) dd fun h' dd' hs => wpAny_pure ?_))
  show wpAny _ _ (forIn ([] : List (Value × Value)) _ _) _ _ _
  rw [List.forIn_nil]
  refine wpAny_pure ⟨.ref s.heap.objs.size, _, ?_, rfl, q2⟩
  have hl : (putK ([] : List (List Key × V)) ks v).length ≤ sizeLine := by have := length_putK ([] : List (List Key × V)) ks v; rw [sizeLine_eq]; simp at this; omega
  obtain ⟨q, es, ep, hq, h2, h3, h4, _, h5⟩ := dd'
  refine d_write I3 (by rw [e]; exact True.intro) hs ⟨q, hq⟩ (ob := .dT (putK [] ks v)) ⟨hl, hd, _, (rel.put ks eb rv).keeps fun c ys ec => ?_, q, es, ep, hq, h2, h3, h4, h5⟩
  rw [upd_ne (ne_of ec e (fun z => nomatch z))]
  exact ec
def dDispT (tk tv : W T2) : W T2 := fun env τ Q => ∀ p, p ∉ τ.cs.map (·.1) → tk env ⟨τ.dr, (p, .dt []) :: τ.cs⟩ fun rk τ1 => ∃ ks : List Int, rk = .d (.tuple (ks.map .int)) ∧ tv env τ1 fun rv τ2 => ∃ dv, rv = .d dv ∧ cget τ2.cs p = some (.dt []) ∧
  Q (.raw (.ref p)) ⟨τ2.dr, cset τ2.cs p (.dt [(ks.map Sum.inl, dv)])⟩
theorem de_dispT {k v : Expr} {tk tv : W T2} (nf : intFree K = true) (hu : X.A.units < cLine) (hk : PE X k (lift ⟨theT Ts, K, G0, F0, H0⟩ tk)) (hv : PE X v (lift ⟨theT Ts, K, G0, F0, H0⟩ tv)) : PE X (.Dict [some k] [v] pos) (lift ⟨theT Ts, K, G0, F0, H0⟩ (dDispT tk tv)) :=
  pe_imp (pe_dispT hu hk hv) fun σ H Q z9 => ex53 z9 fun G F env τ Qd s t fin => fun p hp => by
    obtain ⟨np, st0, k0⟩ := Ok.cnew (c := .dt []) (o := .dT []) s.k hp (fun _ z => z) ⟨[], upd_same, .nil⟩
    have s0 := s.step st0 k0
    refine ⟨G, _, env, _, _, s0, t p np, fun rk τ1 G1 F1 H1 y f1 r1 q1 => ?_⟩
    obtain ⟨ks, rfl, q1⟩ := q1
    have s1 := s0.fin f1
    refine ⟨G1, F1, env, τ1, _, s1, q1, fun rv τ2 G2 F2 H2 v f2 r2 q2 => ?_⟩
    obtain ⟨dv, rfl, c2, q2⟩ := q2
    obtain ⟨dr2, cs2⟩ := τ2
    have r1 : Rp K G2 y (.tuple (ks.map .int)) := Rp.mono f2.s.g r1
    obtain ⟨b, rfl, hb⟩ := tup_at nf f2.k.same r1
    obtain ⟨kv, hz, pk⟩ := Ok.celR f2.k c2
    cases pk
    obtain ⟨st3, k3⟩ := Ok.cput (c' := .dt [(ks.map Sum.inl, dv)]) (o := .dT [(ks.map Sum.inl, v)]) f2.k c2 (fun _ z => z) (fun _ z => z) ⟨_, upd_same, .cons ⟨rfl, r2⟩ .nil⟩
    exact ⟨ks.map Sum.inl, b, rfl, hz, by rw [hb, List.map_map]; rfl, fin (.raw (.ref p)) _ G2 F2 _ (.ref p) ⟨((st0.trans f1.s).trans f2.s).trans st3, k3⟩ rfl q2⟩
end
/-! ### calls by the arguments' names of what lets nothing out: two the other way round, or four as sums_of has them -/
def kwx {α : Type} (l : List α) : List α := match l with
  | [a, b] => [b, a]
  | [a, b, c, d] => [d, a, c, b]
  | _ => []
def kwy {α : Type} (us ws : List α) : List α := match us with
  | [] => kwx ws
  | _ => []
theorem kwx_rel {vs : List V} {us : List Value} (h : Vals vs us) : Vals (kwx vs) (kwx us) := by
  rcases h with _ | ⟨h1, _ | ⟨h2, _ | ⟨h3, _ | ⟨h4, _ | ⟨h5, t⟩⟩⟩⟩⟩
  · exact .nil
  · exact .nil
  · exact .cons h2 (.cons h1 .nil)
  · exact .nil
  · exact .cons h4 (.cons h1 (.cons h3 (.cons h2 .nil)))
  · exact .nil
theorem kwy_rel {vs : List V} {us : List Value} {zs : List V} {ws : List Value} (h : Vals vs us) (h2 : Vals zs ws) : Vals (kwy vs zs) (kwy us ws) := by
  cases h with
  | nil => exact kwx_rel h2
  | cons _ _ => exact .nil
def KwP (K : PySem.W.Frag) (fd : FuncData) (ps ks : List Str) : Prop := KBinds K fd ps ks kwy kwy
theorem kwP2 {K : PySem.W.Frag} {fd : FuncData} {p q : Str} (h : ∀ (s : Shared) (v w : Value), BindsTo s fd ⟨[], [(q, w), (p, v)]⟩ [(p, v), (q, w)]) : KwP K fd [p, q] [q, p] :=
  ⟨fun s us ws _ hl => by
    rcases us with _ | ⟨u, us⟩
    · rcases ws with _ | ⟨w, _ | ⟨v, _ | ⟨z, _ | ⟨y, _ | ⟨x, ws⟩⟩⟩⟩⟩
      · cases hl
      · cases hl
      · exact h s v w
      · cases hl
      · cases hl
      · cases hl
    · exact (nomatch hl), fun r1 r2 => kwy_rel r1 r2⟩
theorem kwP4 {K : PySem.W.Frag} {fd : FuncData} {k1 k2 k3 k4 : Str} (h : ∀ (s : Shared) (a b c d : Value), BindsTo s fd ⟨[], [(k1, a), (k2, b), (k3, c), (k4, d)]⟩ [(k4, d), (k1, a), (k3, c), (k2, b)]) : KwP K fd [k4, k1, k3, k2] [k1, k2, k3, k4] :=
  ⟨fun s us ws _ hl => by
    rcases us with _ | ⟨u, us⟩
    · rcases ws with _ | ⟨w, _ | ⟨v, _ | ⟨z, _ | ⟨y, _ | ⟨x, ws⟩⟩⟩⟩⟩
      · cases hl
      · cases hl
      · cases hl
      · cases hl
      · exact h s w v z y
      · cases hl
    · exact (nomatch hl), fun r1 r2 => kwy_rel r1 r2⟩
structure KnKP (P : Program) (w : World) (K : PySem.W.Frag) (mg : Str → Option Value) (base : Heap) (S : Sto) (x : Str) (ps ks : List Str) (k : Nat) (FF : FW S.T) : Prop where
  ex : ∃ f fd, FnOk P w K mg base CX0 k f fd ps (spD S K FF) ∧ mg x = some (.ref f) ∧ PySem.W.keepIn K (.ref f) = true ∧ KwP K fd ps ks
def kwxA {T : Type} (ta : WA T) : WA T := fun env τ Q => ta env τ fun rs τ1 => Q (kwx rs) τ1
def kKwx {T : Type} (Q : List SV → T → Prop) (rs : List SV) (τ : T) : Prop := Q (kwx rs) τ
theorem kwxA_k {T : Type} (ta : WA T) (env : List SV) (τ : T) (Q : List SV → T → Prop) : kwxA ta env τ Q = ta env τ (kKwx Q) := rfl
theorem kKwx_2 {T : Type} (Q : List SV → T → Prop) (a b : SV) (τ : T) : kKwx Q [a, b] τ = Q [b, a] τ := rfl
theorem kKwx_4 {T : Type} (Q : List SV → T → Prop) (a b c d : SV) (τ : T) : kKwx Q [a, b, c, d] τ = Q [d, a, c, b] τ := rfl
theorem ResAll.kwx {K : PySem.W.Frag} {Ha G : Hp} {F : Addr → Prop} {H : Hp} {rs : List SV} {vs : List V} (h : ResAll K Ha G F H rs vs) : ResAll K Ha G F H (Z.kwx rs) (Z.kwx vs) := by
  rcases h with _ | ⟨h1, _ | ⟨h2, _ | ⟨h3, _ | ⟨h4, _ | ⟨h5, t⟩⟩⟩⟩⟩
  · exact .nil
  · exact .nil
  · exact .cons h2 (.cons h1 .nil)
  · exact .nil
  · exact .cons h4 (.cons h1 (.cons h3 (.cons h2 .nil)))
  · exact .nil
section
variable {X : Cx} {B : Bk} {pos p : Pos} {kws : List Keyword} {tk : WA B.T} {FF : FW B.S.T} {ps ks : List Str} {k : Nat} {x : Str}
theorem lift_kwx {σ : L2.St} {H : Hp} {Qv : List V → Hp → Prop} (h : liftA B (kwxA tk) σ H Qv) : liftA B tk σ H fun zs H2 => Qv (kwx zs) H2 := by
  obtain ⟨G, F, env, τ, Qd, st, t, fin⟩ := h
  exact ⟨G, F, env, τ, _, st, t, fun rs τ' G' F' H' vs f r q => fin _ τ' G' F' H' _ f r.kwx q⟩
theorem de_callKP (hK : X.K = B.K) (h : KnKP X.prog X.w X.K X.mg X.base B.S x ps ks k FF) (hr : Room k X.A) (hg : Gl X x)
    (hkw : PK X kws (liftA B tk)) (hall : (backToKw pos (keywordEach kws X.env)).all (·.1.isSome) = true := by rfl) (hks : (backToKw pos (keywordEach kws X.env)).filterMap (·.1) = ks := by rfl)
    (hdb : (x == ("__debug__" : Str)) = false := by decide) (hpl : ((backTo pos (starEach [] X.env)).any (·.1) || (backToKw pos (keywordEach kws X.env)).any (·.1.isNone)) = false := by rfl) :
    PE X (.Call (.Name x p) [] kws pos) (lift B (dCall FF (kwxA tk))) := by
  obtain ⟨f, fd, FO, hm, hk, hb⟩ := h.ex
  rw [hK] at FO
  refine ⟨fun pins s σ H Q I ht => ?_⟩
  have h2 := lift_kwx (lift_call (E := E0) hK σ H Q ht)
  refine wpAny_Call_Name_kw (ld_glob I hg hm ?_ hdb)
  refine PySem.W.callWith_KW0 (h₀ := X.base) I.ok.mod.kin hk hall (thn (hkw.run pos pins s σ H _ I h2) fun ws s2 ⟨zs, H2, I2, rz, q2⟩ => ⟨I2.kIn, ?_⟩) hpl
  rw [hks]
  have q2 : spD _ _ _ (kwx zs ++ []) H2 Q E0 := q2
  rw [List.append_nil] at q2
  exact run_fnk (us := []) (vs := []) (by rw [hK]; exact FO) hr hb (pass0 (X := X)) I2 .nil rz q2
end
/-! ### what was made within a def that draws is forgotten at its end -/
section
variable {Ts : List (Addr × Str)} {K : PySem.W.Frag} {τ τ' : T2} {G G' H H' : Hp} {F F' : Addr → Prop}
theorem Ok.fewerG (k : Ok (theT Ts) K τ G F H) (s : Step G F H G' F' H') (k' : Ok (theT Ts) K τ' G' F' H') (hd : ∃ a b b', τ.dr = .on a b ∧ τ'.dr = .on a b') (hc : ∃ new, τ'.cs = new ++ τ.cs) : Ok (theT Ts) K ⟨τ'.dr, τ.cs⟩ G' F H' := by
  have r : TR Ts K τ G F H := k.r
  have r' : TR Ts K τ' G' F' H' := k'.r
  obtain ⟨new, hc⟩ := hc
  obtain ⟨a, b, b', d1, d2⟩ := hd
  have mem : ∀ e ∈ τ.cs, e ∈ τ'.cs := fun e he => by rw [hc]; exact List.mem_append_right _ he
  refine ⟨k'.same, fun a h => k'.gf a (s.ff a h), fun a h => k'.fh a (s.ff a h), ⟨fun p => ?_, ?_, fun e he => r'.cs e (mem e he), r.nd, r'.tb⟩, k'.nt, k'.nx⟩
  · rw [r.f p]
    unfold tF
    show _ ↔ drF τ'.dr p ∨ _
    rw [d1, d2]
    exact Iff.rfl
  · have h := r'.dr
    show drP K τ.cs G' H' τ'.dr
    rw [d2] at h ⊢
    exact ⟨h.1, fun e he => h.2 e (mem e he)⟩
def dropG (FF : FW T2) : FW T2 := fun rs τ Q2 => ∃ Q, FF rs τ Q ∧ Q2 = fun r τ' => (∃ a b b', τ.dr = .on a b ∧ τ'.dr = .on a b') ∧ (∃ new, τ'.cs = new ++ τ.cs) ∧ Q r ⟨τ'.dr, τ.cs⟩
theorem spD_dropG {FF : FW T2} {vs : List V} {Q : VK} {E : XK} (h : spD (theT Ts) K FF vs H Q E) : spD (theT Ts) K (dropG FF) vs H Q E := by
  obtain ⟨G, F, τ, rs, Qd, Ha, ok, r, dr, hf, fin⟩ := h
  exact ⟨G, F, τ, rs, _, Ha, ok, r, dr, ⟨Qd, hf, rfl⟩, fun r τ' G' F' H' v st ok' res q => fin r _ G' F H' v st.less (ok.fewerG st ok' q.1 q.2.1) (res.less st.ff) q.2.2⟩
theorem FnG.dropG {P : Program} {w : World} {mg : Str → Option Value} {base : Heap} {k : Nat} {f : Addr} {fd : FuncData} {ps : List Str} {FF : FW T2} (F : FnG P w K mg base k f fd ps (spD (theT Ts) K (dropG FF))) : FnG P w K mg base k f fd ps (spD (theT Ts) K FF) :=
  ⟨fun vs H Q E h => F.len vs H Q E (spD_dropG h), fun A st s H as us vs Q E rg z b v h => F.run A st s H as us vs Q E rg z b v (spD_dropG h)⟩
end
/-! ### the rules for walks over such a dict -/
section
variable {t : Tg} {tb : WS T2} {p : Addr} {c : Cel}
theorem forTW_inv {D : DEnds T2} (P : Nat → List SV → T2 → Prop) (hc : ∀ j env τ, P j env τ → cget τ.cs p = some c) : ∀ (xs : List Z.D) (i : Nat) (env : List SV) (τ : T2), P i env τ →
    (∀ j x env τ, xs[j]? = some x → P (i + j) env τ → ∀ kn : List SV → T2 → Prop, (∀ env' τ', P (i + j + 1) env' τ' → kn env' τ') → opt (tgE t x env) fun env' => tb { D with nx := kn, ct := kn, bk := D.nx } env' τ) →
    (∀ env τ, P (i + xs.length) env τ → D.nx env τ) → forTW t tb D p c xs env τ
  | [], i, env, τ, h0, _, q => q env τ h0
  | x :: xs, i, env, τ, h0, h, q => by
    refine h 0 x env τ rfl h0 _ fun env' τ' p' => ⟨hc _ _ _ p', ?_⟩
    refine forTW_inv P hc xs (i + 1) env' τ' p' (fun j y env τ e p => ?_) fun env τ p => q env τ (by rw [List.length_cons, show i + (xs.length + 1) = i + 1 + xs.length by omega]; exact p)
    have z := h (j + 1) y env τ (by simpa using e)
    rw [show i + (j + 1) = i + 1 + j by omega] at z
    exact z p
theorem for_invT {D : DEnds T2} (P : Nat → List SV → T2 → Prop) (hc : ∀ j env τ, P j env τ → cget τ.cs p = some c) (xs : List Z.D) (env : List SV) (τ : T2) (h0 : P 0 env τ)
    (h : ∀ j x env τ, xs[j]? = some x → P j env τ → ∀ kn : List SV → T2 → Prop, (∀ env' τ', P (j + 1) env' τ' → kn env' τ') → kFtB tb ⟨kn, D.rt, D.nx, kn⟩ τ (tgE t x env))
    (q : ∀ env τ, P xs.length env τ → D.nx env τ) : forTW t tb D p c xs env τ :=
  forTW_inv P hc xs 0 env τ h0 (fun j x env τ e p kn h1 => by
    rw [Nat.zero_add] at *
    exact fturn_k (h j x env τ e p kn h1)) (by rw [Nat.zero_add]; exact q)
variable {α : Type} {tt : WT T2} {te : W T2} {τ : T2} {Q : List D → T2 → Prop} {env : List SV}
theorem lcT_filt' (g f : α → D) (pr : α → Bool) (hc : cget τ.cs p = some c) : ∀ (l : List α) (acc : List D),
    (∀ x ∈ l, ∀ (kc : D → T2 → Prop) (k0 : T2 → Prop), (pr x = true → kc (f x) τ) → (pr x = false → k0 τ) → kTgB tt te kc k0 τ (tgE t (g x) env)) →
    acc.length + l.length ≤ sizeLine → Q (acc ++ (l.filter pr).map f) τ → lcTW t tt te p c Q (l.map g) acc env τ
  | [], acc, _, _, q => by
    rw [List.filter_nil, List.map_nil, List.append_nil] at q
    exact q
  | x :: l, acc, h, hl, q => by
    rw [List.length_cons] at hl
    refine turn_k (kc := fun y τ2 => acc.length < sizeLine ∧ cget τ2.cs p = some c ∧ lcTW t tt te p c Q (l.map g) (acc ++ [y]) env τ2) (k0 := fun τ1 => cget τ1.cs p = some c ∧ lcTW t tt te p c Q (l.map g) acc env τ1) (h x (by simp) _ _ (fun e => ?_) fun e => ?_)
    · rw [List.filter_cons, if_pos e] at q
      refine ⟨by omega, hc, lcT_filt' g f pr hc l _ (fun y hy => h y (by simp [hy])) (by rw [List.length_append, List.length_singleton]; omega) ?_⟩
      rw [List.append_assoc]
      exact q
    · rw [List.filter_cons, if_neg (by rw [e]; decide)] at q
      exact ⟨hc, lcT_filt' g f pr hc l acc (fun y hy => h y (by simp [hy])) (by omega) q⟩
theorem lcT_filt (g f : α → D) (pr : α → Bool) (hc : cget τ.cs p = some c) (l : List α)
    (h : ∀ x ∈ l, ∀ (kc : D → T2 → Prop) (k0 : T2 → Prop), (pr x = true → kc (f x) τ) → (pr x = false → k0 τ) → kTgB tt te kc k0 τ (tgE t (g x) env))
    (hl : l.length ≤ sizeLine) (q : Q ((l.filter pr).map f) τ) : lcTW t tt te p c Q (l.map g) [] env τ :=
  lcT_filt' g f pr hc l [] h (by simpa using hl) q
end
theorem cget_app {new r : List (Addr × Cel)} {p : Addr} {c : Cel} (h : cget new p = some c) : cget (new ++ r) p = some c := by
  induction new with
  | nil => cases h
  | cons a t ih =>
    obtain ⟨q, c0⟩ := a
    rw [List.cons_append]
    unfold cget at h ⊢
    by_cases e : q = p
    · rw [if_pos e] at h ⊢; exact h
    · rw [if_neg e] at h ⊢; exact ih h
theorem cset_app {new r : List (Addr × Cel)} {p : Addr} {c c' : Cel} (h : cget new p = some c) : cset (new ++ r) p c' = cset new p c' ++ r := by
  induction new with
  | nil => cases h
  | cons a t ih =>
    obtain ⟨q, c0⟩ := a
    rw [List.cons_append]
    unfold cset
    unfold cget at h
    by_cases e : q = p
    · rw [if_pos e, if_pos e]; rfl
    · rw [if_neg e] at h
      rw [if_neg e, if_neg e, ih h]; rfl
theorem cget_key {cs : List (Addr × Cel)} {p : Addr} {c : Cel} (h : cget cs p = some c) : p ∈ cs.map (·.1) := List.mem_map.mpr ⟨_, cget_mem h, rfl⟩
theorem cget_hd {p : Addr} {c : Cel} {cs : List (Addr × Cel)} : cget ((p, c) :: cs) p = some c := by
  unfold cget
  rw [if_pos rfl]
theorem cset_hd {p : Addr} {c c' : Cel} {cs : List (Addr × Cel)} : cset ((p, c) :: cs) p c' = (p, c') :: cs := by
  unfold cset
  rw [if_pos rfl]
theorem cget_tl {p q : Addr} {c : Cel} {cs : List (Addr × Cel)} (h : q ≠ p) : cget ((q, c) :: cs) p = cget cs p := by
  show (if q = p then some c else cget cs p) = _
  rw [if_neg h]
theorem cset_tl {p q : Addr} {c c' : Cel} {cs : List (Addr × Cel)} (h : q ≠ p) : cset ((q, c) :: cs) p c' = (q, c) :: cset cs p c' := by
  show (if q = p then (q, c') :: cs else (q, c) :: cset cs p c') = _
  rw [if_neg h]
end Z
namespace Z
open PySem L2
/-! the simplest steps of a reading -/
/-! the simplest steps of a reading -/
local macro_rules | `(tactic| walk_at "y") => do
  let xs ← ("dAsgL_k kUnl_1 kUnl_2 kUnl2_1 dCnt_k kCnt1_1 kCnt1_2 kCnt1_3 dNewD_k dUpdD_k kUpd0_1 dSrtD_k kSrt0_1 dNe0_k kNe0_1 dCallV_k dCallVX_k dRg_k kRgA kRgB_k dNil3_k dRevT_k kRevT_k gSumA_t gSumA_l gSumA_ol gSumA_vw dGIndex_k gAbs_i dMnD_k dCallX_k kCallX dIsX_k dLam_k dRaise_k dLenSet_k kLenSet dRev_k kRev_1 kRev_2 kRev_3 gReprE_e gReprE_s gReprE_i gReprE_b gReprE_n gReprE_l gReprE_t gReprE_ol gReprE_vw gBits_k dRng3_k kAu_i kAug_1 gTupC_k gLstC_k kSe_1 gIn_sf gIn_st gIn_tf gIn_tt flatD_none flatD_int flatD_str flatD_bool List.any_cons List.any_nil Bool.or_false dOwn_k kOw_1 kOw_2 kOw_3 kEx_1 kExt_1 dExt_k kSI4_1 kSI3_1 kSI2_1 kSI1 kSetI_1 dSetI_k kEn_k dEnum_k kEn2_l kEn2_t dEnum2_k kZp_l kZp_u dZip_k gMulA_i gMulA_s dVar_k dC_k dRaw_k dOp_k dT_k kChB_t kChB_f dChain_k dTru_k kAndT_t kAndT_f kOrT_t kOrT_f dAndT_k dOrT_k dNotT_k dAnd_k dOr_k dNot_k kIf_t kIf_f dIf_k dNil_k dCons_k dTup_k dLst_k dCB_k dCall_k dNext_k dSeq_k dBreak_k dCont_k dNever_k dDrop_k dRet_k dRetN_k kIfS_t kIfS_f dIfS_k dSet_k dAsg_k dPar_k kPar_k dApp_k dFrz_k dSeqI_k dRng1_k dRng2_k kR1_k kR2_k dFor_k dLc_k dYes_k kTurn_t kTurn_f dSl_k dNoPart_k dPart_k dUn_k dEmp_k dM1_k kM1_k gI_k gAdd_i gAdd_s gAdd_t gAdd_ll gAdd_lo gAdd_ol gAdd_oo gAdd_vo gAdd_ov gAdd_vv gEq_k gNe_k gCmp_i gCmp_s gIsN_d gNotN_d gIsN_ol gNotN_ol gIsN_vw gNotN_vw gIx_s gIx_t gIx_l gIx_ol gIx_vw gSl_s gSl_t gSl_l gSl_ol gSl_vw gLen_s gLen_t gLen_l gLen_ol gLen_vw gIsi_k gAll_d gAll_ol gAny_d gAny_ol gInt_i gInt_b gInt_s gII_k gNeg_k gJoin_ol gJoin_l gJoin_t gJoin_vw gMul_i gMul_s kG kV_1 kV_2 kV_3 kOp2 kOp1 kTb_1 kTb_2 kT kCh3 kCh4 kCh2 kCh1 kTru kNotT kAndB_1 kAndB_2 kAndB_3 kOrB_1 kOrB_2 kOrB_3 kAnd kOr kNotB_1 kNotB_2 kNot kCo2 kCoB_1 kCoB_2 kCo kTupB_1 kTupB_2 kTup kLstB_1 kLstB_2 kLst kCB kCall kNx kDrop kRet kStB_1 kStB_2 kSet kEnv_1 kEnv_2 kAsB_1 kAsB_2 kAsg kApD_1 kApD_2 kAp kApp_1 kFrz_1 kFrz_2 kSqB_1 kSqB_2 kSq kFor kOl kLc kDt_1 kDt_2 kDat kTgB_1 kTgB_2 kFtB_1 kFtB_2 kSl3 kSl2 kSl1 kPtB_1 kPtB_2 kPt kUn kM2 kEq2_1 kEq2_2 kEq1_1 kEq1_2 kIsB_1 kIsB_2 kAtS_1 kAtS_2 kAt_1 kAt_2 kTy_1 kTy_2 kBls_1 kBls_2 kJn_1 kJn_2 SV.arg SV.dat? SV.sto SV.out SV.dr SV.truth SV.lst? SV.seqd? SV.now? SV.seq? SV.isN SV.size? SV.tyN SV.bl? SV.int? tyNs_none tyNs_bool tyNs_int tyNs_str tyNs_list tyNs_tuple tyNs_dict tyCs isTs szs noC_t eqOks_none_none eqOks_none_int eqOks_int_none eqOks_none_bool eqOks_bool_none eqOks_none_str eqOks_str_none eqOks_int_int eqOks_bool_bool eqOks_str_str eqOks_int_str eqOks_str_int eqOks_bool_str eqOks_str_bool eqv_int eqv_bool eqv_none_none eqv_none_bool eqv_none_int eqv_none_str eqv_none_list eqv_none_tuple eqv_bool_none eqv_bool_str eqv_bool_list eqv_bool_tuple eqv_int_none eqv_int_str eqv_int_list eqv_int_tuple eqv_str_none eqv_str_bool eqv_str_int eqv_str_list eqv_str_tuple eqv_list_none eqv_list_bool eqv_list_int eqv_list_str eqv_list_tuple eqv_tuple_none eqv_tuple_bool eqv_tuple_int eqv_tuple_str eqv_tuple_list allD tgE tgEs wipeE List.map_cons List.map_nil List.getElem?_cons_zero List.getElem?_cons_succ List.set_cons_zero List.set_cons_succ List.all_cons List.all_nil Bool.and_true Bool.and_self Option.map_some Option.bind_some List.cons_append List.nil_append List.length_cons List.length_nil List.replicate Nat.reduceAdd Nat.reduceSub Nat.reduceLeDiff Nat.reduceMul Bool.not_true Bool.not_false Bool.false_xor Bool.true_xor true_and and_true beq_self_eq_true eq_self decide_true Bool.true_and Bool.false_and Nat.zero_le List.isEmpty_cons List.isEmpty_nil".splitOn " ").toArray.mapM fun s => `(Lean.Parser.Tactic.simpLemma| $(Lean.mkIdent s.toName):ident)
  `(tactic| simp only [$xs,*])
/-! the simplest steps of a reading -/
local macro_rules | `(tactic| walk_at "x") => `(tactic| (try walk_at "y"))
local macro_rules | `(tactic| walk_at "i") => `(tactic| (refine kAt_of (by decide) (by simp only [List.length_cons, List.length_nil]; decide) (fun z ez _ => ?_); cases ez; walk_at "x"))
local macro_rules | `(tactic| walk_at "len") => `(tactic| first | (rintro ⟨e, _⟩; rw [e]; rfl) | (rintro ⟨_, h⟩; revert h; walk_at "len"))
local macro_rules | `(tactic| walk_at "v") => `(tactic| (intro rs τ Q; walk_at "len"))
local macro_rules | `(tactic| walk_at "u") => `(tactic| (intro rs τ Q Ed; walk_at "len"))
local macro_rules | `(tactic| walk_at "w") => `(tactic| (rintro rs τ Q ⟨_, h, _⟩; revert h; walk_at "len"))
def plainD : D → Prop
  | .dict (_ :: _) => False
  | _ => True
/-- plain, and if a tuple, of plain things -/
def pl (x : D) : Prop := plainD x ∧ ∀ xs, x = .tuple xs → ∀ y ∈ xs, plainD y
def shD (y : D) : Prop := y.canLay0 = true ∧ y.depth ≤ 60
theorem canAll_mem : ∀ {xs : List D}, PyData.canLayAll0 xs = true → ∀ y ∈ xs, y.canLay0 = true
  | x :: r, h, y, hy => by
    rw [PyData.canLayAll0, Bool.and_eq_true] at h
    rcases List.mem_cons.mp hy with rfl | hy
    · exact h.1
    · exact canAll_mem h.2 y hy
theorem depAll_mem : ∀ {xs : List D}, ∀ y ∈ xs, y.depth ≤ PyData.depthAll xs
  | x :: r, y, hy => by
    rw [PyData.depthAll]
    rcases List.mem_cons.mp hy with rfl | hy
    · exact Nat.le_max_left _ _
    · exact Nat.le_trans (depAll_mem y hy) (Nat.le_max_right _ _)
def tI (ns : List Int) : D := .tuple (ns.map .int)
def kD (lo hi fe ma : Int) (u d n : Bool) (fr to : Int) : D := .tuple [.int lo, .int hi, .int fe, .int ma, .bool u, .bool d, .bool n, .int fr, .int to]
/-- what may be looked at, and told -/
def fineD (x : D) : Prop := pl x ∧ (x = .dict [] ∨ Rb 10 100000 x)
theorem fineD.sh {x : D} (h : fineD x) : ∀ xs, x = .tuple xs → ∀ y ∈ xs, shD y := by
  rintro xs rfl y hy
  rcases h.2 with h | h
  · cases h
  · have h1 := h.lay
    have h2 := h.dp
    rw [PyData.canLay0] at h1
    rw [PyData.depth] at h2
    exact ⟨canAll_mem h1 y hy, by have := depAll_mem y hy; omega⟩
/-- a scalar -/
def scD (x : D) : Prop := plainD x ∧ Rb 0 200 x
theorem scD.to {x : D} (h : scD x) : plainD x ∧ Rb 1 300 x := ⟨h.1, h.2.le (by decide) (by decide)⟩
def geB (a b : Int) : Bool := decide (b ≤ a)
def leB (a b : Int) : Bool := decide (a ≤ b)
/-! ### lots of sums as bits: bit s + 160 of a number stands for the sum s -/
/-- the number b holds the sum s -/
def hasS (b : Int) (s : Int) : Prop := 0 ≤ b ∧ 0 ≤ s + 160 ∧ b.toNat.testBit (s + 160).toNat = true
theorem or_has {a b : Int} (ha : 0 ≤ a) (hb : 0 ≤ b) (s : Int) : hasS (Builtin.bitOr a b) s ↔ hasS a s ∨ hasS b s := by
  rw [L2.bitOr_nn ha hb]
  unfold hasS
  rw [Int.toNat_natCast, Nat.testBit_or, Bool.or_eq_true]
  constructor
  · rintro ⟨_, h1, h2 | h2⟩
    · exact .inl ⟨ha, h1, h2⟩
    · exact .inr ⟨hb, h1, h2⟩
  · rintro (⟨_, h1, h2⟩ | ⟨_, h1, h2⟩)
    · exact ⟨by omega, h1, .inl h2⟩
    · exact ⟨by omega, h1, .inr h2⟩
/-- the same number holds the same sums -/
theorem has_ext {a b : Int} (ha : 0 ≤ a) (hb : 0 ≤ b) (h : ∀ s : Int, hasS a s ↔ hasS b s) : a = b := by
  have e : a.toNat = b.toNat := by
    apply Nat.eq_of_testBit_eq
    intro i
    have := h ((i : Int) - 160)
    unfold hasS at this
    rw [show ((i : Int) - 160 + 160).toNat = i by omega] at this
    rw [Bool.eq_iff_iff]
    exact ⟨fun z => (this.mp ⟨ha, by omega, z⟩).2.2, fun z => (this.mpr ⟨hb, by omega, z⟩).2.2⟩
  omega
theorem shl_has {b : Int} (hb : 0 ≤ b) {n : Nat} (s : Int) : hasS (b * 2 ^ n) s ↔ 0 ≤ s + 160 ∧ (n : Int) ≤ s + 160 ∧ hasS b (s - n) := by
  have e : (b * 2 ^ n).toNat = b.toNat * 2 ^ n := by
    obtain ⟨m, rfl⟩ := Int.eq_ofNat_of_zero_le hb
    have : ((m : Int) * 2 ^ n) = ((m * 2 ^ n : Nat) : Int) := by simp
    rw [this, Int.toNat_natCast, Int.toNat_natCast]
  have h0 : 0 ≤ b * 2 ^ n := Int.mul_nonneg hb (Int.le_of_lt (Int.pow_pos (by decide)))
  unfold hasS
  rw [e, Nat.testBit_mul_two_pow, Bool.and_eq_true, decide_eq_true_eq]
  constructor
  · rintro ⟨_, h1, h2, h3⟩
    refine ⟨h1, by omega, hb, by omega, ?_⟩
    rw [show (s - n + 160).toNat = (s + 160).toNat - n by omega]
    exact h3
  · rintro ⟨h1, h2, _, _, h3⟩
    refine ⟨h0, h1, by omega, ?_⟩
    rw [show (s - n + 160).toNat = (s + 160).toNat - n by omega] at h3
    exact h3
theorem shr_has {b : Int} (hb : 0 ≤ b) {n : Nat} (s : Int) : hasS (b / 2 ^ n) s ↔ 0 ≤ s + 160 ∧ hasS b (s + n) := by
  have e : (b / 2 ^ n).toNat = b.toNat / 2 ^ n := by
    obtain ⟨m, rfl⟩ := Int.eq_ofNat_of_zero_le hb
    have : ((m : Int) / 2 ^ n) = ((m / 2 ^ n : Nat) : Int) := by simp
    rw [this, Int.toNat_natCast, Int.toNat_natCast]
  have h0 : 0 ≤ b / 2 ^ n := Int.ediv_nonneg hb (Int.le_of_lt (Int.pow_pos (by decide)))
  unfold hasS
  rw [e, Nat.testBit_div_two_pow]
  constructor
  · rintro ⟨_, h1, h3⟩
    refine ⟨h1, hb, by omega, ?_⟩
    rw [show (s + n + 160).toNat = n + (s + 160).toNat by omega]
    rw [Nat.add_comm]
    exact h3
  · rintro ⟨h1, _, _, h3⟩
    refine ⟨h0, h1, ?_⟩
    rw [show (s + n + 160).toNat = n + (s + 160).toNat by omega] at h3
    rw [Nat.add_comm] at h3
    exact h3
/-- a run of ones -/
theorem ones_has {a n : Nat} (s : Int) : hasS (2 ^ (a + n) - 2 ^ a) s ↔ 0 ≤ s + 160 ∧ (a : Int) ≤ s + 160 ∧ s + 160 < (a : Int) + n := by
  have e : ((2 : Int) ^ (a + n) - 2 ^ a) = ((2 ^ n - 1 : Nat) : Int) * 2 ^ a := by
    have h1 : 1 ≤ 2 ^ n := Nat.one_le_two_pow
    rw [Int.pow_add, Int.ofNat_sub h1, Int.sub_mul]
    simp [Int.mul_comm]
  rw [e, shl_has (Int.natCast_nonneg _)]
  unfold hasS
  rw [Int.toNat_natCast, Nat.testBit_two_pow_sub_one, decide_eq_true_eq]
  constructor
  · rintro ⟨h1, h2, _, h4, h5⟩
    exact ⟨h1, h2, by omega⟩
  · rintro ⟨h1, h2, h3⟩
    exact ⟨h1, h2, Int.natCast_nonneg _, by omega, by omega⟩
/-! ### lots of numbers, plain -/
/-- l is a lot of the numbers ns: all alike where lvl, no two alike where unl -/
def IsLot (ns : List Int) (lvl unl : Bool) (l : List Int) : Prop := (∀ x ∈ l, x ∈ ns) ∧ (unl = true → l.Nodup) ∧ (lvl = true → ∀ x ∈ l, ∀ y ∈ l, x = y)
def Lot (ns : List Int) (lvl unl : Bool) (m : Nat) (s : Int) : Prop := ∃ l : List Int, IsLot ns lvl unl l ∧ l.length = m ∧ l.sum = s
theorem IsLot.nil {ns : List Int} {lvl unl : Bool} : IsLot ns lvl unl [] := ⟨by simp, by simp, by simp⟩
theorem lot_zero {ns : List Int} {lvl unl : Bool} {s : Int} : Lot ns lvl unl 0 s ↔ s = 0 := by
  constructor
  · rintro ⟨l, h, h1, h2⟩
    rw [List.length_eq_zero_iff] at h1
    subst h1
    simpa using h2.symm
  · rintro rfl
    exact ⟨[], .nil, rfl, rfl⟩
theorem lot_rep {ns : List Int} {m : Nat} {s : Int} : Lot ns false false (m + 1) s ↔ ∃ x ∈ ns, Lot ns false false m (s - x) := by
  constructor
  · rintro ⟨l, ⟨h, _, _⟩, h1, h2⟩
    cases l with
    | nil => simp at h1
    | cons x l =>
      simp only [List.length_cons, List.sum_cons] at h1 h2
      exact ⟨x, h x List.mem_cons_self, l, ⟨fun y hy => h y (List.mem_cons_of_mem _ hy), by simp, by simp⟩, by omega, by omega⟩
  · rintro ⟨x, hx, l, ⟨h, _, _⟩, h1, h2⟩
    refine ⟨x :: l, ⟨?_, by simp, by simp⟩, by simp [h1], by simp only [List.sum_cons]; omega⟩
    intro y hy
    rcases List.mem_cons.mp hy with rfl | hy
    · exact hx
    · exact h y hy
theorem sum_erase {x : Int} : ∀ {l : List Int}, x ∈ l → (l.erase x).sum = l.sum - x
  | a :: l, h => by
    by_cases e : a = x
    · subst e
      rw [List.erase_cons_head, List.sum_cons]
      omega
    · rw [List.erase_cons_tail (by simpa using e), List.sum_cons, List.sum_cons]
      have : x ∈ l := by
        rcases List.mem_cons.mp h with h | h
        · exact absurd h.symm e
        · exact h
      rw [sum_erase this]
      omega
theorem sum_perm {l k : List Int} (h : l.Perm k) : l.sum = k.sum := by
  induction h with
  | nil => rfl
  | cons x _ ih => rw [List.sum_cons, List.sum_cons, ih]
  | swap x y l => simp only [List.sum_cons]; omega
  | trans _ _ a b => rw [a, b]
theorem lot_unl {ns : List Int} {x : Int} (hx : x ∉ ns) {m : Nat} {s : Int} : Lot (ns ++ [x]) false true (m + 1) s ↔ Lot ns false true (m + 1) s ∨ Lot ns false true m (s - x) := by
  constructor
  · rintro ⟨l, ⟨h, hn, _⟩, h1, h2⟩
    by_cases hxl : x ∈ l
    · right
      refine ⟨l.erase x, ⟨fun y hy => ?_, fun _ => (hn rfl).erase x, by simp⟩, by rw [List.length_erase_of_mem hxl]; omega, by rw [sum_erase hxl, h2]⟩
      have hy' := (List.Nodup.mem_erase_iff (hn rfl)).mp hy
      rcases List.mem_append.mp (h y hy'.2) with h' | h'
      · exact h'
      · exact absurd (List.mem_singleton.mp h') hy'.1
    · left
      refine ⟨l, ⟨fun y hy => ?_, hn, by simp⟩, h1, h2⟩
      rcases List.mem_append.mp (h y hy) with h' | h'
      · exact h'
      · rw [List.mem_singleton.mp h'] at hy
        exact absurd hy hxl
  · rintro (⟨l, ⟨h, hn, _⟩, h1, h2⟩ | ⟨l, ⟨h, hn, _⟩, h1, h2⟩)
    · exact ⟨l, ⟨fun y hy => List.mem_append_left _ (h y hy), hn, by simp⟩, h1, h2⟩
    · refine ⟨x :: l, ⟨fun y hy => ?_, fun _ => List.nodup_cons.mpr ⟨fun z => hx (h x z), hn rfl⟩, by simp⟩, by simp [h1], by simp only [List.sum_cons]; omega⟩
      rcases List.mem_cons.mp hy with rfl | hy
      · simp
      · exact List.mem_append_left _ (h y hy)
theorem all_same : ∀ {l : List Int} {x : Int}, (∀ y ∈ l, y = x) → l = List.replicate l.length x
  | [], _, _ => rfl
  | a :: l, x, h => by
    rw [List.length_cons, List.replicate_succ, ← all_same fun y hy => h y (List.mem_cons_of_mem _ hy), h a List.mem_cons_self]
theorem sum_rep (m : Nat) (x : Int) : (List.replicate m x).sum = m * x := by
  induction m with
  | zero => simp
  | succ m ih => rw [List.replicate_succ, List.sum_cons, ih, Int.natCast_succ, Int.add_mul]; omega
theorem lot_lvl {ns : List Int} {unl : Bool} {m : Nat} {s : Int} : Lot ns true unl (m + 1) s ↔ ∃ x ∈ ns, (m = 0 ∨ unl = false) ∧ s = ((m : Int) + 1) * x := by
  constructor
  · rintro ⟨l, ⟨h, hn, he⟩, h1, h2⟩
    cases l with
    | nil => simp at h1
    | cons x l =>
      have e : l = List.replicate l.length x := all_same fun y hy => he rfl y (List.mem_cons_of_mem _ hy) x List.mem_cons_self
      have hl : l.length = m := by simpa using h1
      rw [hl] at e
      refine ⟨x, h x List.mem_cons_self, ?_, ?_⟩
      · cases unl with
        | false => exact .inr rfl
        | true =>
          left
          have := (List.nodup_cons.mp (hn rfl)).1
          cases m with
          | zero => rfl
          | succ m => rw [e, List.replicate_succ] at this; simp at this
      · rw [← h2, List.sum_cons, e, sum_rep, Int.add_mul]
        omega
  · rintro ⟨x, hx, hm, rfl⟩
    refine ⟨List.replicate (m + 1) x, ⟨fun y hy => by rw [List.eq_of_mem_replicate hy]; exact hx, fun hu => ?_, fun _ y hy z hz => by rw [List.eq_of_mem_replicate hy, List.eq_of_mem_replicate hz]⟩, by simp, by rw [sum_rep]; simp⟩
    rcases hm with rfl | hm
    · simp
    · rw [hu] at hm; cases hm
theorem sum_bound {l : List Int} (h : ∀ x ∈ l, -20 ≤ x ∧ x ≤ 20) : -(20 * (l.length : Int)) ≤ l.sum ∧ l.sum ≤ 20 * (l.length : Int) := by
  induction l with
  | nil => simp
  | cons a l ih =>
    have h1 := ih fun x hx => h x (List.mem_cons_of_mem _ hx)
    have h2 := h a List.mem_cons_self
    simp only [List.length_cons, List.sum_cons]
    omega
theorem lot_bound {ns : List Int} {lvl unl : Bool} {m : Nat} {s : Int} (hn : ∀ x ∈ ns, -20 ≤ x ∧ x ≤ 20) (h : Lot ns lvl unl m s) : -(20 * (m : Int)) ≤ s ∧ s ≤ 20 * m := by
  obtain ⟨l, ⟨h1, _, _⟩, rfl, rfl⟩ := h
  exact sum_bound fun x hx => hn x (h1 x hx)
/-! ### rows of a kind and lots; the least kind of some rows -/
theorem pairs_pw {r : Int → Int → Bool} : ∀ {l : List Int}, pairsB r l = true ↔ l.Pairwise fun a b => r a b = true
  | [] => by simp [pairsB]
  | a :: l => by
    rw [pairsB, Bool.and_eq_true, pairs_pw, List.pairwise_cons, List.all_eq_true]
def span (lo hi : Int) : List Int := (List.range (hi + 1 - lo).toNat).map fun (i : Nat) => lo + (i : Int)
theorem mem_span {lo hi x : Int} : x ∈ span lo hi ↔ lo ≤ x ∧ x ≤ hi := by
  unfold span
  rw [List.mem_map]
  constructor
  · rintro ⟨i, hi, rfl⟩
    rw [List.mem_range] at hi
    omega
  · rintro ⟨h1, h2⟩
    exact ⟨(x - lo).toNat, by rw [List.mem_range]; omega, by omega⟩
/-- the rows of a kind -/
def RowOf (lo hi fe ma : Int) (u d n : Bool) (fr to : Int) (r : List Int) : Prop :=
  (fe ≤ (r.length : Int) ∧ (r.length : Int) ≤ ma) ∧ (fr ≤ r.sum ∧ r.sum ≤ to) ∧ (∀ x ∈ r, lo ≤ x ∧ x ≤ hi) ∧ (n = true → r.Nodup) ∧ (u = true → pairsB leB r = true) ∧ (d = true → pairsB geB r = true)
theorem leB_same {l : List Int} (h : ∀ x ∈ l, ∀ y ∈ l, x = y) : pairsB leB l = true := pairs_pw.mpr (List.pairwise_of_forall_mem_list fun x hx y hy => by unfold leB; rw [h x hx y hy]; simp)
theorem geB_same {l : List Int} (h : ∀ x ∈ l, ∀ y ∈ l, x = y) : pairsB geB l = true := pairs_pw.mpr (List.pairwise_of_forall_mem_list fun x hx y hy => by unfold geB; rw [h x hx y hy]; simp)
/-- the rising and the falling row of a lot -/
def up (l : List Int) : List Int := l.mergeSort leB
theorem up_perm (l : List Int) : (up l).Perm l := List.mergeSort_perm l leB
theorem up_le (l : List Int) : pairsB leB (up l) = true := by
  rw [pairs_pw]
  refine List.pairwise_mergeSort (le := leB) (fun a b c h1 h2 => ?_) (fun a b => ?_) l
  · have h1 := of_decide_eq_true h1
    have h2 := of_decide_eq_true h2
    exact decide_eq_true (by omega)
  · unfold leB
    simp only [Bool.or_eq_true, decide_eq_true_eq]
    omega
theorem dn_ge (l : List Int) : pairsB geB (up l).reverse = true := by
  rw [pairs_pw, List.pairwise_reverse]
  exact (pairs_pw.mp (up_le l)).imp fun {a b} z => by
    unfold geB leB at *
    exact z
theorem dn_perm (l : List Int) : ((up l).reverse).Perm l := (List.reverse_perm _).trans (up_perm l)
section
variable {lo hi fe ma : Int} {u d n : Bool} {fr to : Int}
/-- any order of a lot that the words let -/
theorem rowOf_perm {l r : List Int} (hl : IsLot (span lo hi) (u && d) n l) (hp : r.Perm l) (h1 : fe ≤ (l.length : Int) ∧ (l.length : Int) ≤ ma) (h2 : fr ≤ l.sum ∧ l.sum ≤ to)
    (hu : u = true → d = false → pairsB leB r = true) (hd : d = true → u = false → pairsB geB r = true) : RowOf lo hi fe ma u d n fr to r := by
  have hs : (u && d) = true → ∀ x ∈ r, ∀ y ∈ r, x = y := fun e x hx y hy => hl.2.2 e x (hp.mem_iff.mp hx) y (hp.mem_iff.mp hy)
  refine ⟨by rw [hp.length_eq]; exact h1, by rw [sum_perm hp]; exact h2, fun x hx => mem_span.mp (hl.1 x (hp.mem_iff.mp hx)), fun hn => hp.nodup_iff.mpr (hl.2.1 hn), fun e => ?_, fun e => ?_⟩
  · cases ed : d with
    | true => exact leB_same (hs (by rw [e, ed]; rfl))
    | false => exact hu e ed
  · cases eu : u with
    | true => exact geB_same (hs (by rw [e, eu]; rfl))
    | false => exact hd e eu
/-- a lot laid in a row -/
theorem lay {l : List Int} (hl : IsLot (span lo hi) (u && d) n l) (h1 : fe ≤ (l.length : Int) ∧ (l.length : Int) ≤ ma) (h2 : fr ≤ l.sum ∧ l.sum ≤ to) : ∃ r, r.Perm l ∧ RowOf lo hi fe ma u d n fr to r := by
  cases hu : u with
  | true =>
    refine ⟨up l, up_perm l, ?_⟩
    rw [← hu]
    exact rowOf_perm hl (up_perm l) h1 h2 (fun _ _ => up_le l) (fun _ e => by rw [hu] at e; cases e)
  | false =>
    refine ⟨(up l).reverse, dn_perm l, ?_⟩
    rw [← hu]
    exact rowOf_perm hl (dn_perm l) h1 h2 (fun e => by rw [hu] at e; cases e) (fun _ _ => dn_ge l)
end
/-! the least kind -/
structure IsLeast (R : List Int → Prop) (lo hi fe ma : Int) (u d n : Bool) (fr to : Int) : Prop where
  lo : ((∀ r, R r → r = []) ∧ lo = 0) ∨ (∃ r, R r ∧ lo ∈ r) ∧ ∀ r, R r → ∀ x ∈ r, lo ≤ x
  hi : ((∀ r, R r → r = []) ∧ hi = 0) ∨ (∃ r, R r ∧ hi ∈ r) ∧ ∀ r, R r → ∀ x ∈ r, x ≤ hi
  fe : (∃ r, R r ∧ (r.length : Int) = fe) ∧ ∀ r, R r → fe ≤ (r.length : Int)
  ma : (∃ r, R r ∧ (r.length : Int) = ma) ∧ ∀ r, R r → (r.length : Int) ≤ ma
  u : u = true ↔ ∀ r, R r → pairsB leB r = true
  d : d = true ↔ ∀ r, R r → pairsB geB r = true
  n : n = true ↔ ∀ r, R r → r.Nodup
  fr : (∃ r, R r ∧ r.sum = fr) ∧ ∀ r, R r → fr ≤ r.sum
  to : (∃ r, R r ∧ r.sum = to) ∧ ∀ r, R r → r.sum ≤ to
def nothingD : D := kD 20 (-20) 8 0 true true true 160 (-160)
def LeastD (R : List Int → Prop) (k : D) : Prop := ((∀ r, ¬ R r) ∧ k = nothingD) ∨ ∃ lo hi fe ma u d n fr to, IsLeast R lo hi fe ma u d n fr to ∧ k = kD lo hi fe ma u d n fr to
theorem end_eq {R : List Int → Prop} {f : Int → Int → Prop} (hf : ∀ a b, f a b → f b a → a = b) {a b : Int}
    (ha : ((∀ r, R r → r = []) ∧ a = 0) ∨ (∃ r, R r ∧ a ∈ r) ∧ ∀ r, R r → ∀ x ∈ r, f a x) (hb : ((∀ r, R r → r = []) ∧ b = 0) ∨ (∃ r, R r ∧ b ∈ r) ∧ ∀ r, R r → ∀ x ∈ r, f b x) : a = b := by
  have no : ∀ {c : Int}, (∀ r, R r → r = []) → (∃ r, R r ∧ c ∈ r) → False := fun h ⟨r, h1, h2⟩ => by
    rw [h r h1] at h2
    cases h2
  rcases ha with ⟨h1, rfl⟩ | ⟨⟨r, h1, h2⟩, h3⟩ <;> rcases hb with ⟨g1, rfl⟩ | ⟨⟨q, g1, g2⟩, g3⟩
  · rfl
  · exact (no h1 ⟨q, g1, g2⟩).elim
  · exact (no g1 ⟨r, h1, h2⟩).elim
  · exact hf _ _ (h3 q g1 _ g2) (g3 r h1 _ h2)
theorem LeastD.eq {R : List Int → Prop} {k k' : D} (h : LeastD R k) (h' : LeastD R k') : k = k' := by
  rcases h with ⟨h1, rfl⟩ | ⟨lo, hi, fe, ma, u, d, n, fr, to, h, rfl⟩ <;> rcases h' with ⟨g1, rfl⟩ | ⟨lo', hi', fe', ma', u', d', n', fr', to', g, rfl⟩
  · rfl
  · obtain ⟨r, hr, _⟩ := g.fe.1
    exact (h1 r hr).elim
  · obtain ⟨r, hr, _⟩ := h.fe.1
    exact (g1 r hr).elim
  · have le : ∀ a b : Int, a ≤ b → b ≤ a → a = b := fun a b h1 h2 => by omega
    have e1 := end_eq (f := fun a b => a ≤ b) le h.lo g.lo
    have e2 := end_eq (f := fun a b => b ≤ a) (fun a b h1 h2 => by omega) h.hi g.hi
    have be : ∀ {P : Prop} {a b : Bool}, (a = true ↔ P) → (b = true ↔ P) → a = b := fun h1 h2 => Bool.eq_iff_iff.mpr (h1.trans h2.symm)
    have e3 := be h.u g.u
    have e4 := be h.d g.d
    have e5 := be h.n g.n
    have e6 : fe = fe' := by
      obtain ⟨⟨r, h1, rfl⟩, h2⟩ := h.fe
      obtain ⟨⟨q, g1, rfl⟩, g2⟩ := g.fe
      have := h2 q g1
      have := g2 r h1
      omega
    have e7 : ma = ma' := by
      obtain ⟨⟨r, h1, rfl⟩, h2⟩ := h.ma
      obtain ⟨⟨q, g1, rfl⟩, g2⟩ := g.ma
      have := h2 q g1
      have := g2 r h1
      omega
    have e8 : fr = fr' := by
      obtain ⟨⟨r, h1, rfl⟩, h2⟩ := h.fr
      obtain ⟨⟨q, g1, rfl⟩, g2⟩ := g.fr
      have := h2 q g1
      have := g2 r h1
      omega
    have e9 : to = to' := by
      obtain ⟨⟨r, h1, rfl⟩, h2⟩ := h.to
      obtain ⟨⟨q, g1, rfl⟩, g2⟩ := g.to
      have := h2 q g1
      have := g2 r h1
      omega
    subst e1 e2 e3 e4 e5 e6 e7 e8 e9
    rfl
/-! ### the narrow form -/
/-! ### the least and the greatest sum that bits tell; what two have in common -/
theorem greatest_has {b : Int} (hb : 0 < b) : ∃ s : Int, hasS b s ∧ (∀ t, hasS b t → t ≤ s) ∧ (Builtin.Int.intBits b : Int) - 1 - 160 = s := by
  have hb' : b.toNat ≠ 0 := by omega
  have e : Builtin.Int.intBits b = b.toNat.log2 + 1 := by
    unfold Builtin.Int.intBits
    rw [if_neg (by simp; omega), show b.natAbs = b.toNat by omega]
  refine ⟨(b.toNat.log2 : Int) - 160, ⟨by omega, by omega, ?_⟩, fun t ht => ?_, by rw [e]; omega⟩
  · rw [show ((b.toNat.log2 : Int) - 160 + 160).toNat = b.toNat.log2 by omega]
    exact Nat.testBit_log2 hb'
  · have h1 := ht.2.2
    have h2 := ht.2.1
    have h3 := Nat.ge_two_pow_of_testBit h1
    have h4 : (t + 160).toNat ≤ b.toNat.log2 := (Nat.le_log2 hb').mpr h3
    omega
/-! ### sums of lots of numbers side by side -/
/-! ### texts of kinds: unlike kinds have unlike texts -/
/-- the number f holds just the sums that P lets -/
def BitsOf (f : Int) (P : Int → Prop) : Prop := 0 ≤ f ∧ ∀ s, hasS f s ↔ P s
theorem BitsOf.eq {f g : Int} {P : Int → Prop} (h : BitsOf f P) (h' : BitsOf g P) : f = g := has_ext h.1 h'.1 fun s => (h.2 s).trans (h'.2 s).symm
theorem bits_le {f : Int} (h0 : 0 ≤ f) {b : Int} (h : ∀ s, hasS f s → s ≤ b) (hb : 0 ≤ b) : (Builtin.Int.intBits f : Int) ≤ b + 161 := by
  by_cases e : f = 0
  · subst e
    show ((0 : Nat) : Int) ≤ _
    omega
  · obtain ⟨s, h1, h2, h3⟩ := greatest_has (b := f) (by omega)
    have := h s h1
    omega
def inR (ns : List Int) : Prop := ∀ x ∈ ns, -20 ≤ x ∧ x ≤ 20
def FF_window : FW T2 := fun rs τ Q => ∃ a b : Int, rs = [.d (.int a), .d (.int b)] ∧ ∀ f, BitsOf f (fun s => (-160 ≤ s ∧ s ≤ 160) ∧ a ≤ s ∧ s ≤ b) → Q (.d (.int f)) τ
def FF_moved : FW T2 := fun rs τ Q => ∃ b n : Int, rs = [.d (.int b), .d (.int n)] ∧ 0 ≤ b ∧ (∀ s, hasS b s → s ≤ 1000) ∧ (-1000 ≤ n ∧ n ≤ 1000) ∧ ∀ f, BitsOf f (fun s => -160 ≤ s ∧ hasS b (s - n)) → Q (.d (.int f)) τ
def SumsOk (ns : List Int) (lvl unl : Bool) (fs : List Int) : Prop := ∀ (m : Nat) (f : Int), fs[m]? = some f → BitsOf f (Lot ns lvl unl m)
def FF_level_sums : FW T2 := fun rs τ Q => ∃ (ns : List Int) (m : Nat) (unl : Bool), rs = [.d (tI ns), .d (.int m), .d (.bool unl)] ∧ inR ns ∧ ns.length ≤ 100 ∧ m ≤ 8 ∧ ∀ fs : List Int, fs.length = m + 1 → SumsOk ns true unl fs → Q (.ol (fs.map .int)) τ
def FF_all_sums : FW T2 := fun rs τ Q => ∃ (ns : List Int) (m : Nat) (lvl unl : Bool), rs = [.d (tI ns), .d (.int m), .d (.bool lvl), .d (.bool unl)] ∧ inR ns ∧ ns.Nodup ∧ ns.length ≤ 100 ∧ m ≤ 8 ∧ ∀ fs : List Int, fs.length = m + 1 → SumsOk ns lvl unl fs → Q (.ol (fs.map .int)) τ
def FF_sums_of : FW T2 := fun rs τ Q => ∃ (ns : List Int) (m : Nat) (lvl unl : Bool), rs = [.d (tI ns), .d (.int m), .d (.bool lvl), .d (.bool unl)] ∧ inR ns ∧ ns.Nodup ∧ ns.length ≤ 100 ∧ m ≤ 8 ∧ ∀ f, BitsOf f (Lot ns lvl unl m) → Q (.d (.int f)) τ
def PairP (ns : List Int) (m : Nat) (bits : Int) (a : Bool) : Prop := ∃ s, hasS bits s ∧ 2 ≤ m ∧ ∃ x y, x ∈ ns ∧ y ∈ ns ∧ (if a = true then x = y else x < y) ∧ Lot ns false false (m - 2) (s - (x + y))
def PairAt (ns : List Int) (m : Nat) (bits : Int) (a : Bool) (x y : Int) : Prop := ∃ s, hasS bits s ∧ 2 ≤ m ∧ x ∈ ns ∧ y ∈ ns ∧ (if a = true then x = y else x < y) ∧ Lot ns false false (m - 2) (s - (x + y))
theorem PairAt.p {ns : List Int} {m : Nat} {bits : Int} {a : Bool} {x y : Int} (h : PairAt ns m bits a x y) : PairP ns m bits a := let ⟨s, h1, h2, h3⟩ := h; ⟨s, h1, h2, x, y, h3⟩
theorem span_inR {lo hi : Int} (h1 : -20 ≤ lo) (h2 : hi ≤ 20) : inR (span lo hi) := fun x hx => by
  rw [mem_span] at hx
  omega
theorem span_len {lo hi : Int} : (span lo hi).length = (hi + 1 - lo).toNat := by
  unfold span
  rw [List.length_map, List.length_range]
theorem span_lt (lo hi : Int) : (span lo hi).Pairwise (· < ·) := by
  unfold span
  rw [List.pairwise_map]
  exact List.pairwise_lt_range.imp fun {a b} h => by omega
theorem rgI_span (lo hi : Int) : rgI lo (hi + 1 - lo).toNat = (span lo hi).map .int := by
  unfold rgI span
  rw [List.map_map]
  rfl
theorem ixN_at {n j : Nat} (hj : j < n) : ixN n (j : Int) = some j := by
  have h0 : (0 : Int) ≤ (j : Int) := Int.natCast_nonneg j
  have h1 : (j : Int) < (n : Int) := Int.ofNat_lt.mpr hj
  simp [ixN, h0, h1]
theorem bitOr_nn0 {a b : Int} (ha : 0 ≤ a) (hb : 0 ≤ b) : 0 ≤ Builtin.bitOr a b := by
  rw [L2.bitOr_nn ha hb]
  omega
theorem zeros_map (m : Nat) : (List.replicate m [PyData.int 0]).flatten = (List.replicate m (0 : Int)).map .int := by
  induction m with
  | zero => rfl
  | succ m ih => rw [List.replicate_succ, List.flatten_cons, ih, List.replicate_succ]; rfl
/-! the law's own look -/
/-! kinds as they are -/
structure Kd where
  lo : Int
  hi : Int
  fe : Int
  ma : Int
  u : Bool
  d : Bool
  n : Bool
  fr : Int
  to : Int
def Kd.D (k : Kd) : D := kD k.lo k.hi k.fe k.ma k.u k.d k.n k.fr k.to
def Kd.R (k : Kd) : List Int → Prop := RowOf k.lo k.hi k.fe k.ma k.u k.d k.n k.fr k.to
theorem Kd.inj {k j : Kd} (h : k.D = j.D) : k = j := by
  cases k
  cases j
  simp only [Kd.D, kD, PyData.tuple.injEq, List.cons.injEq, PyData.int.injEq, PyData.bool.injEq, and_true] at h
  obtain ⟨rfl, rfl, rfl, rfl, rfl, rfl, rfl, rfl, rfl⟩ := h
  rfl
/-! ### whether the rows of a least kind are of another kind -/
/-! ### rows of both kinds, rows of either -/
def noneK : Kd := ⟨20, -20, 8, 0, true, true, true, 160, -160⟩
theorem kAt_at {xs : List D} {k : Nat} {a : D} {Q : SV → Prop} (h : xs[k]? = some a) : kAt Q (atI xs (k : Int)) = Q (.d a) := by
  have hk := (List.getElem?_eq_some_iff.mp h).1
  unfold atI
  rw [ixN_at hk]
  show kAt Q (xs[k]?) = _
  rw [h]
  rfl
section
variable {a0 a1 a2 a3 a4 a5 a6 a7 a8 : D} {t : List D} {Q : SV → Prop}
theorem at_0 : kAt Q (atI (a0 :: t) 0) = Q (.d a0) := kAt_at (k := 0) rfl
theorem at_1 : kAt Q (atI (a0 :: a1 :: t) 1) = Q (.d a1) := kAt_at (k := 1) rfl
theorem at_2 : kAt Q (atI (a0 :: a1 :: a2 :: t) 2) = Q (.d a2) := kAt_at (k := 2) rfl
theorem at_3 : kAt Q (atI (a0 :: a1 :: a2 :: a3 :: t) 3) = Q (.d a3) := kAt_at (k := 3) rfl
theorem at_4 : kAt Q (atI (a0 :: a1 :: a2 :: a3 :: a4 :: t) 4) = Q (.d a4) := kAt_at (k := 4) rfl
theorem at_5 : kAt Q (atI (a0 :: a1 :: a2 :: a3 :: a4 :: a5 :: t) 5) = Q (.d a5) := kAt_at (k := 5) rfl
theorem at_6 : kAt Q (atI (a0 :: a1 :: a2 :: a3 :: a4 :: a5 :: a6 :: t) 6) = Q (.d a6) := kAt_at (k := 6) rfl
theorem at_7 : kAt Q (atI (a0 :: a1 :: a2 :: a3 :: a4 :: a5 :: a6 :: a7 :: t) 7) = Q (.d a7) := kAt_at (k := 7) rfl
theorem at_8 : kAt Q (atI (a0 :: a1 :: a2 :: a3 :: a4 :: a5 :: a6 :: a7 :: a8 :: t) 8) = Q (.d a8) := kAt_at (k := 8) rfl
end
section
variable {g : Kd} {Q : SV → Prop}
theorem kdIx_0 : gIx (.d g.D) (.d (.int 0)) Q = Q (.d (.int g.lo)) := gIx_t.trans at_0
theorem kdIx_1 : gIx (.d g.D) (.d (.int 1)) Q = Q (.d (.int g.hi)) := gIx_t.trans at_1
theorem kdIx_2 : gIx (.d g.D) (.d (.int 2)) Q = Q (.d (.int g.fe)) := gIx_t.trans at_2
theorem kdIx_3 : gIx (.d g.D) (.d (.int 3)) Q = Q (.d (.int g.ma)) := gIx_t.trans at_3
theorem kdIx_4 : gIx (.d g.D) (.d (.int 4)) Q = Q (.d (.bool g.u)) := gIx_t.trans at_4
theorem kdIx_5 : gIx (.d g.D) (.d (.int 5)) Q = Q (.d (.bool g.d)) := gIx_t.trans at_5
theorem kdIx_6 : gIx (.d g.D) (.d (.int 6)) Q = Q (.d (.bool g.n)) := gIx_t.trans at_6
theorem kdIx_7 : gIx (.d g.D) (.d (.int 7)) Q = Q (.d (.int g.fr)) := gIx_t.trans at_7
theorem kdIx_8 : gIx (.d g.D) (.d (.int 8)) Q = Q (.d (.int g.to)) := gIx_t.trans at_8
theorem kdSl_2 : gSl (.d g.D) none (some 2) Q = Q (.d (.tuple [.int g.lo, .int g.hi])) := rfl
end
section
variable {r : List Int} {Q : SV → Prop}
theorem gSumA_tI : gSumA [.d (tI r)] Q = Q (.d (.int r.sum)) := gSumA_t
theorem gLen_tI : gLen [.d (tI r)] Q = Q (.d (.int r.length)) := by rw [tI, gLen_t, List.length_map]
theorem seq_tI : SV.seq? (.d (tI r)) = some (r.map .int) := rfl
theorem seqd_1 {xs : List D} : SV.seqd? (.d (.list xs)) = some xs := rfl
theorem seqd_2 {xs : List D} : SV.seqd? (.d (.tuple xs)) = some xs := rfl
theorem seqd_3 {xs : List D} : SV.seqd? (.ol xs) = some xs := rfl
theorem seqd_4 {xs : List D} : SV.seqd? (.vw xs) = some xs := rfl
theorem seq_1 {xs : List D} : SV.seq? (.d (.list xs)) = some xs := rfl
theorem seq_2 {xs : List D} : SV.seq? (.d (.tuple xs)) = some xs := rfl
theorem seq_3 {z : Str} : SV.seq? (.d (.str z)) = some (z.cps.toList.map sg) := rfl
theorem seq_4 {xs : List D} : SV.seq? (.ol xs) = some xs := rfl
theorem seqd_tI : SV.seqd? (.d (tI r)) = some (r.map .int) := rfl
theorem lenSet_tI {T : Type} {Q : SV → T → Prop} {τ : T} : kLenSet Q (.d (tI r)) τ = (r.length ≤ 4000 ∧ Q (.d (.int ((dis r).length : Nat))) τ) := by
  unfold kLenSet
  have e : tupI? (.d (tI r)) = some r := by
    show ints? (r.map .int) = some r
    exact ints_map r
  rw [e]
  simp only [Option.some.injEq, exists_eq_left']
end
/-! tables of numbers -/
theorem putD_keys {m : List (Key × D)} {ks : List Int} {k : Int} {v : D} (h : m.map (·.1) = ks.map Sum.inl) : (putD m (.inl k) v).map (·.1) = (if k ∈ ks then ks else ks ++ [k]).map Sum.inl := by
  have e : (m.any fun kv => decide (kv.1 = Sum.inl k)) = decide (k ∈ ks) := by
    rw [Bool.eq_iff_iff, List.any_eq_true, decide_eq_true_eq]
    constructor
    · rintro ⟨p, hp, e⟩
      have e := of_decide_eq_true e
      have : p.1 ∈ m.map (·.1) := List.mem_map.mpr ⟨p, hp, rfl⟩
      rw [h, e] at this
      obtain ⟨z, hz, ez⟩ := List.mem_map.mp this
      cases ez
      exact hz
    · intro hk
      have : (Sum.inl k : Key) ∈ m.map (·.1) := by rw [h]; exact List.mem_map.mpr ⟨k, hk, rfl⟩
      obtain ⟨p, hp, e⟩ := List.mem_map.mp this
      exact ⟨p, hp, decide_eq_true e⟩
  unfold putD
  rw [e]
  by_cases hk : k ∈ ks
  · rw [if_pos (decide_eq_true hk), if_pos hk, ← h, List.map_map]
    refine List.map_congr_left fun p _ => ?_
    show (if p.1 = _ then _ else _ : Key × D).1 = p.1
    split <;> rfl
  · rw [if_neg (by simpa using hk), if_neg hk, List.map_append, h, List.map_append]
    rfl
/-! the least kind of the rows of several kinds -/
def allK : Kd := ⟨-20, 20, 0, 8, false, false, false, -160, 160⟩
theorem allK_lit : PyData.tuple [.int (-20), .int 20, .int 0, .int 8, .bool false, .bool false, .bool false, .int (-160), .int 160] = allK.D := rfl
theorem noneK_lit : PyData.tuple [.int 20, .int (-20), .int 8, .int 0, .bool true, .bool true, .bool true, .int 160, .int (-160)] = noneK.D := rfl
local macro_rules | `(tactic| walk_at "Y") => do
  let xs ← ("allK_lit gSumA_tI gLen_tI seq_tI seqd_tI lenSet_tI Int.reduceEq Int.reduceLT Int.reduceLE Int.reduceAdd Int.reduceSub decide_false Bool.or_true Bool.false_or szl kForN_e kLcY_e kLcN_e lcW_n forW_n at_0 at_1 at_2 at_3 at_4 at_5 at_6 at_7 at_8 kdIx_0 kdIx_1 kdIx_2 kdIx_3 kdIx_4 kdIx_5 kdIx_6 kdIx_7 kdIx_8 kdSl_2 noneK_lit dSrtSet_k dPutN_k kPutN1_1 kPutN2_1 dPutV_k kwxA_k kKwx_2 kKwx_4 dRg1_k kRg1B_k dAsgL_k kUnl_1 kUnl_2 kUnl2_1 dCnt_k kCnt1_1 kCnt1_2 kCnt1_3 dNewD_k dUpdD_k kUpd0_1 dSrtD_k kSrt0_1 dNe0_k kNe0_1 dCallV_k dCallVX_k dRg_k kRgA kRgB_k dNil3_k dRevT_k kRevT_k gSumA_t gSumA_l gSumA_ol gSumA_vw dGIndex_k gAbs_i dMnD_k dCallX_k kCallX dIsX_k dLam_k dRaise_k dLenSet_k dRev_k kRev_1 kRev_2 kRev_3 gReprE_e gReprE_s gReprE_i gReprE_b gReprE_n gReprE_l gReprE_t gReprE_ol gReprE_vw gBits_k dRng3_k kAu_i kAug_1 gTupC_k gLstC_k kSe_1 gIn_sf gIn_st gIn_tf gIn_tt flatD_none flatD_int flatD_str flatD_bool List.any_cons List.any_nil Bool.or_false dOwn_k kOw_1 kOw_2 kOw_3 kEx_1 kExt_1 dExt_k kSI4_1 kSI3_1 kSI2_1 kSI1 kSetI_1 dSetI_k kEn_k dEnum_k kEn2_l kEn2_t dEnum2_k kZp_l kZp_u dZip_k gMulA_i gMulA_s dVar_k dC_k dRaw_k dOp_k dT_k kChB_t kChB_f dChain_k dTru_k kAndT_t kAndT_f kOrT_t kOrT_f dAndT_k dOrT_k dNotT_k dAnd_k dOr_k dNot_k kIf_t kIf_f dIf_k dNil_k dCons_k dTup_k dLst_k dCB_k dCall_k dNext_k dSeq_k dBreak_k dCont_k dNever_k dDrop_k dRet_k dRetN_k kIfS_t kIfS_f dIfS_k dSet_k dAsg_k dPar_k kPar_k dApp_k dFrz_k dSeqI_k dRng1_k dRng2_k kR1_k kR2_k dFor_k dLc_k dYes_k kTurn_t kTurn_f dSl_k dNoPart_k dPart_k dUn_k dEmp_k dM1_k kM1_k gI_k gAdd_i gAdd_s gAdd_t gAdd_ll gAdd_lo gAdd_ol gAdd_oo gAdd_vo gAdd_ov gAdd_vv gEq_k gNe_k gCmp_i gCmp_s gIsN_d gNotN_d gIsN_ol gNotN_ol gIsN_vw gNotN_vw gIx_s gIx_t gIx_l gIx_ol gIx_vw gSl_s gSl_t gSl_l gSl_ol gSl_vw gLen_s gLen_t gLen_l gLen_ol gLen_vw gIsi_k gAll_d gAll_ol gAny_d gAny_ol gInt_i gInt_b gInt_s gII_k gNeg_k gJoin_ol gJoin_l gJoin_t gJoin_vw gMul_i gMul_s kG kV_1 kV_2 kV_3 kOp2 kOp1 kTb_1 kTb_2 kT kCh3 kCh4 kCh2 kCh1 kTru kNotT kAndB_1 kAndB_2 kAndB_3 kOrB_1 kOrB_2 kOrB_3 kAnd kOr kNotB_1 kNotB_2 kNot kCo2 kCoB_1 kCoB_2 kCo kTupB_1 kTupB_2 kTup kLstB_1 kLstB_2 kLst kCB kCall kNx kDrop kRet kStB_1 kStB_2 kSet kEnv_1 kEnv_2 kAsB_1 kAsB_2 kAsg kApD_1 kApD_2 kAp kApp_1 kFrz_1 kFrz_2 kSqB_1 kSqB_2 kSq kFor kOl kLc kDt_1 kDt_2 kDat kTgB_1 kTgB_2 kFtB_1 kFtB_2 kSl3 kSl2 kSl1 kPtB_1 kPtB_2 kPt kUn kM2 kEq2_1 kEq2_2 kEq1_1 kEq1_2 kIsB_1 kIsB_2 kAtS_1 kAtS_2 kAt_1 kAt_2 kTy_1 kTy_2 kBls_1 kBls_2 kJn_1 kJn_2 SV.arg SV.dat? SV.sto SV.out SV.dr SV.truth SV.lst? seqd_1 seqd_2 seqd_3 seqd_4 SV.now? seq_1 seq_2 seq_3 seq_4 SV.isN SV.size? SV.tyN SV.bl? SV.int? tyNs_none tyNs_bool tyNs_int tyNs_str tyNs_list tyNs_tuple tyNs_dict tyCs isTs szs noC_t eqOks_none_none eqOks_none_int eqOks_int_none eqOks_none_bool eqOks_bool_none eqOks_none_str eqOks_str_none eqOks_int_int eqOks_bool_bool eqOks_str_str eqOks_int_str eqOks_str_int eqOks_bool_str eqOks_str_bool eqv_int eqv_bool eqv_none_none eqv_none_bool eqv_none_int eqv_none_str eqv_none_list eqv_none_tuple eqv_bool_none eqv_bool_str eqv_bool_list eqv_bool_tuple eqv_int_none eqv_int_str eqv_int_list eqv_int_tuple eqv_str_none eqv_str_bool eqv_str_int eqv_str_list eqv_str_tuple eqv_list_none eqv_list_bool eqv_list_int eqv_list_str eqv_list_tuple eqv_tuple_none eqv_tuple_bool eqv_tuple_int eqv_tuple_str eqv_tuple_list allD tgE tgEs wipeE List.map_cons List.map_nil List.getElem?_cons_zero List.getElem?_cons_succ List.set_cons_zero List.set_cons_succ List.all_cons List.all_nil Bool.and_true Bool.and_self Option.map_some Option.bind_some List.cons_append List.nil_append List.length_cons List.length_nil List.replicate Nat.reduceAdd Nat.reduceSub Nat.reduceLeDiff Nat.reduceMul Bool.not_true Bool.not_false Bool.false_xor Bool.true_xor true_and and_true beq_self_eq_true eq_self decide_true Bool.true_and Bool.false_and Nat.zero_le List.isEmpty_cons List.isEmpty_nil".splitOn " ").toArray.mapM fun s => `(Lean.Parser.Tactic.simpLemma| $(Lean.mkIdent s.toName):ident)
  `(tactic| simp only [$xs,*])
/-! the simplest steps of a reading -/
local macro_rules | `(tactic| walk_at "X") => `(tactic| (try walk_at "Y"))
local macro_rules | `(tactic| walk_at "I") => `(tactic| (refine kAt_of (by decide) (by simp only [List.length_cons, List.length_nil]; decide) (fun z ez _ => ?_); cases ez; walk_at "X"))
def top (i : Nat) : Stmt := PySem.Challenge.pw_rowkinds_k07_sums_of_lots.main.body.getD i (.Pass ⟨0, 0, 0, 0⟩)
abbrev s_window : Stmt := top 4
theorem sc_window : FnScope ["least", "most", "low", "high"] ["least", "most"] (defScope s_window) :=
  ⟨rfl, rfl, rfl, by decide +kernel, rfl, by decide +kernel, by decide +kernel⟩
abbrev s_moved : Stmt := top 5
theorem sc_moved : FnScope ["bits", "number"] ["bits", "number"] (defScope s_moved) :=
  ⟨rfl, rfl, rfl, by decide +kernel, rfl, by decide +kernel, by decide +kernel⟩
abbrev s_level_sums : Stmt := top 6
theorem sc_level_sums : FnScope ["numbers", "most", "is_unlike", "found", "many", "bits", "number"] ["numbers", "most", "is_unlike"] (defScope s_level_sums) :=
  ⟨rfl, rfl, rfl, by decide +kernel, rfl, by decide +kernel, by decide +kernel⟩
abbrev s_all_sums : Stmt := top 7
theorem sc_all_sums : FnScope ["numbers", "most", "is_level", "is_unlike", "found", "number", "many"] ["numbers", "most", "is_level", "is_unlike"] (defScope s_all_sums) :=
  ⟨rfl, rfl, rfl, by decide +kernel, rfl, by decide +kernel, by decide +kernel⟩
abbrev s_sums_of : Stmt := top 8
theorem sc_sums_of : FnScope ["numbers", "many", "is_level", "is_unlike"] ["numbers", "many", "is_level", "is_unlike"] (defScope s_sums_of) :=
  ⟨rfl, rfl, rfl, by decide +kernel, rfl, by decide +kernel, by decide +kernel⟩
abbrev s__law_begin : Stmt := top 10
theorem sc__law_begin : FnScope ["_law_script"] ["_law_script"] (defScope s__law_begin) :=
  ⟨rfl, rfl, rfl, by decide +kernel, rfl, by decide +kernel, by decide +kernel⟩
abbrev s__law_mixed : Stmt := top 11
theorem sc__law_mixed : FnScope ["_law_cell", "_law_k", "_law_number"] ["_law_cell", "_law_k"] (defScope s__law_mixed) :=
  ⟨rfl, rfl, rfl, by decide +kernel, rfl, by decide +kernel, by decide +kernel⟩
abbrev s__law_next : Stmt := top 12
theorem sc__law_next : FnScope ["_law_draw", "_law_below", "_law_found", "_law_cells", "_law_cell"] ["_law_draw", "_law_below"] (defScope s__law_next) :=
  ⟨rfl, rfl, rfl, by decide +kernel, rfl, by decide +kernel, by decide +kernel⟩
abbrev s__law_numbers : Stmt := top 13
theorem sc__law_numbers : FnScope ["_law_draw", "_law_low", "_law_found", "_law_k"] ["_law_draw"] (defScope s__law_numbers) :=
  ⟨rfl, rfl, rfl, by decide +kernel, rfl, by decide +kernel, by decide +kernel⟩
abbrev s__law_totals : Stmt := top 14
theorem sc__law_totals : FnScope ["_law_lot", "_law_size", "_law_is_even", "_law_each_once", "_law_one", "_law_layer", "_law_fresh", "_law_own", "_law_total", "_law_turn"] ["_law_lot", "_law_size", "_law_is_even", "_law_each_once"] (defScope s__law_totals) :=
  ⟨rfl, rfl, rfl, by decide +kernel, rfl, by decide +kernel, by decide +kernel⟩
abbrev s__law_bits : Stmt := top 15
theorem sc__law_bits : FnScope ["_law_totals_here", "_law_found", "_law_total"] ["_law_totals_here"] (defScope s__law_bits) :=
  ⟨rfl, rfl, rfl, by decide +kernel, rfl, by decide +kernel, by decide +kernel⟩
abbrev s_law : Stmt := top 16
theorem sc_law : FnScope ["_law_script", "_law_draw", "_law_turn", "_law_lot", "_law_size", "_law_is_even", "_law_each_once", "_law_due", "_law_found", "_law_first", "_law_last", "_law_bits_here", "_law_every"] ["_law_script"] (defScope s_law) :=
  ⟨rfl, rfl, rfl, by decide +kernel, rfl, by decide +kernel, by decide +kernel⟩
/-- where the classes stand, the code objects and the tables of defs that make lambdas -/
structure Cas where
  nil : Unit := ()
abbrev tn (ca : Cas) : List TN := []
abbrev Ts (ca : Cas) : List (Addr × Str) := tsOf (tn ca)
/-! what the top has for the defs -/
structure Txt (K : PySem.W.Frag) (mg : Str → Option Value) (ca : Cas) : Prop where
  nil : True := trivial
  b_min : mg "min" = none
  b_max : mg "max" = none
  b_range : mg "range" = none
  b_len : mg "len" = none
  b_tuple : mg "tuple" = none
  b_sorted : mg "sorted" = none
  b_set : mg "set" = none
  b_int : mg "int" = none
  b_isinstance : mg "isinstance" = none
  b_list : mg "list" = none
  c_MOST_SUM : ∃ t, mg "MOST_SUM" = some (.int (160) t)
  nf : intFree K = true
def FF__law_numbers : FW T2 := fun rs τ Q => ∃ (a : Addr) (b : Nat) (cs : List (Addr × Cel)), rs = [.raw (.ref a)] ∧ τ = ⟨.on a b, cs⟩ ∧ 8 ≤ b ∧ ∀ (ns : List Int) (b' : Nat), b ≤ b' + 8 → inR ns → ns.Nodup → ns.length ≤ 8 → Q (.d (tI ns)) ⟨.on a b', cs⟩
def FF__law_totals : FW T2 := fun rs τ Q => ∃ (ns : List Int) (m : Nat) (lvl unl : Bool), rs = [.d (tI ns), .d (.int m), .d (.bool lvl), .d (.bool unl)] ∧ inR ns ∧ ns.Nodup ∧ ns.length ≤ 8 ∧ m ≤ 8 ∧
  ∀ xs : List Int, xs.Nodup → (∀ x, x ∈ xs ↔ Lot ns lvl unl m x) → Q (.ol (xs.map .int)) τ
def FF__law_bits : FW T2 := fun rs τ Q => ∃ xs : List Int, rs = [.d (.list (xs.map .int))] ∧ xs.Nodup ∧ (∀ x ∈ xs, -160 ≤ x ∧ x ≤ 160) ∧ ∀ f, BitsOf f (fun s => s ∈ xs) → Q (.d (.int f)) τ
/-! ### one bit more -/
theorem add_bit {x i : Nat} (h : x.testBit i = false) (j : Nat) : (2 ^ i + x).testBit j = (decide (j = i) || x.testBit j) := by
  rcases Nat.lt_trichotomy j i with l | l | l
  · rw [Nat.testBit_two_pow_add_gt l, decide_eq_false (by omega), Bool.false_or]
  · subst l
    rw [Nat.testBit_two_pow_add_eq, h, decide_eq_true rfl]
    rfl
  · obtain ⟨k, rfl⟩ : ∃ k, j = k + (i + 1) := ⟨j - (i + 1), by omega⟩
    rw [decide_eq_false (by omega), Bool.false_or, Nat.testBit_add, Nat.testBit_add]
    congr 1
    rw [Nat.pow_succ, ← Nat.div_div_eq_div_mul, ← Nat.div_div_eq_div_mul, Nat.add_div_left _ (Nat.two_pow_pos i)]
    rw [Nat.testBit_eq_decide_div_mod_eq] at h
    have := of_decide_eq_false h
    omega
theorem bits_add {b : Int} {P : Int → Prop} {t : Int} (h : BitsOf b P) (ht : -160 ≤ t) (n : ¬ P t) : BitsOf (b + 1 * 2 ^ (t + 160).toNat) (fun s => P s ∨ s = t) := by
  have hb := h.1
  obtain ⟨A, hA⟩ : ∃ A : Nat, A = 2 ^ (t + 160).toNat := ⟨_, rfl⟩
  have e0 : ((2 : Int) ^ (t + 160).toNat) = (A : Int) := by rw [hA]; simp
  rw [e0]
  have h0 : 0 ≤ b + 1 * (A : Int) := by omega
  have hf : b.toNat.testBit (t + 160).toNat = false := by
    cases e : b.toNat.testBit (t + 160).toNat with
    | false => rfl
    | true => exact (n ((h.2 t).mp ⟨hb, by omega, e⟩)).elim
  refine ⟨h0, fun s => ?_⟩
  show _ ↔ P s ∨ s = t
  rw [← h.2 s]
  unfold hasS
  have e : (b + 1 * (A : Int)).toNat = 2 ^ (t + 160).toNat + b.toNat := by
    rw [← hA]
    omega
  rw [e, add_bit hf, Bool.or_eq_true, decide_eq_true_eq]
  constructor
  · rintro ⟨_, h1, h2 | h2⟩
    · exact .inr (by omega)
    · exact .inl ⟨hb, h1, h2⟩
  · rintro (⟨_, h1, h2⟩ | rfl)
    · exact ⟨h0, h1, .inr h2⟩
    · exact ⟨h0, by omega, .inl rfl⟩
/-! ### lots, number by number -/
theorem lot_snoc {ns : List Int} {x : Int} (hx : x ∉ ns) {unl : Bool} {m : Nat} {s : Int} : Lot (ns ++ [x]) false unl m s ↔ ∃ k o : Nat, o + k = m ∧ (unl = true → k < 2) ∧ Lot ns false unl o (s - k * x) := by
  constructor
  · rintro ⟨l, ⟨h, hn, _⟩, h1, h2⟩
    have hp : (l.filter (fun y => decide (y = x)) ++ l.filter (fun y => !decide (y = x))).Perm l := List.filter_append_perm _ l
    have hr : l.filter (fun y => decide (y = x)) = List.replicate (l.filter (fun y => decide (y = x))).length x := all_same fun y hy => by simpa using (List.mem_filter.mp hy).2
    generalize hk : (l.filter (fun y => decide (y = x))).length = k at hr
    rw [hr] at hp
    refine ⟨k, (l.filter (fun y => !decide (y = x))).length, ?_, fun hu => ?_, l.filter (fun y => !decide (y = x)), ⟨fun y hy => ?_, fun hu => (hn hu).filter _, by simp⟩, rfl, ?_⟩
    · rw [← h1, ← hp.length_eq, List.length_append, List.length_replicate]
      omega
    · have nd : (List.replicate k x).Nodup := by
        rw [← hr]
        exact (hn hu).filter _
      rcases Nat.lt_or_ge k 2 with z | z
      · exact z
      · exfalso
        obtain ⟨q, rfl⟩ : ∃ q, k = q + 2 := ⟨k - 2, by omega⟩
        rw [List.replicate_succ, List.replicate_succ] at nd
        simp at nd
    · obtain ⟨a, b⟩ := List.mem_filter.mp hy
      rcases List.mem_append.mp (h y a) with z | z
      · exact z
      · simp at z b
        exact absurd z b
    · have := sum_perm hp
      rw [List.sum_append, sum_rep] at this
      omega
  · rintro ⟨k, o, rfl, hk, l, ⟨h, hn, _⟩, h1, h2⟩
    refine ⟨l ++ List.replicate k x, ⟨fun y hy => ?_, fun hu => ?_, by simp⟩, by rw [List.length_append, List.length_replicate, h1], by rw [List.sum_append, sum_rep, h2]; omega⟩
    · rcases List.mem_append.mp hy with z | z
      · exact List.mem_append_left _ (h y z)
      · rw [List.eq_of_mem_replicate z]
        simp
    · have := hk hu
      rw [List.nodup_append]
      refine ⟨hn hu, ?_, fun a ha b hb e => ?_⟩
      · match k, this with
        | 0, _ => exact List.nodup_nil
        | 1, _ => simp
      · rw [List.eq_of_mem_replicate hb] at e
        exact hx (e ▸ h a ha)
theorem lot_nil {unl : Bool} {m : Nat} {s : Int} : Lot [] false unl m s ↔ m = 0 ∧ s = 0 := by
  constructor
  · rintro ⟨l, ⟨h, _⟩, h1, h2⟩
    cases l with
    | nil => exact ⟨h1.symm, h2.symm⟩
    | cons a _ => exact nomatch h a List.mem_cons_self
  · rintro ⟨rfl, rfl⟩
    exact lot_zero.mpr rfl
/-- eight of all numbers -/
theorem lot_all {ns : List Int} (h : ∀ x, x ∈ ns ↔ -20 ≤ x ∧ x ≤ 20) {s : Int} : Lot ns false false 8 s ↔ -160 ≤ s ∧ s ≤ 160 := by
  constructor
  · intro z
    have := lot_bound (fun x hx => (h x).mp hx) z
    omega
  · rintro ⟨h1, h2⟩
    refine ⟨List.replicate (8 - (s % 8).toNat) (s / 8) ++ List.replicate (s % 8).toNat (s / 8 + 1), ⟨fun x hx => ?_, by simp, by simp⟩, ?_, ?_⟩
    · rw [h]
      rcases List.mem_append.mp hx with z | z
      · rw [List.eq_of_mem_replicate z]
        omega
      · have := (List.mem_replicate.mp z).1
        rw [List.eq_of_mem_replicate z]
        omega
    · rw [List.length_append, List.length_replicate, List.length_replicate]
      omega
    · rw [List.sum_append, sum_rep, sum_rep]
      have e : (((s % 8).toNat : Nat) : Int) = s % 8 := by omega
      have e2 : ((8 - (s % 8).toNat : Nat) : Int) = 8 - s % 8 := by omega
      rw [e, e2, Int.sub_mul, Int.mul_add]
      have := Int.emod_add_mul_ediv s 8
      omega
/-! ### the layer: pairs of a number and a total -/
structure Lay (m : List (List Key × D)) (P : Int → Int → Prop) : Prop where
  nd : (m.map (·.1)).Nodup
  of : ∀ e ∈ m, ∃ a b, e.1 = [.inl a, .inl b] ∧ P a b
  to : ∀ a b, P a b → [Sum.inl a, Sum.inl b] ∈ m.map (·.1)
theorem Lay.nil {P : Int → Int → Prop} (h : ∀ a b, ¬ P a b) : Lay [] P := ⟨List.nodup_nil, fun e he => (nomatch he), fun a b p => (h a b p).elim⟩
theorem Lay.put {m : List (List Key × D)} {P : Int → Int → Prop} (h : Lay m P) (a b : Int) (d : D) : Lay (putT m [.inl a, .inl b] d) (fun x y => P x y ∨ (x = a ∧ y = b)) := by
  unfold putT
  by_cases c : (m.any fun kv => decide (kv.1 = [.inl a, .inl b])) = true
  · rw [if_pos c]
    have e : (m.map fun kv => if kv.1 = [.inl a, .inl b] then (kv.1, d) else kv).map (·.1) = m.map (·.1) := by
      rw [List.map_map]
      apply List.map_congr_left
      intro x _
      show (if x.1 = [.inl a, .inl b] then (x.1, d) else x).1 = x.1
      split <;> rfl
    obtain ⟨kv, hk, he⟩ := List.any_eq_true.mp c
    have he := of_decide_eq_true he
    have hm : [Sum.inl a, Sum.inl b] ∈ m.map (·.1) := List.mem_map.mpr ⟨kv, hk, he⟩
    refine ⟨by rw [e]; exact h.nd, fun x hx => ?_, fun x y p => ?_⟩
    · have hx1 : x.1 ∈ m.map (·.1) := by rw [← e]; exact List.mem_map.mpr ⟨x, hx, rfl⟩
      obtain ⟨z, hz, e2⟩ := List.mem_map.mp hx1
      obtain ⟨u, v, e3, p⟩ := h.of z hz
      exact ⟨u, v, by rw [← e2, e3], .inl p⟩
    · rw [e]
      rcases p with p | ⟨rfl, rfl⟩
      · exact h.to x y p
      · exact hm
  · rw [if_neg c]
    refine ⟨?_, fun x hx => ?_, fun x y p => ?_⟩
    · rw [List.map_append, List.nodup_append]
      refine ⟨h.nd, by simp, fun u hu v hv e => c ?_⟩
      obtain ⟨z, hz, rfl⟩ := List.mem_map.mp hu
      have hv : v = [.inl a, .inl b] := by simpa using hv
      exact List.any_eq_true.mpr ⟨z, hz, decide_eq_true (e.trans hv)⟩
    · rcases List.mem_append.mp hx with hx | hx
      · obtain ⟨u, v, e3, p⟩ := h.of x hx
        exact ⟨u, v, e3, .inl p⟩
      · have : x = ([.inl a, .inl b], d) := by simpa using hx
        subst this
        exact ⟨a, b, rfl, .inr ⟨rfl, rfl⟩⟩
    · rw [List.map_append]
      rcases p with p | ⟨rfl, rfl⟩
      · exact List.mem_append_left _ (h.to x y p)
      · simp
theorem Lay.imp {m : List (List Key × D)} {P Q : Int → Int → Prop} (h : Lay m P) (e : ∀ a b, P a b ↔ Q a b) : Lay m Q :=
  ⟨h.nd, fun x hx => let ⟨a, b, q, p⟩ := h.of x hx; ⟨a, b, q, (e a b).mp p⟩, fun a b q => h.to a b ((e a b).mpr q)⟩
/-- there are not many -/
theorem Lay.few {m : List (List Key × D)} {P : Int → Int → Prop} (h : Lay m P) (hP : ∀ a b, P a b → (0 ≤ a ∧ a ≤ 8) ∧ -160 ≤ b ∧ b ≤ 160) : m.length ≤ 2889 := by
  have hs := nodup_le h.nd (b := (List.range 9).flatMap fun i => (List.range 321).map fun j => ([.inl ((i : Nat) : Int), .inl ((j : Nat) - 160 : Int)] : List Key)) fun x hx => by
    obtain ⟨e, he, rfl⟩ := List.mem_map.mp hx
    obtain ⟨a, b, q, p⟩ := h.of e he
    obtain ⟨⟨h1, h2⟩, h3, h4⟩ := hP a b p
    rw [q]
    refine List.mem_flatMap.mpr ⟨a.toNat, List.mem_range.mpr (by omega), List.mem_map.mpr ⟨(b + 160).toNat, List.mem_range.mpr (by omega), ?_⟩⟩
    rw [show ((a.toNat : Nat) : Int) = a by omega, show (((b + 160).toNat : Nat) : Int) - 160 = b by omega]
  rw [List.length_map] at hs
  refine Nat.le_trans hs ?_
  rw [List.length_flatMap]
  simp only [List.length_map, List.length_range]
  decide
def fstK (e : List Key × D) : Int := match e.1 with
  | [.inl a, .inl _] => a
  | _ => 0
def sndK (e : List Key × D) : Int := match e.1 with
  | [.inl _, .inl b] => b
  | _ => 0
theorem fstK_of {e : List Key × D} {a b : Int} (h : e.1 = [.inl a, .inl b]) : fstK e = a := by
  unfold fstK
  rw [h]
theorem sndK_of {e : List Key × D} {a b : Int} (h : e.1 = [.inl a, .inl b]) : sndK e = b := by
  unfold sndK
  rw [h]
theorem Lay.snds {M : List (List Key × D)} {P : Int → Int → Prop} (h : Lay M P) (m : Int) : ((M.filter fun e => decide (fstK e = m)).map sndK).Nodup ∧ ∀ x, x ∈ (M.filter fun e => decide (fstK e = m)).map sndK ↔ P m x := by
  constructor
  · have nd := h.nd
    unfold List.Nodup at nd ⊢
    rw [List.pairwise_map] at nd ⊢
    refine (nd.filter _).imp_of_mem fun {a b} ha hb hab e => hab ?_
    obtain ⟨a1, a2⟩ := List.mem_filter.mp ha
    obtain ⟨b1, b2⟩ := List.mem_filter.mp hb
    obtain ⟨u, v, e1, _⟩ := h.of a a1
    obtain ⟨u', v', e2, _⟩ := h.of b b1
    have a2 := of_decide_eq_true a2
    have b2 := of_decide_eq_true b2
    rw [fstK_of e1] at a2
    rw [fstK_of e2] at b2
    rw [sndK_of e1, sndK_of e2] at e
    rw [e1, e2, a2, b2, e]
  · intro x
    constructor
    · intro hx
      obtain ⟨e, he, rfl⟩ := List.mem_map.mp hx
      obtain ⟨a1, a2⟩ := List.mem_filter.mp he
      obtain ⟨u, v, e1, p⟩ := h.of e a1
      have a2 := of_decide_eq_true a2
      rw [fstK_of e1] at a2
      rw [sndK_of e1, ← a2]
      exact p
    · intro p
      obtain ⟨e, he, e1⟩ := List.mem_map.mp (h.to m x p)
      exact List.mem_map.mpr ⟨e, List.mem_filter.mpr ⟨he, decide_eq_true (fstK_of e1)⟩, sndK_of e1⟩
/-- what is in the layer of the first j numbers -/
def LayP (ns : List Int) (unl : Bool) (m : Nat) (j : Nat) (o s : Int) : Prop := 0 ≤ o ∧ o ≤ m ∧ Lot (ns.take j) false unl o.toNat s
/-- what comes of an entry by x, k times -/
def ByX (unl : Bool) (x : Int) (m : Nat) (o' s' : Int) (k : Nat) (o s : Int) : Prop := (unl = true → k < 2) ∧ o = o' + k ∧ o ≤ m ∧ s = s' + k * x
theorem LayP.zero {ns : List Int} {unl : Bool} {m : Nat} : Lay [([.inl 0, .inl 0], .bool true)] (LayP ns unl m 0) := by
  refine ⟨by simp, fun e he => ?_, fun o s h => ?_⟩
  · have : e = ([.inl 0, .inl 0], .bool true) := by simpa using he
    subst this
    exact ⟨0, 0, rfl, by omega, by omega, lot_zero.mpr rfl⟩
  · obtain ⟨h1, h2, h3⟩ := h
    rw [List.take_zero, lot_nil] at h3
    have : o = 0 := by omega
    rw [this, h3.2]
    simp
theorem LayP.few {ns : List Int} {unl : Bool} {m j : Nat} {o s : Int} (hr : inR ns) (hm : m ≤ 8) (h : LayP ns unl m j o s) : (0 ≤ o ∧ o ≤ 8) ∧ -160 ≤ s ∧ s ≤ 160 := by
  obtain ⟨h1, h2, h3⟩ := h
  have := lot_bound (fun x hx => hr x (List.mem_of_mem_take hx)) h3
  omega
theorem take_next {ns : List Int} {j : Nat} {x : Int} (h : ns[j]? = some x) : ns.take (j + 1) = ns.take j ++ [x] := by
  rw [List.take_add_one, h]
  rfl
theorem take_fresh {ns : List Int} {j : Nat} {x : Int} (h : ns[j]? = some x) (nd : ns.Nodup) : x ∉ ns.take j := fun z => by
  have e : ns = ns.take j ++ x :: ns.drop (j + 1) := by
    obtain ⟨h1, h2⟩ := List.getElem?_eq_some_iff.mp h
    rw [← h2, ← List.drop_eq_getElem_cons h1, List.take_append_drop]
  rw [e, List.nodup_append] at nd
  exact nd.2.2 x z x List.mem_cons_self rfl
theorem LayP.step {ns : List Int} {unl : Bool} {m j k : Nat} {x o' s' o s : Int} (h : ns[j]? = some x) (nd : ns.Nodup) (p : LayP ns unl m j o' s') (b : ByX unl x m o' s' k o s) : LayP ns unl m (j + 1) o s := by
  obtain ⟨h1, h2, h3⟩ := p
  obtain ⟨b1, rfl, b3, rfl⟩ := b
  refine ⟨by omega, b3, ?_⟩
  rw [take_next h, lot_snoc (take_fresh h nd)]
  refine ⟨k, o'.toNat, by omega, b1, ?_⟩
  rw [show s' + k * x - k * x = s' by omega]
  exact h3
theorem LayP.back {ns : List Int} {unl : Bool} {m j : Nat} {x o s : Int} (h : ns[j]? = some x) (nd : ns.Nodup) (p : LayP ns unl m (j + 1) o s) : ∃ o' s' k, LayP ns unl m j o' s' ∧ ByX unl x m o' s' k o s := by
  obtain ⟨h1, h2, h3⟩ := p
  rw [take_next h, lot_snoc (take_fresh h nd)] at h3
  obtain ⟨k, q, e, b1, h3⟩ := h3
  exact ⟨(q : Nat), s - k * x, k, ⟨by omega, by omega, h3⟩, b1, by omega, h2, by omega⟩
/-- what the first i entries give -/
def UpTo (M : List (List Key × D)) (unl : Bool) (x : Int) (m i : Nat) (o s : Int) : Prop := ∃ e ∈ M.take i, ∃ (o' s' : Int) (k : Nat), e.1 = [.inl o', .inl s'] ∧ ByX unl x m o' s' k o s
theorem UpTo.all {M : List (List Key × D)} {ns : List Int} {unl : Bool} {m j : Nat} {x : Int} (h : ns[j]? = some x) (nd : ns.Nodup) (lay : Lay M (LayP ns unl m j)) {i : Nat} (hi : M.length ≤ i) (o s : Int) : UpTo M unl x m i o s ↔ LayP ns unl m (j + 1) o s := by
  constructor
  · rintro ⟨e, he, o', s', k, e1, b⟩
    obtain ⟨u, v, e2, p⟩ := lay.of e (List.mem_of_mem_take he)
    rw [e1] at e2
    cases e2
    exact p.step h nd b
  · intro p
    obtain ⟨o', s', k, p', b⟩ := p.back h nd
    obtain ⟨e, he, e1⟩ := List.mem_map.mp (lay.to o' s' p')
    exact ⟨e, by rw [List.take_of_length_le hi]; exact he, o', s', k, e1, b⟩
theorem UpTo.p {M : List (List Key × D)} {ns : List Int} {unl : Bool} {m j : Nat} {x : Int} (h : ns[j]? = some x) (nd : ns.Nodup) (lay : Lay M (LayP ns unl m j)) {i : Nat} {o s : Int} (u : UpTo M unl x m i o s) : LayP ns unl m (j + 1) o s := by
  obtain ⟨e, he, o', s', k, e1, b⟩ := u
  obtain ⟨u, v, e2, p⟩ := lay.of e (List.mem_of_mem_take he)
  rw [e1] at e2
  cases e2
  exact p.step h nd b
theorem UpTo.succ {M : List (List Key × D)} {unl : Bool} {m i : Nat} {x o' s' : Int} {e : List Key × D} (hi : M[i]? = some e) (he : e.1 = [.inl o', .inl s']) (o s : Int) : UpTo M unl x m (i + 1) o s ↔ UpTo M unl x m i o s ∨ ∃ k, ByX unl x m o' s' k o s := by
  unfold UpTo
  rw [List.take_add_one, hi]
  constructor
  · rintro ⟨e2, h2, a, b, k, e3, h⟩
    rcases List.mem_append.mp h2 with h2 | h2
    · exact .inl ⟨e2, h2, a, b, k, e3, h⟩
    · have : e2 = e := by simpa using h2
      subst this
      rw [he] at e3
      cases e3
      exact .inr ⟨k, h⟩
  · rintro (⟨e2, h2, r⟩ | ⟨k, h⟩)
    · exact ⟨e2, List.mem_append_left _ h2, r⟩
    · exact ⟨e, List.mem_append_right _ (by simp), o', s', k, he, h⟩
theorem ByX.lt {unl : Bool} {x o' s' o s : Int} {m k : Nat} (h : ByX unl x m o' s' k o s) : k < ((m : Int) - o' + 1).toNat := by
  obtain ⟨_, rfl, h, _⟩ := h
  omega
/-- the sums of lots of one number -/
theorem lots_even {ns : List Int} {unl : Bool} {m : Nat} {s : Int} : (s ∈ (ns.filter fun _ => decide ((m : Int) < 2) || !unl).map (fun x => (m : Int) * x) ++ List.replicate (if m = 0 then 1 else 0) 0) ↔ Lot ns true unl m s := by
  cases m with
  | zero =>
    rw [lot_zero]
    simp
    rintro _ _ rfl
    rfl
  | succ k =>
    rw [lot_lvl]
    simp only [Nat.add_one_ne_zero, if_false, List.replicate_zero, List.append_nil, List.mem_map, List.mem_filter, Bool.or_eq_true, decide_eq_true_eq, Bool.not_eq_true']
    constructor
    · rintro ⟨x, ⟨hx, h⟩, rfl⟩
      exact ⟨x, hx, h.imp (fun z => by omega) id, by simp⟩
    · rintro ⟨x, hx, h, rfl⟩
      exact ⟨x, ⟨hx, h.imp (fun z => by omega) id⟩, by simp⟩
section
variable {P : Program} {w : World} {K : PySem.W.Frag} {mg : Str → Option Value} {base : Heap} {ca : Cas}
theorem ok_window {f : Addr} {fd : FuncData} (T : Txt K mg ca) (F : Fun K "window" "window" s_window f fd)  :
    FnOk P w K mg base CX0 1 f fd ["least", "most"] (spD (theT (Ts ca)) K (FF_window)) := by
  refine okP F sc_window (by walk_at "v") (by decide) fun cdv A outer s H E G Fp hr => ⟨_, (dss_cons (ds_par (i := 2) (j := 3) rfl sc_window.nd rfl rfl (by decide) rfl rfl (da_cons (de_callB (call_max2 rfl) cd_II (by rfl) T.b_max (by decide +kernel) (da_cons (de_var (pv 0)) (da_cons (de_op op_sub od_I0 de_int (de_gint (by rfl) T.c_MOST_SUM)) da_nil))) (da_cons (de_callB (call_min2 rfl) cd_II (by rfl) T.b_min (by decide +kernel) (da_cons (de_var (pv 1)) (da_cons (de_gint (by rfl) T.c_MOST_SUM) da_nil))) da_nil)) rfl)
      (dss_one (ds_ret (de_if (dt_cmp op_gtA od_cmp (de_var (pv 2)) (de_var (pv 3)) (nomark _)) de_int (de_op op_sub od_I0 (de_op op_shlW od_I de_int (de_op op_addA (od_add rfl) (de_op op_addA (od_add rfl) (de_var (pv 3)) (de_gint (by rfl) T.c_MOST_SUM)) de_int)) (de_op op_shlW od_I de_int (de_op op_addA (od_add rfl) (de_var (pv 2)) (de_gint (by rfl) T.c_MOST_SUM)))))))), ?_⟩
  dsimp only [Bk.T, theT]
  rintro rs τ Q ⟨a, b, rfl, h⟩
  walk_at "x"
  have hL : (if 0 - 160 > a then 0 - 160 else a) = max a (-160) := by split <;> omega
  have hH : (if 160 < b then 160 else b) = min b 160 := by split <;> omega
  rw [hL, hH]
  generalize eL : max a (-160) = L
  generalize eH : min b 160 = U
  clear hL hH
  refine kIf_of (fun e => ?_) fun e => ?_
  · have e := of_decide_eq_true e
    walk_at "x"
    refine h 0 ⟨Int.le_refl _, fun s => ⟨fun z => ?_, fun z => ?_⟩⟩
    · have := z.2.2
      simp at this
    · omega
  · have e := of_decide_eq_false e
    have p27 : (2 : Int) ^ 27 = 134217728 := by decide
    walk_at "x"
    refine ⟨⟨by omega, by rw [p27]; show ((1 : Nat) : Int) + _ ≤ _; omega⟩, ⟨by omega, by rw [p27]; show ((1 : Nat) : Int) + _ ≤ _; omega⟩, ?_⟩
    rw [Int.one_mul, Int.one_mul]
    obtain ⟨A, eA⟩ : ∃ A : Nat, L + 160 = (A : Int) := ⟨(L + 160).toNat, by omega⟩
    obtain ⟨N, eN⟩ : ∃ N : Nat, U + 160 + 1 = (A : Int) + N := ⟨(U + 160 + 1 - A).toNat, by omega⟩
    rw [eN, eA, show ((A : Int) + N).toNat = A + N by omega, Int.toNat_natCast]
    have key := fun s => ones_has (a := A) (n := N) s
    refine h _ ⟨((key L).mpr ⟨by omega, by omega, by omega⟩).1, fun s => ?_⟩
    rw [key]
    omega
theorem ok_moved {f : Addr} {fd : FuncData} (T : Txt K mg ca) (F : Fun K "moved" "moved" s_moved f fd)  :
    FnOk P w K mg base CX0 1 f fd ["bits", "number"] (spD (theT (Ts ca)) K (FF_moved)) := by
  refine okP F sc_moved (by walk_at "v") (by decide) fun cdv A outer s H E G Fp hr => ⟨_, (dss_one (ds_ret (de_if (dt_cmp op_geA od_cmp (de_var (pv 1)) de_int (nomark _)) (de_op op_shlW od_I (de_var (pv 0)) (de_var (pv 1))) (de_op op_shr od_I (de_var (pv 0)) (de_op op_sub od_I0 de_int (de_var (pv 1))))))), ?_⟩
  dsimp only [Bk.T, theT]
  rintro rs τ Q ⟨b, n, rfl, hb, hs, hn, h⟩
  walk_at "x"
  refine kIf_of (fun e => ?_) fun e => ?_
  · have e := of_decide_eq_true e
    obtain ⟨k, rfl⟩ := Int.eq_ofNat_of_zero_le e
    have p27 : (2 : Int) ^ 27 = 134217728 := by decide
    have := bits_le hb hs (by decide)
    walk_at "x"
    refine ⟨⟨e, by rw [p27]; omega⟩, ?_⟩
    rw [Int.toNat_natCast]
    refine h _ ⟨Int.mul_nonneg hb (Int.le_of_lt (Int.pow_pos (by decide))), fun s => ?_⟩
    rw [shl_has hb]
    constructor
    · rintro ⟨h1, h2, h3⟩
      exact ⟨by omega, h3⟩
    · rintro ⟨h1, h3⟩
      have := h3.2.1
      exact ⟨by omega, by omega, h3⟩
  · have e := of_decide_eq_false e
    obtain ⟨k, ek⟩ : ∃ k : Nat, (0 : Int) - n = k := ⟨(0 - n).toNat, by omega⟩
    walk_at "x"
    refine ⟨by omega, ?_⟩
    rw [ek, Int.toNat_natCast]
    refine h _ ⟨Int.ediv_nonneg hb (Int.le_of_lt (Int.pow_pos (by decide))), fun s => ?_⟩
    show _ ↔ -160 ≤ s ∧ hasS b (s - n)
    rw [shr_has hb, show s - n = s + k by omega]
    constructor
    · rintro ⟨h1, h3⟩
      exact ⟨by omega, h3⟩
    · rintro ⟨h1, h3⟩
      exact ⟨by omega, h3⟩
theorem ok__law_begin {f : Addr} {fd : FuncData} (T : Txt K mg ca) (F : Fun K "_law_begin" "_law_begin" s__law_begin f fd) : FnOk P w K mg base CX0 1 f fd ["_law_script"] (spD (theS ((Ts ca).map (·.1))) K FF__law_begin) := by
  refine F.ok sc__law_begin (fun vs H Q E h => ?_) (fun cdv A outer s H vs Q E hr h => ?_)
  · obtain ⟨G, Fp, τ, rs, Qd, Ha, k, r, dr, ⟨ns, e, hl, ht, q⟩, fin⟩ := h
    subst e
    obtain ⟨v, e1, _⟩ := r.one
    subst e1
    rfl
  · obtain ⟨G, Fp, τ, rs, Qd, Ha, k, r, dr, ⟨ns, e, hl, ht, q⟩, fin⟩ := h
    subst e ht
    obtain ⟨v, e1, rv⟩ := r.one
    subst e1
    obtain ⟨p, ws, ev, hp, ra⟩ := rv.sql (xs := ns.map PyData.int) k.same rfl
    subst ev
    have ew := ints_ok ra (ints_map ns)
    subst ew
    have noF : ∀ b, ¬ Fp b := k.r
    refine ⟨_, pss_one (ps_ret (pe_disp (pps_cons pe_str (pe_op op_addA (pv 0) (pe_lst (pa_cons pe_int pa_nil))) (pps_cons pe_str pe_int (pps_cons pe_str pe_int (pps_cons pe_str pe_int pps_nil)))) (by rfl) (by rfl) (fun z => by cases z) (by decide))), ?_⟩
    intro d hd
    refine ⟨_, rfl, (by show 1 ≤ sizeLine; decide), fun x hx => ?_⟩
    have s1 : Same H (upd H d (.dK [])) := fun b o e => by rw [upd_ne (ne_of_none e hd)]; exact e
    have s2 : Same (upd H d (.dK [])) (upd (upd H d (.dK [])) x (.lst [.int 0])) := fun b o e => by rw [upd_ne (ne_of_none e hx)]; exact e
    refine .inr (.inr (.inr ⟨p, x, _, _, rfl, rfl, same_sqp (s1.trans s2) hp, .inl (.inl upd_same), ?_, fun c hc => ?_⟩))
    · rw [List.length_map]
      show ns.length + 1 ≤ sizeLine
      rw [sizeLine_eq]
      omega
    have s3 : Same (upd (upd H d (.dK [])) x (.lst [.int 0])) (upd (upd (upd H d (.dK [])) x (.lst [.int 0])) c (.lst (ns.map V.int ++ [.int 0]))) := fun b o e => by rw [upd_ne (ne_of_none e hc)]; exact e
    have dx : d ≠ x := fun z => by
      subst z
      rw [upd_same] at hx
      cases hx
    have dc : d ≠ c := fun z => by
      subst z
      rw [upd_ne dx, upd_same] at hc
      cases hc
    have hc0 : H c = none := by
      cases z : H c with
      | none => rfl
      | some o =>
        rw [s2 c o (s1 c o z)] at hc
        cases hc
    refine ⟨by rw [upd_ne dc, upd_ne dx, upd_same], drK c 0 0 0, rfl, by show 4 ≤ 15; decide, ?_⟩
    rw [dr_new]
    have hG : G c = none := by
      cases z : G c with
      | none => rfl
      | some o =>
        rw [k.same c o z] at hc0
        cases hc0
    have ec : ns.map V.int ++ [V.int 0] = (ns ++ [0]).map V.int := by rw [List.map_append]; rfl
    have sG : Same G (upd G c (.lst (ns.map V.int ++ [.int 0]))) := fun b o e => by rw [upd_ne (ne_of_none e hG)]; exact e
    refine fin (.raw (.ref d)) (.on d 1152921504606846976) (upd G c (.lst (ns.map V.int ++ [.int 0]))) (fun b => b = d) _ (.ref d) ⟨sG, fun b o _ e => ?_, fun b o e => ?_, fun b e => ?_, fun b e => (noF b e).elim, fun b e => ?_⟩ ⟨fun b o e => ?_, fun b e => ?_, fun b e => ?_, ⟨fun b => Iff.rfl, c, ns ++ [0], 0, 0, 0, upd_same, ?_, by simp, by omega⟩, fun b ps e => ?_, fun b φ e => ?_⟩ rfl (q d)
    · rw [upd_ne (ne_of_none e hd)]
      exact s3 b o (s2 b o (s1 b o e))
    · by_cases z : b = c
      · subst z; exact .inr (.inl hc0)
      · rw [upd_ne z] at e; exact .inl e
    · subst e; exact .inr hd
    · intro z
      by_cases zd : b = d
      · subst zd; exact e hd
      · rw [upd_ne zd] at z
        cases y : H b with
        | none => exact e y
        | some o =>
          rw [s3 b o (s2 b o (s1 b o y))] at z
          cases z
    · by_cases z : b = c
      · subst z
        rw [upd_same] at e
        rw [upd_ne (Ne.symm dc), upd_same]
        exact e
      · rw [upd_ne z] at e
        have hb := k.same b o e
        rw [upd_ne (ne_of_none hb hd)]
        exact s3 b o (s2 b o (s1 b o hb))
    · subst e
      rw [upd_ne dc]
      cases z : G b with
      | none => rfl
      | some o =>
        rw [k.same b o z] at hd
        cases hd
    · subst e
      rw [upd_same]
      exact fun z => by cases z
    · rw [← ec]
      exact .inl (.inl upd_same)
    · by_cases h1 : b = d
      · subst h1; rw [upd_same] at e; cases e
      rw [upd_ne h1] at e
      by_cases h2 : b = c
      · subst h2; rw [upd_same] at e; cases e
      rw [upd_ne h2] at e
      by_cases h3 : b = x
      · subst h3; rw [upd_same] at e; cases e
      rw [upd_ne h3, upd_ne h1] at e
      exact k.nt b ps e
    · by_cases h1 : b = d
      · subst h1; rw [upd_same] at e; cases e
      rw [upd_ne h1] at e
      by_cases h2 : b = c
      · subst h2; rw [upd_same] at e; cases e
      rw [upd_ne h2] at e
      by_cases h3 : b = x
      · subst h3; rw [upd_same] at e; cases e
      rw [upd_ne h3, upd_ne h1] at e
      rw [upd_ne h2]
      exact k.nx b φ e
theorem ok__law_mixed {f : Addr} {fd : FuncData} (T : Txt K mg ca) (F : Fun K "_law_mixed" "_law_mixed" s__law_mixed f fd) :
    FnOk P w K mg base CX0 1 f fd ["_law_cell", "_law_k"] (spD (theS ((Ts ca).map (·.1))) K FF__law_mixed) := by
  refine okDr F sc__law_mixed (by walk_at "v") (by decide) fun cdv A outer s H E G Fp hr => ⟨_, (dss_cons (ds_set (i := 2) sc__law_mixed.nd rfl (by first | exact .inl rfl | exact .inr rfl) (de_op op_mod od_I (de_op op_mulB (od_mulB rfl) (de_op op_addA (od_add rfl) (de_op op_addA (od_add rfl) (de_op op_addA (od_add rfl) (de_op op_mod od_I (de_var (pv 0)) de_int) (de_op op_mulB (od_mulB rfl) (de_op op_mulB (od_mulB rfl) de_int (de_var (pv 1))) (de_var (pv 1)))) (de_op op_mulB (od_mulB rfl) de_int (de_var (pv 1)))) de_int) de_int) de_int))
      (dss_one (ds_ret (de_op op_fdiv od_I (de_op op_mod od_I (de_op op_mulB (od_mulB rfl) (de_var (pv 2)) (de_op op_addA (od_add rfl) de_int (de_op op_mulB (od_mulB rfl) de_int (de_op op_mod od_I (de_var (pv 1)) de_int)))) de_int) de_int)))), ?_⟩
  dsimp only [Bk.T, theS]
  rintro rs τ Q ⟨c, k, rfl, hk, h⟩
  walk_at "y"
  refine ⟨by decide, .inl ⟨by decide, by decide⟩, .inr ⟨by omega, by omega⟩, .inl ⟨by decide, by decide⟩, .inr ⟨by decide, by decide⟩, by decide, by decide, .inl ⟨by decide, by decide⟩, .inr ⟨by omega, by omega⟩, by decide, ⟨by decide, by decide⟩, h _ ?_⟩
  exact Int.ediv_nonneg (Int.emod_nonneg _ (by decide)) (by decide)
theorem ok__law_totals {f : Addr} {fd : FuncData} (T : Txt K mg ca) (F : Fun K "_law_totals" "_law_totals" s__law_totals f fd)  :
    FnG P w K mg base 1 f fd ["_law_lot", "_law_size", "_law_is_even", "_law_each_once"] (spD (theT (Ts ca)) K (FF__law_totals)) := by
  refine FnG.drop ?_
  refine okG F sc__law_totals (by walk_at "w") (by decide) fun cdv A outer s H E G Fp hcd hr => ⟨_, (dss_cons (ds_if (dt_tru rfl (de_var (pv 2)))
        (dss_one (ds_ret (de_srtSet rfl (by rfl) T.b_sorted (by rfl) T.b_set (de_op op_addA (od_add rfl) (de_lc (own := [("_law_one", 4)]) rfl sc__law_totals.nd (di_seq rfl (de_var (pv 0))) (blkOk_by (by kernel_rfl)) (by decide) (fun _ _ _ _ _ => (dg_nm (i := 4) sc__law_totals.nd rfl (by first | exact .inl rfl | exact .inr rfl))) (fun _ _ _ _ _ => (dts_one (dt_w (dw_or (dt_cmp op_ltA od_cmp (de_var (pv 1)) de_int (nomark _)) (dw_or1 (dt_not (dt_tru rfl (de_var (pv 3))))))))) (fun _ _ _ _ _ => (de_op op_mulB (od_mulB rfl) (de_var (pv 1)) (de_var (pv 4))))) (de_op op_mulB (od_mulB rfl) (de_lst (da_cons de_int da_nil)) (de_callTy call_intA cd_int (by rfl) T.b_int (by decide +kernel) (da_cons (de_cmp (op_eqA hr.units) (od_eq rfl) (de_var (pv 1)) de_int (nomark _)) da_nil)))))))
        dss_nil)
      (dss_cons (ds_set (i := 5) sc__law_totals.nd rfl (by first | exact .inl rfl | exact .inr rfl) (de_dispT T.nf hr.u0 (de_tup (da_cons de_int (da_cons de_int da_nil))) de_bl))
      (dss_cons (ds_for PassesOwn.never rfl (di_seq rfl (de_var (pv 0))) (dg_nm (i := 4) sc__law_totals.nd rfl (by first | exact .inl rfl | exact .inr rfl))
        (dss_cons (ds_set (i := 6) sc__law_totals.nd rfl (by first | exact .inl rfl | exact .inr rfl) de_newT)
        (dss_cons (ds_forT PassesOwn.never rfl (pv 5) (dg_tp rfl rfl (dg_cons (dg_nm (i := 7) sc__law_totals.nd rfl (by first | exact .inl rfl | exact .inr rfl)) (dg_cons (dg_nm (i := 8) sc__law_totals.nd rfl (by first | exact .inl rfl | exact .inr rfl)) dg_nil)))
          (dss_one (ds_for PassesOwn.never rfl (di_range1 (by rfl) T.b_range (da_cons (de_op op_addA (od_add rfl) (de_op op_sub od_I0 (de_var (pv 1)) (de_var (pv 7))) de_int) da_nil)) (dg_nm (i := 9) sc__law_totals.nd rfl (by first | exact .inl rfl | exact .inr rfl))
            (dss_one (ds_if (dt_w (dw_or (dt_cmp op_ltA od_cmp (de_var (pv 9)) de_int (nomark _)) (dw_or1 (dt_not (dt_tru rfl (de_var (pv 3)))))))
              (dss_one (ds_putV T.nf (u1 hr.un) (pv 6) (de_tup (da_cons (de_op op_addA (od_add rfl) (de_var (pv 7)) (de_var (pv 9))) (da_cons (de_op op_addA (od_add rfl) (de_var (pv 8)) (de_op op_mulB (od_mulB rfl) (de_var (pv 9)) (de_var (pv 4)))) da_nil))) de_bl))
              dss_nil)))))
        (dss_one (ds_set (i := 5) sc__law_totals.nd rfl (by first | exact .inl rfl | exact .inr rfl) (de_var (pv 6)))))))
      (dss_one (ds_ret (de_callB cr_sortA (cd_sortA rfl) (by rfl) T.b_sorted (by decide +kernel) (da_cons (de_lcT (own := [("_law_own", 7), ("_law_total", 8)]) rfl sc__law_totals.nd (pv 5) (blkOk_by (by kernel_rfl)) (by decide) (fun _ _ _ _ _ => (dg_tp rfl rfl (dg_cons (dg_nm (i := 7) sc__law_totals.nd rfl (by first | exact .inl rfl | exact .inr rfl)) (dg_cons (dg_nm (i := 8) sc__law_totals.nd rfl (by first | exact .inl rfl | exact .inr rfl)) dg_nil)))) (fun _ _ _ _ _ => (dts_one (dt_cmp (op_eqA hr.units) (od_eq rfl) (de_var (pv 7)) (de_var (pv 1)) (nomark _)))) (fun _ _ _ _ _ => (de_var (pv 8)))) da_nil))))))), ?_⟩
  dsimp only [Bk.T, theT]
  rintro rs τ Q2 ⟨Q, ⟨ns, m, lvl, unl, rfl, hr, nd, hl, hm, q⟩, rfl⟩
  walk_at "Y"
  cases lvl with
  | true =>
    walk_at "Y"
    refine lc_filt (τ := τ) PyData.int (fun x : Int => .int ((m : Int) * x)) (fun _ => decide ((m : Int) < 2) || !unl) ns (fun x hx kc k0 h1 h0 => ?_) (by rw [sizeLine_eq]; omega) ?_
    · walk_at "Y"
      refine kOrT_or (c := !unl) (fun _ Q' q => ?_) ?_
      · walk_at "Y"
        exact q
      cases e : (decide ((m : Int) < 2) || !unl)
      · walk_at "Y"
        exact h0 e
      · walk_at "Y"
        have hx := hr x hx
        exact ⟨.inl ⟨by omega, by omega⟩, h1 e⟩
    walk_at "Y"
    rw [show (if decide ((m : Int) = 0) = true then (1 : Int) else 0) = ((if m = 0 then 1 else 0 : Nat) : Int) by by_cases e : m = 0 <;> simp [e]]
    refine gMulA_ol ⟨⟨by split <;> omega, by split <;> omega⟩, by rw [sizeLine_eq, List.length_singleton]; split <;> omega, ?_⟩
    walk_at "Y"
    have hf := List.length_filter_le (fun _ : Int => decide ((m : Int) < 2) || !unl) ns
    have eL : List.map (fun x => PyData.int ((m : Int) * x)) (List.filter (fun _ => decide ((m : Int) < 2) || !unl) ns) ++ (List.replicate (((if m = 0 then 1 else 0 : Nat) : Int)).toNat [PyData.int 0]).flatten =
        ((ns.filter fun _ => decide ((m : Int) < 2) || !unl).map (fun x => (m : Int) * x) ++ List.replicate (if m = 0 then 1 else 0) 0).map PyData.int := by
      rw [List.map_append, List.map_map]
      congr 1
      by_cases e : m = 0 <;> simp [e]
    refine ⟨?_, ?_⟩
    · rw [← List.length_append, eL, List.length_map, List.length_append, List.length_map, List.length_replicate, sizeLine_eq]
      split <;> omega
    rw [eL]
    refine ⟨_, rfl, ?_, fun ms h1 h2 => ?_⟩
    · rw [List.length_append, List.length_map, List.length_replicate]
      split <;> omega
    walk_at "Y"
    exact ⟨⟨[], rfl⟩, q ms (h1.imp fun h => Int.ne_of_lt h) fun x => (h2 x).trans lots_even⟩
  | false =>
    walk_at "Y"
    intro p hp
    walk_at "Y"
    refine ⟨[0, 0], rfl, .bool true, rfl, cget_hd, ?_⟩
    rw [cset_hd]
    refine for_mapA (T := T2) PyData.int (fun j env τ' => ∃ (pl : Addr) (M : List (List Key × Z.D)) (new : List (Addr × Cel)) (x4 x6 x7 x8 x9 : SV), τ' = ⟨τ.dr, new ++ τ.cs⟩ ∧ cget new pl = some (.dt M) ∧
      env = [.d (tI ns), .d (.int m), .d (.bool false), .d (.bool unl), x4, .raw (.ref pl), x6, x7, x8, x9] ∧ Lay M (LayP ns unl m j)) ns _ _
      ⟨p, _, [_], _, _, _, _, _, rfl, cget_hd, rfl, LayP.zero⟩ ?_ ?_
    · rintro j x env τ' hj ⟨pl, M, new, x4, x6, x7, x8, x9, rfl, hM, rfl, lay⟩ kn hkn
      have hx := hr x (List.mem_of_getElem? hj)
      walk_at "Y"
      intro pf hpf
      have hne : pf ≠ pl := fun z => hpf (by rw [z]; exact cget_key (cget_app hM))
      walk_at "Y"
      refine ⟨pl, M, rfl, by rw [cget_tl hne]; exact cget_app hM, fun od kv hk => ?_⟩
      rw [cset_tl hne, cset_app hM]
      have hN : cget (cset new pl (.lk od kv)) pl = some (.lk od kv) := cget_set hM
      generalize cset new pl (.lk od kv) = new2 at hN ⊢
      refine for_invT (fun i env τ' => ∃ (F : List (List Key × Z.D)) (x7 x8 x9 : SV), τ' = ⟨τ.dr, (pf, .dt F) :: (new2 ++ τ.cs)⟩ ∧
        env = [.d (tI ns), .d (.int m), .d (.bool false), .d (.bool unl), .d (.int x), .raw (.ref pl), .raw (.ref pf), x7, x8, x9] ∧ Lay F (UpTo M unl x m i)) ?_ _ _ _ ⟨[], _, _, _, rfl, rfl, Lay.nil fun o s ⟨e, he, _⟩ => by rw [List.take_zero] at he; cases he⟩ ?_ ?_
      · rintro i env τ' ⟨F, y7, y8, y9, rfl, rfl, _⟩
        show cget ((pf, _) :: (new2 ++ τ.cs)) pl = _
        rw [cget_tl hne]
        exact cget_app hN
      · rintro i y env τ' hi ⟨F, y7, y8, y9, rfl, rfl, layF⟩ kn2 hkn2
        rw [List.getElem?_map] at hi
        obtain ⟨e, hi2, rfl⟩ := Option.map_eq_some_iff.mp hi
        clear hi
        obtain ⟨o', s', he, hP⟩ := lay.of e (List.mem_of_getElem? hi2)
        obtain ⟨⟨f1, f2⟩, f3, f4⟩ := hP.few hr hm
        have f5 := hP.2.1
        rw [he]
        show kFtB _ _ _ (tgE _ (.tuple [.int o', .int s']) _)
        walk_at "Y"
        refine ⟨by omega, ?_⟩
        refine for_inv (fun k env τ' => ∃ (F : List (List Key × Z.D)) (x9 : SV), τ' = ⟨τ.dr, (pf, .dt F) :: (new2 ++ τ.cs)⟩ ∧
          env = [.d (tI ns), .d (.int m), .d (.bool false), .d (.bool unl), .d (.int x), .raw (.ref pl), .raw (.ref pf), .d (.int o'), .d (.int s'), x9] ∧ Lay F (fun o s => UpTo M unl x m i o s ∨ ∃ q : Nat, q < k ∧ ByX unl x m o' s' q o s)) _ _ _
          ⟨F, _, rfl, rfl, layF.imp fun o s => ⟨.inl, fun z => z.elim id fun ⟨q, h, _⟩ => absurd h (Nat.not_lt_zero q)⟩⟩ ?_ ?_
        · rintro k y env τ' hk ⟨F, y9, rfl, rfl, layF⟩ kn3 hkn3
          obtain ⟨hk2, rfl⟩ := rgI_get hk
          rw [Int.zero_add]
          walk_at "Y"
          refine kOrT_or (c := !unl) (fun _ Q' q => ?_) ?_
          · walk_at "Y"
            exact q
          cases eb : (decide ((k : Int) < 2) || !unl)
          · walk_at "Y"
            rw [Bool.or_eq_false_iff, decide_eq_false_iff_not, Bool.not_eq_false'] at eb
            refine hkn3 _ _ ⟨F, _, rfl, rfl, layF.imp fun o s => ⟨fun z => z.imp id fun ⟨q, h, b⟩ => ⟨q, by omega, b⟩, fun z => z.imp id fun ⟨q, h, b⟩ => ⟨q, ?_, b⟩⟩⟩
            have := b.1 eb.2
            omega
          · have hu : unl = true → k < 2 := fun hu => by
              rw [hu] at eb
              simp at eb
              omega
            have hlF : F.length < sizeLine := by
              have := layF.few fun o s z => (show LayP ns unl m (j + 1) o s from z.elim (fun z => z.p hj nd lay) fun ⟨q, _, b⟩ => hP.step hj nd b).few hr hm
              rw [sizeLine_eq]
              omega
            walk_at "Y"
            refine ⟨.bool true, pf, rfl, rfl, ?_⟩
            walk_at "Y"
            refine ⟨.inl ⟨by omega, by omega⟩, ?_⟩
            walk_at "X"
            refine ⟨_, rfl, ?_⟩
            unfold kPutC
            rw [cget_hd]
            refine ⟨[o' + k, s' + k * x], rfl, hlF, ?_⟩
            rw [cset_hd]
            refine hkn3 _ _ ⟨_, _, rfl, rfl, (layF.put (o' + k) (s' + k * x) (.bool true)).imp fun o s => ⟨?_, ?_⟩⟩
            · rintro ((z | ⟨q, h, b⟩) | ⟨rfl, rfl⟩)
              · exact .inl z
              · exact .inr ⟨q, by omega, b⟩
              · exact .inr ⟨k, by omega, hu, rfl, by omega, rfl⟩
            · rintro (z | ⟨q, h, b⟩)
              · exact .inl (.inl z)
              · by_cases e : q = k
                · subst e
                  exact .inr ⟨b.2.1, b.2.2.2⟩
                · exact .inl (.inr ⟨q, by omega, b⟩)
        · rintro env τ' ⟨F, y9, rfl, rfl, layF⟩
          rw [rgI_len] at layF
          walk_at "X"
          exact hkn2 _ _ ⟨F, _, _, _, rfl, rfl, layF.imp fun o s => ((UpTo.succ hi2 he o s).trans ⟨fun z => z.imp id fun ⟨q, b⟩ => ⟨q, b.lt, b⟩, fun z => z.imp id fun ⟨q, _, b⟩ => ⟨q, b⟩⟩).symm⟩
      · rintro env τ' ⟨F, y7, y8, y9, rfl, rfl, layF⟩
        rw [List.length_map] at layF
        walk_at "Y"
        exact hkn _ _ ⟨pf, F, (pf, .dt F) :: new2, _, _, _, _, _, rfl, cget_hd, rfl, layF.imp (UpTo.all hj nd lay (Nat.le_refl _))⟩
    · rintro env τ' ⟨pl, M, new, x4, x6, x7, x8, x9, rfl, hM, rfl, lay⟩
      walk_at "Y"
      refine ⟨pl, M, rfl, cget_app hM, fun od kv hk => ?_⟩
      rw [cset_app hM]
      have hN : cget (cset new pl (.lk od kv)) pl = some (.lk od kv) := cget_set hM
      generalize cset new pl (.lk od kv) = new2 at hN ⊢
      walk_at "X"
      refine lcT_filt (fun e : List Key × Z.D => keyV e.1) (fun e => .int (sndK e)) (fun e => decide (fstK e = m)) (cget_app hN) M (fun e he kc k0 h1 h0 => ?_) ?_ ?_
      · obtain ⟨o', s', e1, hP⟩ := lay.of e he
        rw [fstK_of e1] at h1 h0
        rw [sndK_of e1] at h1
        rw [e1]
        show kTgB _ _ _ _ _ (tgE _ (.tuple [.int o', .int s']) _)
        walk_at "Y"
        cases eb : decide (o' = (m : Int))
        · walk_at "X"
          exact h0 eb
        · walk_at "X"
          exact h1 eb
      · have := lay.few fun o s z => z.few hr hm
        rw [sizeLine_eq]
        omega
      walk_at "X"
      refine gSortA_of (ns := (M.filter fun e => decide (fstK e = m)).map sndK) (by rw [List.map_map]; rfl) fun ms h1 h2 => ?_
      walk_at "X"
      obtain ⟨s1, s2⟩ := lay.snds (m : Int)
      refine ⟨⟨new2, rfl⟩, q ms (h1.nodup_iff.mpr s1) fun x => (h1.mem_iff.trans (s2 x)).trans ?_⟩
      unfold LayP
      rw [List.take_length, Int.toNat_natCast]
      exact ⟨fun z => z.2.2, fun z => ⟨by omega, by omega, z⟩⟩
theorem ok__law_bits {f : Addr} {fd : FuncData} (T : Txt K mg ca) (F : Fun K "_law_bits" "_law_bits" s__law_bits f fd)  :
    FnG P w K mg base 1 f fd ["_law_totals_here"] (spD (theT (Ts ca)) K (FF__law_bits)) := by
  refine okG F sc__law_bits (by walk_at "v") (by decide) fun cdv A outer s H E G Fp hcd hr => ⟨_, (dss_cons (ds_set (i := 1) sc__law_bits.nd rfl (by first | exact .inl rfl | exact .inr rfl) de_int)
      (dss_cons (ds_for PassesOwn.never rfl (di_seq rfl (de_var (pv 0))) (dg_nm (i := 2) sc__law_bits.nd rfl (by first | exact .inl rfl | exact .inr rfl))
        (dss_one (ds_set (i := 1) sc__law_bits.nd rfl (by first | exact .inl rfl | exact .inr rfl) (de_op op_addA (od_add rfl) (de_var (pv 1)) (de_op op_shlW od_I de_int (de_op op_addA (od_add rfl) (de_var (pv 2)) de_int))))))
      (dss_one (ds_retR (dr_own (pv 1)))))), ?_⟩
  dsimp only [Bk.T, theT]
  rintro rs τ Q ⟨xs, rfl, nd, hr, q⟩
  walk_at "Y"
  refine for_mapA (T := T2) PyData.int (fun j env τ' => τ' = τ ∧ ∃ (b : Int) (x : SV), BitsOf b (fun s => s ∈ xs.take j) ∧ env = [.d (.list (xs.map .int)), .d (.int b), x]) xs _ _ ⟨rfl, 0, _, ⟨Int.le_refl _, fun s => ⟨fun z => absurd z.2.2 (by simp), fun z => (nomatch z)⟩⟩, rfl⟩ ?_ ?_
  · rintro j x env τ' hj ⟨rfl, b, y, hb, rfl⟩
    walk_at "Y"
    intro kn hk
    have hx := List.mem_of_getElem? hj
    have hr := hr x hx
    have hn : x ∉ xs.take j := fun z => by
      have e : xs = xs.take j ++ x :: xs.drop (j + 1) := by
        obtain ⟨h1, h2⟩ := List.getElem?_eq_some_iff.mp hj
        rw [← h2, ← List.drop_eq_getElem_cons h1, List.take_append_drop]
      rw [e, List.nodup_append] at nd
      exact nd.2.2 x z x List.mem_cons_self rfl
    have e1 : Builtin.Int.intBits 1 = 1 := by decide +kernel
    refine ⟨by unfold CShl; rw [e1]; omega, hk _ _ ⟨rfl, _, _, ?_, rfl⟩⟩
    have h2 := bits_add hb hr.1 hn
    refine ⟨h2.1, fun s => (h2.2 s).trans ?_⟩
    rw [List.take_succ, hj]
    simp
  · rintro env τ' ⟨rfl, b, y, hb, rfl⟩
    walk_at "Y"
    rw [List.take_length] at hb
    exact q b hb
theorem ok_level_sums {f : Addr} {fd : FuncData} (T : Txt K mg ca) (F : Fun K "level_sums" "level_sums" s_level_sums f fd) (k_window : Known P w K mg base (theT (Ts ca)) "window" ["least", "most"] 1 (FF_window)) :
    FnOk P w K mg base CX0 2 f fd ["numbers", "most", "is_unlike"] (spD (theT (Ts ca)) K (FF_level_sums)) := by
  refine okP F sc_level_sums (by walk_at "v") (by decide) fun cdv A outer s H E G Fp hr => ⟨_, (dss_cons (ds_set (i := 3) sc_level_sums.nd rfl (by first | exact .inl rfl | exact .inr rfl) (de_lst (da_cons (de_callK rfl k_window (hr.mono (by decide)) (by rfl) (da_cons de_int (da_cons de_int da_nil))) da_nil)))
      (dss_cons (ds_for PassesOwn.never rfl (di_range2 (by rfl) T.b_range (da_cons de_int (da_cons (de_op op_addA (od_add rfl) (de_var (pv 1)) de_int) da_nil))) (dg_nm (i := 4) sc_level_sums.nd rfl (by first | exact .inl rfl | exact .inr rfl))
        (dss_cons (ds_set (i := 5) sc_level_sums.nd rfl (by first | exact .inl rfl | exact .inr rfl) de_int)
        (dss_cons (ds_for PassesOwn.never rfl (di_seq rfl (de_if (dt_w (dw_or (dt_cmp (op_eqA hr.units) (od_eq rfl) (de_var (pv 4)) de_int (nomark _)) (dw_or1 (dt_not (dt_tru rfl (de_var (pv 2))))))) (de_var (pv 0)) (de_tup da_nil))) (dg_nm (i := 6) sc_level_sums.nd rfl (by first | exact .inl rfl | exact .inr rfl))
          (dss_one (ds_set (i := 5) sc_level_sums.nd rfl (by first | exact .inl rfl | exact .inr rfl) (de_op op_or od_I0 (de_var (pv 5)) (de_callK rfl k_window (hr.mono (by decide)) (by rfl) (da_cons (de_op op_mulB (od_mulB rfl) (de_var (pv 4)) (de_var (pv 6))) (da_cons (de_op op_mulB (od_mulB rfl) (de_var (pv 4)) (de_var (pv 6))) da_nil)))))))
        (dss_one (ds_app (ps_expr (pe_bm PySem.F.plainAttrs_list PySem.F.slot_list_append PySem.F.type_list_append mt_append (pv 3) (pa_cons (de_var (pv 5)) pa_nil))))))))
      (dss_one (ds_retR (dr_own (pv 3)))))), ?_⟩
  dsimp only [Bk.T, theT]
  rintro rs τ Q ⟨ns, m, unl, rfl, hr, hl, hm, h⟩
  walk_at "x"
  refine ⟨_, _, rfl, fun f hf => ?_⟩
  walk_at "x"
  refine ⟨⟨by omega, by omega⟩, ?_⟩
  refine for_inv (fun j env τ' => τ' = τ ∧ ∃ x4 x5 x6, ∃ fs : List Int, env = [.d (tI ns), .d (.int m), .d (.bool unl), .ol (fs.map .int), x4, x5, x6] ∧ fs.length = j + 1 ∧ SumsOk ns true unl fs) _ _ _ ⟨rfl, _, _, _, [f], rfl, rfl, ?_⟩ ?_ ?_
  · intro k g hk
    match k, hk with
    | 0, hk =>
      cases hk
      refine ⟨hf.1, fun s => (hf.2 s).trans ?_⟩
      rw [lot_zero]
      omega
    | k + 1, hk => simp at hk
  · rintro j x env τ' ej ⟨rfl, x4, x5, x6, fs, rfl, hfl, hfs⟩ kn hkn
    obtain ⟨hj, rfl⟩ := rgI_get ej
    have hj : j < m := by omega
    clear ej
    walk_at "x"
    refine kOrT_or (c := !unl) (fun _ Q' q => by walk_at "x"; exact q) ?_
    refine kIf_join (fun x τ'' => τ'' = τ' ∧ x = .d (tI (if (decide ((1 : Int) + j = 1) || !unl) = true then ns else []))) (fun e Q' q => ?_) (fun e Q' q => ?_) ?_
    · walk_at "x"
      exact q _ _ ⟨rfl, by rw [e, if_pos rfl]⟩
    · walk_at "x"
      exact q _ _ ⟨rfl, by rw [e, if_neg (by decide)]; rfl⟩
    rintro x τ'' ⟨rfl, rfl⟩
    have hL : ∀ x, x ∈ (if (decide ((1 : Int) + j = 1) || !unl) = true then ns else []) ↔ x ∈ ns ∧ (j = 0 ∨ unl = false) := by
      intro x
      by_cases hc : (decide ((1 : Int) + j = 1) || !unl) = true
      · rw [if_pos hc]
        rw [Bool.or_eq_true, decide_eq_true_eq, Bool.not_eq_true'] at hc
        exact ⟨fun z => ⟨z, hc.elim (fun e => .inl (by omega)) .inr⟩, fun z => z.1⟩
      · rw [if_neg hc]
        rw [Bool.or_eq_true, decide_eq_true_eq, Bool.not_eq_true'] at hc
        refine ⟨fun z => by simp at z, fun z => (hc ?_).elim⟩
        rcases z.2 with e | e
        · exact .inl (by omega)
        · exact .inr e
    generalize (if (decide ((1 : Int) + j = 1) || !unl) = true then ns else []) = L at hL
    simp only [tI]
    walk_at "x"
    refine for_inv (fun i env τ3 => τ3 = τ'' ∧ ∃ x6, ∃ b : Int, env = [.d (.tuple (ns.map .int)), .d (.int m), .d (.bool unl), .ol (fs.map .int), .d (.int (1 + j)), .d (.int b), x6] ∧ BitsOf b (fun s => ∃ x ∈ L.take i, s = ((j : Int) + 1) * x)) _ _ _ ⟨rfl, _, 0, rfl, Int.le_refl _, fun s => ⟨fun z => ?_, fun z => ?_⟩⟩ ?_ ?_
    · have := z.2.2
      simp at this
    · obtain ⟨x, hx, _⟩ := z
      simp at hx
    · rintro i y env τ3 ei ⟨rfl, x6, b, rfl, hb⟩ kn2 hkn2
      rw [List.getElem?_map] at ei
      cases en : L[i]? with
      | none => rw [en] at ei; cases ei
      | some x =>
        rw [en] at ei
        cases ei
        have hxn := ((hL x).mp (List.mem_of_getElem? en)).1
        have hxr := hr x hxn
        walk_at "x"
        refine ⟨.inl (by omega), .inl (by omega), ?_⟩
        refine ⟨_, _, rfl, fun g hg => ?_⟩
        walk_at "x"
        refine hkn2 _ _ ⟨rfl, _, _, rfl, ?_⟩
        refine ⟨bitOr_nn0 hb.1 hg.1, fun s => ?_⟩
        rw [or_has hb.1 hg.1, hb.2, hg.2, List.take_add_one, en]
        have hjx : -160 ≤ (1 + (j : Int)) * x ∧ (1 + (j : Int)) * x ≤ 160 := by
          have : (1 + (j : Int)) * x = x * (1 + (j : Int)) := Int.mul_comm _ _
          have h1 : (1 + (j : Int)) * x ≤ (1 + (j : Int)) * 20 := Int.mul_le_mul_of_nonneg_left hxr.2 (by omega)
          have h2 : (1 + (j : Int)) * (-20) ≤ (1 + (j : Int)) * x := Int.mul_le_mul_of_nonneg_left hxr.1 (by omega)
          omega
        have ec : (1 + (j : Int)) * x = ((j : Int) + 1) * x := by rw [Int.add_comm]
        constructor
        · rintro (⟨y, hy, rfl⟩ | ⟨_, h1, h2⟩)
          · exact ⟨y, List.mem_append_left _ hy, rfl⟩
          · exact ⟨x, by simp, by omega⟩
        · rintro ⟨y, hy, rfl⟩
          rcases List.mem_append.mp hy with hy | hy
          · exact .inl ⟨y, hy, rfl⟩
          · simp only [Option.toList_some, List.mem_singleton] at hy
            subst hy
            exact .inr ⟨by omega, by omega, by omega⟩
    · rintro env τ3 ⟨rfl, x6, b, rfl, hb⟩
      rw [List.length_map, List.take_length] at hb
      walk_at "x"
      refine ⟨by rw [List.length_map, sizeLine_eq]; omega, ?_⟩
      refine hkn _ _ ⟨rfl, _, _, _, fs ++ [b], by rw [List.map_append]; rfl, by rw [List.length_append, hfl]; rfl, ?_⟩
      intro k g hk
      by_cases hkj : k < fs.length
      · rw [List.getElem?_append_left hkj] at hk
        exact hfs k g hk
      · rw [List.getElem?_append_right (by omega)] at hk
        have hk0 : k - fs.length = 0 := by
          obtain ⟨h1, _⟩ := List.getElem?_eq_some_iff.mp hk
          simp at h1
          omega
        rw [hk0] at hk
        cases hk
        have : k = j + 1 := by omega
        subst this
        refine ⟨hb.1, fun s => (hb.2 s).trans ?_⟩
        rw [lot_lvl]
        constructor
        · rintro ⟨x, hx, rfl⟩
          have := (hL x).mp hx
          exact ⟨x, this.1, this.2, rfl⟩
        · rintro ⟨x, h1, h2, rfl⟩
          exact ⟨x, (hL x).mpr ⟨h1, h2⟩, rfl⟩
  · rintro env τ' ⟨rfl, x4, x5, x6, fs, rfl, hfl, hfs⟩
    walk_at "x"
    rw [rgI_len] at hfl
    exact h fs (by omega) hfs
theorem ok__law_next {f : Addr} {fd : FuncData} (T : Txt K mg ca) (F : Fun K "_law_next" "_law_next" s__law_next f fd) (k__law_mixed : Known P w K mg base (theS ((Ts ca).map (·.1))) "_law_mixed" ["_law_cell", "_law_k"] 1 FF__law_mixed) :
    FnOk P w K mg base CX0 2 f fd ["_law_draw", "_law_below"] (spD (theS ((Ts ca).map (·.1))) K FF__law_next) := by
  obtain ⟨fM, fdM, GM, gM, kM, bM⟩ := k__law_mixed.ex
  refine F.ok sc__law_next (fun vs H Q E h => ?_) (fun cdv A outer s H vs Q E hr h => ?_)
  · obtain ⟨G, Fp, τ, rs, Qd, Ha, k, r, dr, ⟨a, b, n, e, ht, hn, q⟩, fin⟩ := h
    subst e
    obtain ⟨v, w', e1, _, _⟩ := r.two
    subst e1
    rfl
  · obtain ⟨G, Fp, τ, rs, Qd, Ha, k, r, dr, ⟨a, b, n, e, ht, hn, q⟩, fin⟩ := h
    subst e ht
    obtain ⟨v, w', e1, rv, rw'⟩ := r.two
    have rv : v = .ref a := rv
    have rw' := rint rw'
    subst e1 rv rw'
    have hu := hu_of hr
    obtain ⟨hF, c, cs, i, l, u, hd, hc, hne, h0⟩ := id k.r
    have hcH : SqP K H c (cs.map V.int) := same_sqp k.same hc
    refine ⟨_, pss_cons (ps_if (pt_cmpR op_gt (pe_dget hu (pv 0) pe_str (fun _ _ => rfl)) pe_int (nomark _))
        (pss_cons (ps_set (i := 2) sc__law_next.nd rfl (.inl rfl) (pe_op op_mod (pe_dget hu (pv 0) pe_str (fun _ _ => rfl)) (pv 1)))
        (pss_cons (ps_dput hu (pv 0) pe_str (pe_op op_fdiv (pe_dget hu (pv 0) pe_str (fun _ _ => rfl)) (pv 1)) rfl)
        (pss_one (ps_ret (pv 2))))) pss_nil)
      (pss_cons (ps_set (i := 3) sc__law_next.nd rfl (.inl rfl) (pe_dget hu (pv 0) pe_str (fun _ _ => rfl)))
      (pss_cons (ps_set (i := 4) sc__law_next.nd rfl (.inl rfl) (pe_ix ix_list (pv 3) (pe_op op_mod (pe_dget hu (pv 0) pe_str (fun _ _ => rfl)) (pe_callB call_len_seq (by rfl) T.b_len PySem.boot_len (pa_cons (pv 3) pa_nil))) (fun _ _ => rfl)))
      (pss_cons (ps_dput hu (pv 0) pe_str (pe_op op_add (pe_dget hu (pv 0) pe_str (fun _ _ => rfl)) pe_int) rfl)
      (pss_cons (ps_if (PW.pt (pw_and (pt_cmpR op_ge (pv 4) (pe_op op_pow pe_int pe_int) (nomark _)) (pw_and1 (pt_cmpR op_le (pe_dget hu (pv 0) pe_str (fun _ _ => rfl)) (pe_callB call_len_seq (by rfl) T.b_len PySem.boot_len (pa_cons (pv 3) pa_nil)) (nomark _)))))
        (pss_cons (ps_dput hu (pv 0) pe_str (pe_op op_fdiv (pv 4) (pv 1)) rfl) (pss_one (ps_ret (pe_op op_mod (pv 4) (pv 1))))) pss_nil)
      (pss_cons (ps_dput hu (pv 0) pe_str (pe_op op_add (pe_dget hu (pv 0) pe_str (fun _ _ => rfl)) pe_int) rfl)
      (pss_one (ps_ret (pe_op op_mod (pe_call GM hr (by rfl) gM kM bM .nil pass0 (pa_cons (pe_call GM hr (by rfl) gM kM bM .nil pass0 (pa_cons (pv 4) (pa_cons (pe_dget hu (pv 0) pe_str (fun _ _ => rfl)) pa_nil)))
        (pa_cons (pe_dget hu (pv 0) pe_str (fun _ _ => rfl)) pa_nil))) (pv 1))))))))), ?_⟩
    have gL : DGet H a (.str "left") (some (.int l)) := by
      have z := DGet.k (k := Sum.inr ("left" : Str)) hd
      rw [dr_left] at z
      exact z
    have gA : DGet H a (.str "at") (some (.int i)) := by
      have z := DGet.k (k := Sum.inr ("at" : Str)) hd
      rw [dr_at] at z
      exact z
    have gC : DGet H a (.str "cells") (some (.ref c)) := by
      have z := DGet.k (k := Sum.inr ("cells" : Str)) hd
      rw [dr_cells] at z
      exact z
    have put : ∀ {H' : Hp} {i l u : Int} (x : Str) (z : Int) (K' : List (Key × V)), H' a = some (.dK (drK c i l u)) → putK (drK c i l u) (Sum.inr x) (.int z) = K' → DPut H' a (.str x) (.int z) (upd H' a (.dK K')) := fun {H' i l u} x z K' e ek => by
      have y := DPut.k (k := Sum.inr x) (v := .int z) e (by rw [dr_len]; decide)
      rw [ek] at y
      exact y
    -- if left > 0
    refine ⟨_, rfl, a, _, rfl, gL, _, _, rfl, rfl, _, rfl, ite2 (fun _ => ?_) (fun _ => ?_)⟩
    · refine ⟨_, rfl, a, _, rfl, gL, _, rfl, _, _, rfl, rfl, hn.1, ?_⟩
      refine ⟨_, rfl, a, _, rfl, gL, _, rfl, _, _, rfl, rfl, hn, _, rfl, a, _, rfl, put "left" _ _ hd dr_pleft, _, rfl, ?_⟩
      obtain ⟨k2, st2⟩ := dr_ok (b' := b) (i' := i) (l' := l / n) (u' := u) k hc hne (by omega)
      exact fin (.d (.int (l % n))) (.on a b) G Fp _ _ st2 k2 (Rp.int _) (q _ (Int.emod_nonneg _ (by omega)) (Int.emod_lt_of_pos _ hn.1))
    -- cells; the cell at hand
    refine ⟨_, rfl, a, _, rfl, gC, ?_⟩
    have hlen : 0 < cs.length := List.length_pos_iff.mpr hne
    have hix : (i % (cs.length : Int)).toNat < cs.length := by
      have h1 := Int.emod_nonneg i (show (cs.length : Int) ≠ 0 by omega)
      have h2 := Int.emod_lt_of_pos i (show (0 : Int) < cs.length by omega)
      omega
    have hat : atI (cs.map V.int) (i % (cs.length : Int)) = some (.int cs[(i % (cs.length : Int)).toNat]) := by
      have e : i % (cs.length : Int) = ((i % (cs.length : Int)).toNat : Int) := (Int.toNat_of_nonneg (Int.emod_nonneg i (by omega))).symm
      exact at_of e (by rw [List.getElem?_map, List.getElem?_eq_getElem hix]; rfl)
    refine ⟨_, rfl, _, rfl, a, _, rfl, gA, _, rfl, c, _, rfl, .inl hcH.sql, i, (((cs.map V.int).length : Nat) : Int), rfl, rfl, by rw [List.length_map]; show (0 : Int) < cs.length; omega, c, cs.map V.int, _, _, rfl, rfl, hcH.sql, by rw [List.length_map]; exact hat, ?_⟩
    -- at + 1
    refine ⟨_, rfl, a, _, rfl, gA, _, _, rfl, rfl, _, rfl, a, _, rfl, put "at" _ _ hd dr_pat, ?_⟩
    obtain ⟨k2, st2⟩ := dr_ok (b' := b) (i' := i + 1) (l' := l) (u' := u) k hc hne (by omega)
    generalize cs[(i % (cs.length : Int)).toNat] = cell
    have hcH2 : SqP K (upd H a (.dK (drK c (i + 1) l u))) c (cs.map V.int) := same_sqp k2.same hc
    have gA2 : DGet (upd H a (.dK (drK c (i + 1) l u))) a (.str "at") (some (.int (i + 1))) := by
      have z := DGet.k (k := Sum.inr ("at" : Str)) (show (upd H a (.dK (drK c (i + 1) l u))) a = _ from upd_same)
      rw [dr_at] at z
      exact z
    have gU2 : DGet (upd H a (.dK (drK c (i + 1) l u))) a (.str "used") (some (.int u)) := by
      have z := DGet.k (k := Sum.inr ("used" : Str)) (show (upd H a (.dK (drK c (i + 1) l u))) a = _ from upd_same)
      rw [dr_used] at z
      exact z
    have lastR : ∀ (D : Ends) (σ0 : L2.St), σ0[0]? = some (some (.ref a)) → σ0[1]? = some (some (.int n)) → σ0[4]? = some (some (.int cell)) → (∀ v H', Q v H' → D.rt v H') → tSeq (sDPut (tVar 0) (tC (.str "used")) (tOp (rI0 fun i j => .int (i + j)) (tDGet (tVar 0) (tC (.str "used"))) (tC (.int 1))))
        (tRet (tOp (rI (fun _ j => 0 < j) fun i j => .int (i % j)) (tCall (spD (theS ((Ts ca).map (·.1))) K FF__law_mixed) [] E0 (tCons (tCall (spD (theS ((Ts ca).map (·.1))) K FF__law_mixed) [] E0 (tCons (tVar 4) (tCons (tDGet (tVar 0) (tC (.str "at"))) tNil))) (tCons (tDGet (tVar 0) (tC (.str "used"))) tNil))) (tVar 1))) D
        σ0 (upd H a (.dK (drK c (i + 1) l u))) := fun D σ0 z0 z1 z4 hD => by
      refine ⟨_, z0, a, _, rfl, gU2, _, _, rfl, rfl, _, z0, a, _, rfl, put "used" _ _ upd_same dr_pused, ?_⟩
      rw [upd_upd]
      obtain ⟨k3, st3⟩ := dr_ok (b' := b) (i' := i + 1) (l' := l) (u' := u + 1) k hc hne (by omega)
      have gA3 : DGet (upd H a (.dK (drK c (i + 1) l (u + 1)))) a (.str "at") (some (.int (i + 1))) := by
        have z := DGet.k (k := Sum.inr ("at" : Str)) (show (upd H a (.dK (drK c (i + 1) l (u + 1)))) a = _ from upd_same)
        rw [dr_at] at z
        exact z
      have fa : Fp a := (hF a).mpr rfl
      refine ⟨_, z4, _, z0, a, _, rfl, gA3, G, Fp, .on a b, [.d (.int cell), .d (.int (i + 1))], fun r τ => (∃ m : Int, 0 ≤ m ∧ r = .d (.int m)) ∧ τ = .on a b, H, k3, .cons (Rp.int _) (.cons (Rp.int _) .nil), rfl, ⟨cell, i + 1, rfl, by omega, fun m hm => ⟨⟨m, hm, rfl⟩, rfl⟩⟩, fun r1 τ4 G4 F4 H4 v4 st4 ok4 res4 q4 => ?_⟩
      obtain ⟨⟨m, hm, e1⟩, e2⟩ := q4
      subst e1 e2
      have e3 := rint res4
      subst e3
      obtain ⟨hF4, c4, cs4, i4, l4, u4, hd4, hc4, hne4, h4⟩ := id ok4.r
      have gU4 : DGet H4 a (.str "used") (some (.int u4)) := by
        have z := DGet.k (k := Sum.inr ("used" : Str)) hd4
        rw [dr_used] at z
        exact z
      refine ⟨_, z0, a, _, rfl, gU4, G4, F4, .on a b, [.d (.int m), .d (.int u4)], fun r τ => (∃ m : Int, 0 ≤ m ∧ r = .d (.int m)) ∧ τ = .on a b, H4, ok4, .cons (Rp.int _) (.cons (Rp.int _) .nil), rfl, ⟨m, u4, rfl, by omega, fun m hm => ⟨⟨m, hm, rfl⟩, rfl⟩⟩, fun r1 τ5 G5 F5 H5 v5 st5 ok5 res5 q5 => ?_⟩
      obtain ⟨⟨m5, hm5, e1⟩, e2⟩ := q5
      subst e1 e2
      have e3 := rint res5
      subst e3
      refine ⟨_, z1, _, _, rfl, rfl, hn.1, hD _ _ ?_⟩
      exact fin (.d (.int (m5 % n))) (.on a b) G5 F5 H5 _ (st3.trans (st4.trans st5)) ok5 (Rp.int _) (q _ (Int.emod_nonneg _ (by omega)) (Int.emod_lt_of_pos _ hn.1))
    refine ⟨_, rfl, _, _, rfl, rfl, (by refine ⟨by decide, by decide, by decide⟩), _, _, rfl, rfl, _, rfl, ite2 (fun _ => ?_) (fun _ => ?_)⟩
    · refine ⟨_, rfl, a, _, rfl, gA2, _, rfl, c, _, rfl, .inl hcH2.sql, _, _, rfl, rfl, _, rfl, ite2 (fun _ => ?_) (fun _ => ?_)⟩
      · refine ⟨_, rfl, _, rfl, _, _, rfl, rfl, hn, _, rfl, a, _, rfl, put "left" _ _ upd_same dr_pleft, _, rfl, _, rfl, _, _, rfl, rfl, hn.1, ?_⟩
        rw [upd_upd]
        obtain ⟨k3, st3⟩ := dr_ok (b' := b) (i' := i + 1) (l' := cell / n) (u' := u) k hc hne (by omega)
        exact fin (.d (.int (cell % n))) (.on a b) G Fp _ _ st3 k3 (Rp.int _) (q _ (Int.emod_nonneg _ (by omega)) (Int.emod_lt_of_pos _ hn.1))
      · exact lastR _ _ rfl rfl rfl fun _ _ h => h
    · exact iteF (lastR _ _ rfl rfl rfl fun _ _ h => h)
theorem ok_all_sums {f : Addr} {fd : FuncData} (T : Txt K mg ca) (F : Fun K "all_sums" "all_sums" s_all_sums f fd) (k_level_sums : Known P w K mg base (theT (Ts ca)) "level_sums" ["numbers", "most", "is_unlike"] 2 (FF_level_sums)) (k_window : Known P w K mg base (theT (Ts ca)) "window" ["least", "most"] 1 (FF_window)) (k_moved : Known P w K mg base (theT (Ts ca)) "moved" ["bits", "number"] 1 (FF_moved)) :
    FnOk P w K mg base CX0 3 f fd ["numbers", "most", "is_level", "is_unlike"] (spD (theT (Ts ca)) K (FF_all_sums)) := by
  refine okP F sc_all_sums (by walk_at "v") (by decide) fun cdv A outer s H E G Fp hr => ⟨_, (dss_cons (ds_if (dt_tru rfl (de_var (pv 2)))
        (dss_one (ds_ret (de_callK rfl k_level_sums (hr.mono (by decide)) (by rfl) (da_cons (de_var (pv 0)) (da_cons (de_var (pv 1)) (da_cons (de_var (pv 3)) da_nil))))))
        dss_nil)
      (dss_cons (ds_set (i := 4) sc_all_sums.nd rfl (by first | exact .inl rfl | exact .inr rfl) (de_op op_addA (od_add rfl) (de_lst (da_cons (de_callK rfl k_window (hr.mono (by decide)) (by rfl) (da_cons de_int (da_cons de_int da_nil))) da_nil)) (de_op op_mulB (od_mulB rfl) (de_lst (da_cons de_int da_nil)) (de_var (pv 1)))))
      (dss_cons (ds_if (dt_tru rfl (de_var (pv 3)))
        (dss_cons (ds_for PassesOwn.never rfl (di_seq rfl (de_var (pv 0))) (dg_nm (i := 5) sc_all_sums.nd rfl (by first | exact .inl rfl | exact .inr rfl))
          (dss_one (ds_for PassesOwn.never rfl (di_range3 (by rfl) T.b_range (da_cons (de_var (pv 1)) (da_cons de_int (da_cons (de_neg de_int) da_nil)))) (dg_nm (i := 6) sc_all_sums.nd rfl (by first | exact .inl rfl | exact .inr rfl))
            (dss_one (ds_seti (i := 4) (ps_asg (de_op op_or od_I0 (de_ix ix_A (od_ix rfl) (de_var (pv 4)) (de_var (pv 6)) (fun _ _ => rfl)) (de_callK rfl k_moved (hr.mono (by decide)) (by rfl) (da_cons (de_ix ix_A (od_ix rfl) (de_var (pv 4)) (de_op op_sub od_I0 (de_var (pv 6)) de_int) (fun _ _ => rfl)) (da_cons (de_var (pv 5)) da_nil)))) (pg_sub (pv 4) (de_var (pv 6)) set_list)))))))
        (dss_one (ds_retR (dr_own (pv 4)))))
        dss_nil)
      (dss_cons (ds_for PassesOwn.never rfl (di_range2 (by rfl) T.b_range (da_cons de_int (da_cons (de_op op_addA (od_add rfl) (de_var (pv 1)) de_int) da_nil))) (dg_nm (i := 6) sc_all_sums.nd rfl (by first | exact .inl rfl | exact .inr rfl))
        (dss_one (ds_for PassesOwn.never rfl (di_seq rfl (de_var (pv 0))) (dg_nm (i := 5) sc_all_sums.nd rfl (by first | exact .inl rfl | exact .inr rfl))
          (dss_one (ds_seti (i := 4) (ps_asg (de_op op_or od_I0 (de_ix ix_A (od_ix rfl) (de_var (pv 4)) (de_var (pv 6)) (fun _ _ => rfl)) (de_callK rfl k_moved (hr.mono (by decide)) (by rfl) (da_cons (de_ix ix_A (od_ix rfl) (de_var (pv 4)) (de_op op_sub od_I0 (de_var (pv 6)) de_int) (fun _ _ => rfl)) (da_cons (de_var (pv 5)) da_nil)))) (pg_sub (pv 4) (de_var (pv 6)) set_list)))))))
      (dss_one (ds_retR (dr_own (pv 4)))))))), ?_⟩
  dsimp only [Bk.T, theT]
  rintro rs τ Q ⟨ns, m, lvl, unl, rfl, hr, hn, hl, hm, h⟩
  walk_at "x"
  cases lvl with
  | true =>
    walk_at "x"
    exact ⟨ns, m, unl, rfl, hr, hl, hm, fun fs h1 h2 => by walk_at "x"; exact h fs h1 h2⟩
  | false =>
    walk_at "x"
    refine ⟨_, _, rfl, fun f hf => ?_⟩
    have hf0 : ∀ (ns : List Int) (unl : Bool), BitsOf f (Lot ns false unl 0) := fun ns unl => ⟨hf.1, fun s => (hf.2 s).trans (by rw [lot_zero]; omega)⟩
    walk_at "x"
    refine gMulA_ol ⟨⟨by omega, by omega⟩, by rw [sizeLine_eq, List.length_singleton]; omega, ?_⟩
    rw [Int.toNat_natCast, zeros_map]
    walk_at "x"
    refine ⟨by rw [List.length_map, List.length_replicate, sizeLine_eq]; omega, ?_⟩
    obtain ⟨fs0, e0, hl0, h00⟩ : ∃ fs0 : List Int, PyData.int f :: (List.replicate m (0 : Int)).map PyData.int = fs0.map .int ∧ fs0.length = m + 1 ∧ (∀ (k : Nat) (g : Int), fs0[k]? = some g → (k = 0 ∧ g = f) ∨ (0 < k ∧ g = 0)) := by
      refine ⟨f :: List.replicate m 0, rfl, by simp, fun k g hk => ?_⟩
      cases k with
      | zero => cases hk; exact .inl ⟨rfl, rfl⟩
      | succ k =>
        rw [List.getElem?_cons_succ] at hk
        exact .inr ⟨by omega, (List.mem_replicate.mp (List.mem_of_getElem? hk)).2⟩
    rw [e0]
    have zeroN : ∀ (P : Int → Prop), (∀ s, ¬ P s) → BitsOf 0 P := fun P hP => ⟨Int.le_refl _, fun s => ⟨fun z => by have := z.2.2; simp at this, fun z => (hP s z).elim⟩⟩
    cases unl with
    | true =>
      simp only [tI]
      walk_at "x"
      refine for_inv (fun i env τ' => τ' = τ ∧ ∃ x5 x6, ∃ fs : List Int, env = [.d (.tuple (ns.map .int)), .d (.int m), .d (.bool false), .d (.bool true), .ol (fs.map .int), x5, x6] ∧ fs.length = m + 1 ∧ SumsOk (ns.take i) false true fs) _ _ _ ⟨rfl, _, _, _, rfl, hl0, ?_⟩ ?_ ?_
      · intro k g hk
        rcases h00 k g hk with ⟨rfl, rfl⟩ | ⟨h1, rfl⟩
        · exact hf0 _ _
        · refine zeroN _ fun s => ?_
          rintro ⟨l, ⟨h1, _, _⟩, h2, _⟩
          cases l with
          | nil => simp at h2; omega
          | cons a l => have := h1 a List.mem_cons_self; simp at this
      · rintro i y env τ' ei ⟨rfl, x5, x6, fs, rfl, hfl, hfs⟩ kn hkn
        rw [List.getElem?_map] at ei
        cases en : ns[i]? with
        | none => rw [en] at ei; cases ei
        | some x =>
          rw [en] at ei
          cases ei
          have hxr := hr x (List.mem_of_getElem? en)
          have hxt : x ∉ ns.take i := by
            intro hx
            obtain ⟨hi, e2⟩ := List.getElem?_eq_some_iff.mp en
            have e3 : ns.drop i = x :: ns.drop (i + 1) := by rw [← e2]; exact List.drop_eq_getElem_cons hi
            have e4 := hn
            rw [← List.take_append_drop i ns, e3, List.nodup_append] at e4
            exact e4.2.2 x hx x List.mem_cons_self rfl
          have htk : ns.take (i + 1) = ns.take i ++ [x] := by rw [List.take_add_one, en]; rfl
          have hrt : inR (ns.take i) := fun y hy => hr y (List.mem_of_mem_take hy)
          walk_at "x"
          refine kR3_of (RgC.neg (by omega) (by omega) (by omega) (by omega)) ?_
          refine for_inv (fun k env τ3 => τ3 = τ' ∧ ∃ x6, ∃ fs : List Int, env = [.d (.tuple (ns.map .int)), .d (.int m), .d (.bool false), .d (.bool true), .ol (fs.map .int), .d (.int x), x6] ∧ fs.length = m + 1 ∧ ∀ (j : Nat) (g : Int), fs[j]? = some g → BitsOf g (Lot (if m < j + k then ns.take (i + 1) else ns.take i) false true j)) _ _ _ ⟨rfl, _, fs, rfl, hfl, fun j g hj => ?_⟩ ?_ ?_
          · have : j < fs.length := (List.getElem?_eq_some_iff.mp hj).1
            rw [if_neg (by omega)]
            exact hfs j g hj
          · rintro k y env τ3 ek ⟨rfl, x6, fs, rfl, hfl, hfs⟩ kn2 hkn2
            obtain ⟨hk, rfl⟩ := rgC_get ek
            have hk : k < m := by omega
            obtain ⟨j, ej⟩ : ∃ j : Nat, (m : Int) + (k : Int) * (-1) = ((j + 1 : Nat) : Int) := ⟨m - k - 1, by omega⟩
            have hjm : j + 1 + k = m := by omega
            rw [ej]
            obtain ⟨g1, eg1⟩ : ∃ g, fs[j + 1]? = some g := ⟨_, List.getElem?_eq_getElem (by omega)⟩
            obtain ⟨g0, eg0⟩ : ∃ g, fs[j]? = some g := ⟨_, List.getElem?_eq_getElem (by omega)⟩
            have b1 := hfs _ _ eg1
            have b0 := hfs _ _ eg0
            rw [if_neg (by omega)] at b1 b0
            walk_at "x"
            refine kAt_of (by omega) (by rw [List.length_map]; omega) fun z ez _ => ?_
            rw [Int.toNat_natCast, List.getElem?_map, eg1] at ez
            cases ez
            walk_at "x"
            rw [show ((j + 1 : Nat) : Int) - 1 = (j : Int) by omega]
            refine kAt_of (by omega) (by rw [List.length_map]; omega) fun z ez _ => ?_
            rw [Int.toNat_natCast, List.getElem?_map, eg0] at ez
            cases ez
            walk_at "x"
            refine ⟨g0, x, rfl, b0.1, fun s hs => ?_, by omega, fun f2 hf2 => ?_⟩
            · have := lot_bound hrt ((b0.2 s).mp hs)
              omega
            walk_at "x"
            rw [ixN_at (by rw [List.length_map]; omega)]
            walk_at "x"
            rw [← List.map_set]
            refine hkn2 _ _ ⟨rfl, _, _, rfl, by rw [List.length_set]; exact hfl, fun q g hq => ?_⟩
            rw [List.getElem?_set] at hq
            by_cases eq : j + 1 = q
            · subst eq
              rw [if_pos rfl, if_pos (by omega)] at hq
              cases hq
              rw [if_pos (by omega), htk]
              refine ⟨bitOr_nn0 b1.1 hf2.1, fun s => ?_⟩
              rw [or_has b1.1 hf2.1, b1.2, hf2.2, lot_unl hxt]
              dsimp only
              rw [b0.2]
              refine or_congr Iff.rfl ⟨fun z => z.2, fun z => ⟨?_, z⟩⟩
              have := lot_bound hrt z
              omega
            · rw [if_neg eq] at hq
              have := hfs q g hq
              by_cases e5 : m < q + k
              · rw [if_pos e5] at this
                rw [if_pos (by omega)]
                exact this
              · rw [if_neg e5] at this
                rw [if_neg (by omega)]
                exact this
          · rintro env τ3 ⟨rfl, x6, fs, rfl, hfl, hfs⟩
            rw [rgC_len] at hfs
            refine hkn _ _ ⟨rfl, _, _, fs, rfl, hfl, fun j g hj => ?_⟩
            have := hfs j g hj
            by_cases hj0 : j = 0
            · subst hj0
              refine ⟨this.1, fun s => (this.2 s).trans ?_⟩
              rw [lot_zero, lot_zero]
            · rw [if_pos (by omega)] at this
              exact this
      · rintro env τ' ⟨rfl, x5, x6, fs, rfl, hfl, hfs⟩
        rw [List.length_map, List.take_length] at hfs
        walk_at "x"
        exact h fs hfl hfs
    | false =>
      walk_at "x"
      refine ⟨⟨by omega, by omega, by omega, by omega⟩, ?_⟩
      refine for_inv (fun j env τ' => τ' = τ ∧ ∃ x5 x6, ∃ fs : List Int, env = [.d (tI ns), .d (.int m), .d (.bool false), .d (.bool false), .ol (fs.map .int), x5, x6] ∧ fs.length = m + 1 ∧ ∀ (q : Nat) (g : Int), fs[q]? = some g → if q ≤ j then BitsOf g (Lot ns false false q) else g = 0) _ _ _ ⟨rfl, _, _, fs0, rfl, hl0, fun q g hq => ?_⟩ ?_ ?_
      · rcases h00 q g hq with ⟨rfl, rfl⟩ | ⟨h1, rfl⟩
        · rw [if_pos (Nat.le_refl _)]
          exact hf0 _ _
        · rw [if_neg (by omega)]
      · rintro j y env τ' ej ⟨rfl, x5, x6, fs, rfl, hfl, hfs⟩ kn hkn
        obtain ⟨hj, rfl⟩ := rgI_get ej
        have hj : j < m := by omega
        obtain ⟨g0, eg0⟩ : ∃ g, fs[j]? = some g := ⟨_, List.getElem?_eq_getElem (by omega)⟩
        have b0 := hfs _ _ eg0
        rw [if_pos (Nat.le_refl _)] at b0
        rw [show (1 : Int) + (j : Nat) = ((j + 1 : Nat) : Int) by omega]
        simp only [tI]
        walk_at "x"
        refine for_inv (fun i env τ3 => τ3 = τ' ∧ ∃ x5, ∃ fs : List Int, env = [.d (tI ns), .d (.int m), .d (.bool false), .d (.bool false), .ol (fs.map .int), x5, .d (.int (j + 1 : Nat))] ∧ fs.length = m + 1 ∧ fs[j]? = some g0 ∧
          ∀ (q : Nat) (g : Int), fs[q]? = some g → if q ≤ j then BitsOf g (Lot ns false false q) else if q = j + 1 then BitsOf g (fun s => ∃ x ∈ ns.take i, Lot ns false false j (s - x)) else g = 0) _ _ _ ⟨rfl, _, fs, rfl, hfl, eg0, fun q g hq => ?_⟩ ?_ ?_
        · have := hfs q g hq
          by_cases e5 : q ≤ j
          · rw [if_pos e5] at this ⊢
            exact this
          · rw [if_neg e5] at this ⊢
            subst this
            by_cases e6 : q = j + 1
            · rw [if_pos e6]
              exact zeroN _ fun s => by simp
            · rw [if_neg e6]
        · rintro i y env τ3 ei ⟨rfl, x5, fs, rfl, hfl, eg0, hfs⟩ kn2 hkn2
          rw [List.getElem?_map] at ei
          cases en : ns[i]? with
          | none => rw [en] at ei; cases ei
          | some x =>
            rw [en] at ei
            cases ei
            have hxr := hr x (List.mem_of_getElem? en)
            obtain ⟨g1, eg1⟩ : ∃ g, fs[j + 1]? = some g := ⟨_, List.getElem?_eq_getElem (by omega)⟩
            have b1 := hfs _ _ eg1
            rw [if_neg (by omega), if_pos rfl] at b1
            walk_at "x"
            refine kAt_of (by omega) (by rw [List.length_map]; omega) fun z ez _ => ?_
            rw [Int.toNat_natCast, List.getElem?_map, eg1] at ez
            cases ez
            walk_at "x"
            rw [show ((j + 1 : Nat) : Int) - 1 = (j : Int) by omega]
            refine kAt_of (by omega) (by rw [List.length_map]; omega) fun z ez _ => ?_
            rw [Int.toNat_natCast, List.getElem?_map, eg0] at ez
            cases ez
            walk_at "x"
            refine ⟨g0, x, rfl, b0.1, fun s hs => ?_, by omega, fun f2 hf2 => ?_⟩
            · have := lot_bound hr ((b0.2 s).mp hs)
              omega
            walk_at "x"
            rw [ixN_at (by rw [List.length_map]; omega)]
            walk_at "x"
            rw [← List.map_set]
            refine hkn2 _ _ ⟨rfl, _, _, rfl, by rw [List.length_set]; exact hfl, by rw [List.getElem?_set, if_neg (by omega)]; exact eg0, fun q g hq => ?_⟩
            rw [List.getElem?_set] at hq
            by_cases eq : j + 1 = q
            · subst eq
              rw [if_pos rfl, if_pos (by omega)] at hq
              cases hq
              rw [if_neg (by omega), if_pos rfl]
              refine ⟨bitOr_nn0 b1.1 hf2.1, fun s => ?_⟩
              rw [or_has b1.1 hf2.1, b1.2, hf2.2]
              dsimp only
              rw [b0.2, List.take_add_one, en]
              constructor
              · rintro (⟨y, hy, z⟩ | ⟨_, z⟩)
                · exact ⟨y, List.mem_append_left _ hy, z⟩
                · exact ⟨x, by simp, z⟩
              · rintro ⟨y, hy, z⟩
                rcases List.mem_append.mp hy with hy | hy
                · exact .inl ⟨y, hy, z⟩
                · simp only [Option.toList_some, List.mem_singleton] at hy
                  subst hy
                  have := lot_bound hr z
                  exact .inr ⟨by omega, z⟩
            · rw [if_neg eq] at hq
              have := hfs q g hq
              by_cases e5 : q ≤ j
              · rw [if_pos e5] at this ⊢
                exact this
              · rw [if_neg e5, if_neg (Ne.symm eq)] at this ⊢
                exact this
        · rintro env τ3 ⟨rfl, x5, fs, rfl, hfl, eg0, hfs⟩
          rw [List.length_map, List.take_length] at hfs
          refine hkn _ _ ⟨rfl, _, _, fs, rfl, hfl, fun q g hq => ?_⟩
          have := hfs q g hq
          by_cases e5 : q ≤ j
          · rw [if_pos e5] at this
            rw [if_pos (by omega)]
            exact this
          · rw [if_neg e5] at this
            by_cases e6 : q = j + 1
            · rw [if_pos e6] at this
              rw [if_pos (by omega), e6]
              exact ⟨this.1, fun s => (this.2 s).trans lot_rep.symm⟩
            · rw [if_neg e6] at this
              rw [if_neg (by omega)]
              exact this
      · rintro env τ' ⟨rfl, x5, x6, fs, rfl, hfl, hfs⟩
        rw [rgI_len] at hfs
        walk_at "x"
        refine h fs hfl fun q g hq => ?_
        have hq2 : q < fs.length := (List.getElem?_eq_some_iff.mp hq).1
        have := hfs q g hq
        rw [if_pos (by omega)] at this
        exact this
theorem ok__law_numbers {f : Addr} {fd : FuncData} (T : Txt K mg ca) (F : Fun K "_law_numbers" "_law_numbers" s__law_numbers f fd) (k__law_next : Known P w K mg base (theT (Ts ca)) "_law_next" ["_law_draw", "_law_below"] 2 (FF_next)) :
    FnG P w K mg base 3 f fd ["_law_draw"] (spD (theT (Ts ca)) K (FF__law_numbers)) := by
  refine FnG.dropG ?_
  refine okG F sc__law_numbers (by walk_at "w") (by decide) fun cdv A outer s H E G Fp hcd hr => ⟨_, (dss_cons (ds_if (dt_cmp (op_eqA hr.units) (od_eq rfl) (de_callK rfl k__law_next (hr.r.mono (by decide)) (by rfl) (da_cons (de_var (pv 0)) (da_cons de_int da_nil))) de_int (nomark _))
        (dss_cons (ds_set (i := 1) sc__law_numbers.nd rfl (by first | exact .inl rfl | exact .inr rfl) (de_op op_sub od_I0 (de_callK rfl k__law_next (hr.r.mono (by decide)) (by rfl) (da_cons (de_var (pv 0)) (da_cons de_int da_nil))) de_int))
        (dss_one (ds_ret (de_tupRg (by rfl) T.b_tuple (by rfl) T.b_range (de_var (pv 1)) (de_callB (call_min2 rfl) cd_II (by rfl) T.b_min (by decide +kernel) (da_cons de_int (da_cons (de_op op_addA (od_add rfl) (de_var (pv 1)) (de_callK rfl k__law_next (hr.r.mono (by decide)) (by rfl) (da_cons (de_var (pv 0)) (da_cons de_int da_nil)))) da_nil)))))))
        dss_nil)
      (dss_cons (ds_set (i := 2) sc__law_numbers.nd rfl (by first | exact .inl rfl | exact .inr rfl) de_newD)
      (dss_cons (ds_for PassesOwn.never rfl (di_range1 (by rfl) T.b_range (da_cons (de_callK rfl k__law_next (hr.r.mono (by decide)) (by rfl) (da_cons (de_var (pv 0)) (da_cons de_int da_nil))) da_nil)) (dg_nm (i := 3) sc__law_numbers.nd rfl (by first | exact .inl rfl | exact .inr rfl))
        (dss_one (ds_putN (u1 hr.un) (pv 2) (de_op op_sub od_I0 (de_callK rfl k__law_next (hr.r.mono (by decide)) (by rfl) (da_cons (de_var (pv 0)) (da_cons de_int da_nil))) de_int) de_bl)))
      (dss_one (ds_ret (de_callTy call_tuple_of (cd_tuple rfl) (by rfl) T.b_tuple (by decide +kernel) (da_cons (de_srtD (pv 2) (by rfl) T.b_sorted) da_nil))))))), ?_⟩
  dsimp only [Bk.T, theT]
  rintro rs τ Q2 ⟨Q, ⟨a, b, cs, rfl, rfl, hb, q⟩, rfl⟩
  walk_at "Y"
  refine nextT (by omega) (by omega) (by omega) fun r1 r10 r11 => ?_
  walk_at "Y"
  by_cases e : r1 = 0
  · subst e
    walk_at "Y"
    refine nextT (by omega) (by omega) (by omega) fun r2 r20 r21 => ?_
    walk_at "Y"
    refine nextT (by omega) (by omega) (by omega) fun r3 r30 r31 => ?_
    walk_at "Y"
    generalize hJ : (if r2 - 20 + r3 < 21 then r2 - 20 + r3 else 21) = J
    have hJ1 : J ≤ 21 ∧ J ≤ r2 - 20 + r3 ∧ -100 ≤ J := by rw [← hJ]; split <;> omega
    refine ⟨by unfold RgOk; omega, ⟨_, _, _, rfl, rfl⟩, ⟨[], rfl⟩, ?_⟩
    rw [show (J - (r2 - 20)).toNat = ((J - 1) + 1 - (r2 - 20)).toNat by omega, rgI_span]
    exact q (span (r2 - 20) (J - 1)) _ (by omega) (span_inR (by omega) (by omega)) ((span_lt _ _).imp fun h => Int.ne_of_lt h) (by rw [span_len]; omega)
  · rw [decide_eq_false e]
    walk_at "Y"
    intro p hp
    walk_at "Y"
    refine nextT (by omega) (by omega) (by omega) fun r2 r20 r21 => ?_
    walk_at "Y"
    refine ⟨by omega, ?_⟩
    refine for_inv (fun j env τ' => ∃ (m : List (Key × Z.D)) (ks : List Int) (x3 : SV), τ' = ⟨.on a (b - 1 - 1 - j), (p, .dk m) :: cs⟩ ∧ env = [.raw (.ref a), .no, .raw (.ref p), x3] ∧ m.map (·.1) = ks.map Sum.inl ∧ ks.Nodup ∧ inR ks ∧ ks.length ≤ j) _ _ _
      ⟨[], [], _, rfl, rfl, rfl, List.nodup_nil, (fun x hx => nomatch hx), Nat.le_refl _⟩ ?_ ?_
    · rintro j x env τ' hj ⟨m, ks, x3, rfl, rfl, hk, hkn, hkr, hkl⟩ kn hkn'
      obtain ⟨hj2, rfl⟩ := rgI_get hj
      walk_at "Y"
      refine ⟨p, rfl, ?_⟩
      walk_at "X"
      refine nextT (by omega) (by omega) (by omega) fun r3 r30 r31 => ?_
      walk_at "Y"
      have ml : m.length = ks.length := by have := congrArg List.length hk; simpa using this
      refine ⟨by rw [ml, sizeLine_eq]; omega, hkn' _ _ ⟨_, if r3 - 20 ∈ ks then ks else ks ++ [r3 - 20], _, rfl, rfl, putD_keys hk, ?_, ?_, ?_⟩⟩
      · split
        · exact hkn
        · rename_i hx
          rw [List.nodup_append]
          exact ⟨hkn, by simp, fun u hu v hv => by
            rw [List.mem_singleton.mp hv]
            exact fun z => hx (z ▸ hu)⟩
      · split
        · exact hkr
        · intro y hy
          rcases List.mem_append.mp hy with hy | hy
          · exact hkr y hy
          · rw [List.mem_singleton.mp hy]; omega
      · split
        · omega
        · rw [List.length_append, List.length_singleton]; omega
    · rintro env τ' ⟨m, ks, x3, rfl, rfl, hk, hkn, hkr, hkl⟩
      rw [rgI_len] at hkl
      walk_at "Y"
      refine ⟨ks, hk, by omega, fun ys h1 h2 => ?_⟩
      walk_at "Y"
      refine ⟨⟨_, _, _, rfl, rfl⟩, ⟨[(p, .dk m)], rfl⟩, q ys _ (by rw [rgI_len]; omega) (fun x hx => hkr x (h1.mem_iff.mp hx)) (h1.nodup_iff.mpr hkn) (by rw [h1.length_eq]; omega)⟩
theorem ok_sums_of {f : Addr} {fd : FuncData} (T : Txt K mg ca) (F : Fun K "sums_of" "sums_of" s_sums_of f fd) (k_all_sums : Known P w K mg base (theT (Ts ca)) "all_sums" ["numbers", "most", "is_level", "is_unlike"] 3 (FF_all_sums)) :
    FnOk P w K mg base CX0 4 f fd ["numbers", "many", "is_level", "is_unlike"] (spD (theT (Ts ca)) K (FF_sums_of)) := by
  refine okP F sc_sums_of (by walk_at "v") (by decide) fun cdv A outer s H E G Fp hr => ⟨_, (dss_one (ds_ret (de_ix ix_A (od_ix rfl) (de_callK rfl k_all_sums (hr.mono (by decide)) (by rfl) (da_cons (de_var (pv 0)) (da_cons (de_var (pv 1)) (da_cons (de_var (pv 2)) (da_cons (de_var (pv 3)) da_nil))))) (de_var (pv 1)) (fun _ _ => rfl)))), ?_⟩
  dsimp only [Bk.T, theT]
  rintro rs τ Q ⟨ns, m, lvl, unl, rfl, hr, hn, hl, hm, h⟩
  walk_at "x"
  refine ⟨ns, m, lvl, unl, rfl, hr, hn, hl, hm, fun fs h1 h2 => ?_⟩
  walk_at "x"
  refine kAt_of (by omega) (by rw [List.length_map]; omega) fun z ez _ => ?_
  rw [Int.toNat_natCast, List.getElem?_map] at ez
  cases ef : fs[m]? with
  | none => rw [ef] at ez; cases ez
  | some f =>
    rw [ef] at ez
    cases ez
    walk_at "x"
    exact h f (h2 m f ef)
theorem ok_law {f : Addr} {fd : FuncData} (T : Txt K mg ca) (F : Fun K "law" "law" s_law f fd) (k__law_begin : Known P w K mg base (theT (Ts ca)) "_law_begin" ["_law_script"] 1 (FF_begin)) (k__law_next : Known P w K mg base (theT (Ts ca)) "_law_next" ["_law_draw", "_law_below"] 2 (FF_next)) (k__law_numbers : KnownG P w K mg base (theT (Ts ca)) "_law_numbers" ["_law_draw"] 3 (FF__law_numbers)) (k__law_bits : KnownG P w K mg base (theT (Ts ca)) "_law_bits" ["_law_totals_here"] 1 (FF__law_bits)) (k__law_totals : KnownG P w K mg base (theT (Ts ca)) "_law_totals" ["_law_lot", "_law_size", "_law_is_even", "_law_each_once"] 1 (FF__law_totals)) (k_sums_of : Known P w K mg base (theT (Ts ca)) "sums_of" ["numbers", "many", "is_level", "is_unlike"] 4 (FF_sums_of)) (k_window : Known P w K mg base (theT (Ts ca)) "window" ["least", "most"] 1 (FF_window)) (kk_sums_of : KnKP P w K mg base (theT (Ts ca)) "sums_of" ["numbers", "many", "is_level", "is_unlike"] ["many", "is_unlike", "is_level", "numbers"] 4 (FF_sums_of)) (kk_window : KnKP P w K mg base (theT (Ts ca)) "window" ["least", "most"] ["most", "least"] 1 (FF_window)) :
    FnG P w K mg base 5 f fd ["_law_script"] (spD (theT (Ts ca)) K (FF_lawT)) := by
  refine okG F sc_law (by walk_at "v") (by decide) fun cdv A outer s H E G Fp hcd hr => ⟨_, (dss_cons (ds_set (i := 1) sc_law.nd rfl (by first | exact .inl rfl | exact .inr rfl) (de_callK rfl k__law_begin (hr.r.mono (by decide)) (by rfl) (da_cons (de_var (pv 0)) da_nil)))
      (dss_cons (ds_for PassesOwn.never rfl (di_range1 (by rfl) T.b_range (da_cons de_int da_nil)) (dg_nm (i := 2) sc_law.nd rfl (by first | exact .inl rfl | exact .inr rfl))
        (dss_cons (ds_par (i := 3) (j := 4) rfl sc_law.nd rfl rfl (by decide) rfl rfl (da_cons (de_callG rfl k__law_numbers (hr.mono (by decide)) (by rfl) (da_cons (de_var (pv 1)) da_nil)) (da_cons (de_callK rfl k__law_next (hr.r.mono (by decide)) (by rfl) (da_cons (de_var (pv 1)) (da_cons de_int da_nil))) da_nil)) rfl)
        (dss_cons (ds_par (i := 5) (j := 6) rfl sc_law.nd rfl rfl (by decide) rfl rfl (da_cons (de_cmp (op_eqA hr.units) (od_eq rfl) (de_callK rfl k__law_next (hr.r.mono (by decide)) (by rfl) (da_cons (de_var (pv 1)) (da_cons de_int da_nil))) de_int (nomark _)) (da_cons (de_cmp (op_eqA hr.units) (od_eq rfl) (de_callK rfl k__law_next (hr.r.mono (by decide)) (by rfl) (da_cons (de_var (pv 1)) (da_cons de_int da_nil))) de_int (nomark _)) da_nil)) rfl)
        (dss_cons (ds_set (i := 7) sc_law.nd rfl (by first | exact .inl rfl | exact .inr rfl) (de_callG rfl k__law_bits (hr.mono (by decide)) (by rfl) (da_cons (de_callG rfl k__law_totals (hr.mono (by decide)) (by rfl) (da_cons (de_var (pv 3)) (da_cons (de_var (pv 4)) (da_cons (de_var (pv 5)) (da_cons (de_var (pv 6)) da_nil))))) da_nil)))
        (dss_cons (ds_set (i := 8) sc_law.nd rfl (by first | exact .inl rfl | exact .inr rfl) (de_callK rfl k_sums_of (hr.r.mono (by decide)) (by rfl) (da_cons (de_var (pv 3)) (da_cons (de_var (pv 4)) (da_cons (de_var (pv 5)) (da_cons (de_var (pv 6)) da_nil))))))
        (dss_cons (ds_if (dt_w (dw_or (dt_not (dt_tru rfl (de_callB call_isi (cd_isi rfl) (by rfl) T.b_isinstance (by decide +kernel) (da_cons (de_var (pv 8)) (da_cons (de_ty (n := "int") (by rfl) T.b_int (by decide +kernel)) da_nil))))) (dw_or (dt_cmp (op_neA hr.units) (od_ne rfl) (de_var (pv 8)) (de_var (pv 7)) (nomark _)) (dw_or1 (dt_cmp (op_neA hr.units) (od_ne rfl) (de_callK rfl k_sums_of (hr.r.mono (by decide)) (by rfl) (da_cons (de_var (pv 3)) (da_cons (de_var (pv 4)) (da_cons (de_var (pv 5)) (da_cons (de_var (pv 6)) da_nil))))) (de_var (pv 7)) (nomark _))))))
          (dss_one (ds_ret de_bl))
          dss_nil)
        (dss_cons (ds_if (dt_cmp (op_neA hr.units) (od_ne rfl) (de_callKP (ks := ["many", "is_unlike", "is_level", "numbers"]) rfl kk_sums_of (hr.r.mono (by decide)) (by rfl) (dk_cons (de_var (pv 4)) (dk_cons (de_var (pv 6)) (dk_cons (de_var (pv 5)) (dk_cons (de_var (pv 3)) dk_nil))))) (de_var (pv 7)) (nomark _))
          (dss_one (ds_ret de_bl))
          dss_nil)
        (dss_cons (ds_set (i := 9) sc_law.nd rfl (by first | exact .inl rfl | exact .inr rfl) (de_ix ix_A (od_ix rfl) (de_lst (da_cons (de_neg de_int) (da_cons de_int (da_cons (de_op op_sub od_I0 (de_callK rfl k__law_next (hr.r.mono (by decide)) (by rfl) (da_cons (de_var (pv 1)) (da_cons de_int da_nil))) de_int) da_nil)))) (de_callK rfl k__law_next (hr.r.mono (by decide)) (by rfl) (da_cons (de_var (pv 1)) (da_cons de_int da_nil))) (fun _ _ => rfl)))
        (dss_cons (ds_set (i := 10) sc_law.nd rfl (by first | exact .inl rfl | exact .inr rfl) (de_lst (da_cons (de_neg de_int) (da_cons de_int (da_cons (de_op op_sub od_I0 (de_callK rfl k__law_next (hr.r.mono (by decide)) (by rfl) (da_cons (de_var (pv 1)) (da_cons de_int da_nil))) de_int) (da_cons (de_callB (call_max2 rfl) cd_II (by rfl) T.b_max (by decide +kernel) (da_cons (de_neg de_int) (da_cons (de_callB (call_min2 rfl) cd_II (by rfl) T.b_min (by decide +kernel) (da_cons de_int (da_cons (de_op op_sub od_I0 (de_op op_addA (od_add rfl) (de_var (pv 9)) (de_callK rfl k__law_next (hr.r.mono (by decide)) (by rfl) (da_cons (de_var (pv 1)) (da_cons de_int da_nil)))) de_int) da_nil))) da_nil))) da_nil))))))
        (dss_cons (ds_set (i := 10) sc_law.nd rfl (by first | exact .inl rfl | exact .inr rfl) (de_ix ix_A (od_ix rfl) (de_var (pv 10)) (de_callK rfl k__law_next (hr.r.mono (by decide)) (by rfl) (da_cons (de_var (pv 1)) (da_cons de_int da_nil))) (fun _ _ => rfl)))
        (dss_cons (ds_set (i := 11) sc_law.nd rfl (by first | exact .inl rfl | exact .inr rfl) (de_callG rfl k__law_bits (hr.mono (by decide)) (by rfl) (da_cons (de_lstRg (by rfl) T.b_list (by rfl) T.b_range (de_var (pv 9)) (de_op op_addA (od_add rfl) (de_var (pv 10)) de_int)) da_nil)))
        (dss_one (ds_if (dt_w (dw_or (dt_cmp (op_neA hr.units) (od_ne rfl) (de_callK rfl k_window (hr.r.mono (by decide)) (by rfl) (da_cons (de_var (pv 9)) (da_cons (de_var (pv 10)) da_nil))) (de_var (pv 11)) (nomark _)) (dw_or1 (dt_cmp (op_neA hr.units) (od_ne rfl) (de_callKP (ks := ["most", "least"]) rfl kk_window (hr.r.mono (by decide)) (by rfl) (dk_cons (de_var (pv 10)) (dk_cons (de_var (pv 9)) dk_nil))) (de_var (pv 11)) (nomark _)))))
          (dss_one (ds_ret de_bl))
          dss_nil)))))))))))))
      (dss_cons (ds_set (i := 12) sc_law.nd rfl (by first | exact .inl rfl | exact .inr rfl) (de_callK rfl k_sums_of (hr.r.mono (by decide)) (by rfl) (da_cons (de_tupRg (by rfl) T.b_tuple (by rfl) T.b_range (de_neg de_int) de_int) (da_cons de_int (da_cons de_bl (da_cons de_bl da_nil))))))
      (dss_one (ds_ret (de_and rfl (de_cmp (op_eqA hr.units) (od_eq rfl) (de_var (pv 12)) (de_callG rfl k__law_bits (hr.mono (by decide)) (by rfl) (da_cons (de_lstRg (by rfl) T.b_list (by rfl) T.b_range (de_neg de_int) de_int) da_nil)) (nomark _)) (de_one (de_cmp (op_eqA hr.units) (od_eq rfl) (de_callK rfl k_window (hr.r.mono (by decide)) (by rfl) (da_cons (de_neg de_int) (da_cons de_int da_nil))) (de_var (pv 12)) (nomark _))))))))), ?_⟩
  dsimp only [Bk.T, theT]
  rintro rs τ Q ⟨sc, rfl, hsc, rfl, q⟩
  walk_at "Y"
  refine ⟨sc, [], rfl, hsc, rfl, fun a => ?_⟩
  walk_at "Y"
  refine ⟨by decide, ?_⟩
  refine for_inv (fun j env τ => (∃ x2 x3 x4 x5 x6 x7 x8 x9 x10 x11 x12, env = [SV.d (.list (sc.map .int)), .raw (.ref a), x2, x3, x4, x5, x6, x7, x8, x9, x10, x11, x12]) ∧ ∃ b', τ = ⟨.on a b', []⟩ ∧ 1152921504606846976 ≤ b' + 20 * j) _ _ _ ⟨⟨_, _, _, _, _, _, _, _, _, _, _, rfl⟩, _, rfl, by omega⟩ ?_ ?_
  · rintro j x env τ ej ⟨⟨x2, x3, x4, x5, x6, x7, x8, x9, x10, x11, x12, rfl⟩, b, rfl, hb⟩ kn hkn
    have hj : j < 12 := (rgI_get ej).1
    obtain ⟨_, rfl⟩ := rgI_get ej
    walk_at "Y"
    refine ⟨a, b, [], rfl, rfl, by omega, fun ns b2 hb2 hr nd hl => ?_⟩
    walk_at "Y"
    refine nextT (by omega) (by omega) (by omega) fun m m0 m1 => ?_
    walk_at "Y"
    refine nextT (by omega) (by omega) (by omega) fun r1 r10 r11 => ?_
    walk_at "Y"
    refine nextT (by omega) (by omega) (by omega) fun r2 r20 r21 => ?_
    walk_at "Y"
    obtain ⟨m, rfl⟩ := Int.eq_ofNat_of_zero_le m0
    generalize decide (r1 = 0) = lvl
    generalize decide (r2 = 0) = unl
    refine ⟨ns, m, lvl, unl, rfl, hr, nd, hl, by omega, fun xs xnd hxs => ?_⟩
    walk_at "Y"
    refine ⟨xs, rfl, xnd, fun x hx => ?_, fun due hd => ?_⟩
    · have := lot_bound hr ((hxs x).mp hx)
      omega
    have hd : BitsOf due (Lot ns lvl unl m) := ⟨hd.1, fun s => (hd.2 s).trans (hxs s)⟩
    walk_at "Y"
    refine ⟨ns, m, lvl, unl, rfl, hr, nd, by omega, by omega, fun f hf => ?_⟩
    obtain rfl := hf.eq hd
    walk_at "Y"
    refine ⟨ns, m, lvl, unl, rfl, hr, nd, by omega, by omega, fun g hg => ?_⟩
    obtain rfl := hg.eq hd
    walk_at "Y"
    refine ⟨ns, m, lvl, unl, rfl, hr, nd, by omega, by omega, fun g2 hg2 => ?_⟩
    obtain rfl := hg2.eq hd
    walk_at "Y"
    refine nextT (by omega) (by omega) (by omega) fun r3 r30 r31 => ?_
    walk_at "Y"
    refine nextT (by omega) (by omega) (by omega) fun r4 r40 r41 => ?_
    walk_at "Y"
    refine kAt_of (by omega) (by simp only [List.length_cons, List.length_nil]; omega) (fun z _ hz => ?_)
    obtain ⟨fi, rfl, hfi⟩ : ∃ fi : Int, z = .int fi ∧ -160 ≤ fi ∧ fi ≤ 160 := by
      simp only [List.mem_cons, List.not_mem_nil, or_false] at hz
      rcases hz with rfl | rfl | rfl
      · exact ⟨_, rfl, by omega⟩
      · exact ⟨_, rfl, by omega⟩
      · exact ⟨_, rfl, by omega⟩
    walk_at "Y"
    refine nextT (by omega) (by omega) (by omega) fun r5 r50 r51 => ?_
    walk_at "Y"
    refine nextT (by omega) (by omega) (by omega) fun r6 r60 r61 => ?_
    walk_at "Y"
    refine nextT (by omega) (by omega) (by omega) fun r7 r70 r71 => ?_
    walk_at "Y"
    refine kAt_of (by omega) (by simp only [List.length_cons, List.length_nil]; omega) (fun z _ hz => ?_)
    obtain ⟨la, rfl, hla⟩ : ∃ la : Int, z = .int la ∧ -160 ≤ la ∧ la ≤ 160 := by
      simp only [List.mem_cons, List.not_mem_nil, or_false] at hz
      rcases hz with rfl | rfl | rfl | rfl
      · exact ⟨_, rfl, by omega⟩
      · exact ⟨_, rfl, by omega⟩
      · exact ⟨_, rfl, by omega⟩
      · exact ⟨_, rfl, by omega⟩
    walk_at "Y"
    rw [rgI_span]
    refine ⟨by unfold RgOk; omega, span fi la, rfl, (span_lt _ _).imp fun h => Int.ne_of_lt h, fun x hx => by rw [mem_span] at hx; omega, fun bi hbi => ?_⟩
    have hw : BitsOf bi (fun s => (-160 ≤ s ∧ s ≤ 160) ∧ fi ≤ s ∧ s ≤ la) := ⟨hbi.1, fun s => (hbi.2 s).trans (mem_span.trans ⟨fun z => ⟨by omega, z⟩, fun z => z.2⟩)⟩
    walk_at "Y"
    refine ⟨fi, la, rfl, fun w1 hw1 => ?_⟩
    obtain rfl := hw1.eq hw
    walk_at "Y"
    refine ⟨fi, la, rfl, fun w2 hw2 => ?_⟩
    obtain rfl := hw2.eq hw
    walk_at "Y"
    exact hkn _ _ ⟨⟨_, _, _, _, _, _, _, _, _, _, _, rfl⟩, _, rfl, by omega⟩
  · rintro env τ ⟨⟨x2, x3, x4, x5, x6, x7, x8, x9, x10, x11, x12, rfl⟩, b, rfl, hb⟩
    walk_at "Y"
    rw [show rgI (-20) (Int.toNat 41) = (span (-20) 20).map .int from rgI_span (-20) 20]
    refine ⟨by unfold RgOk; omega, span (-20) 20, 8, false, false, rfl, span_inR (by omega) (by omega), (span_lt _ _).imp fun h => Int.ne_of_lt h, by rw [span_len]; decide, by omega, fun ev hev => ?_⟩
    have hall : BitsOf ev (fun s => (-160 ≤ s ∧ s ≤ 160) ∧ -160 ≤ s ∧ s ≤ 160) := ⟨hev.1, fun s => (hev.2 s).trans ((lot_all fun x => mem_span).trans ⟨fun z => ⟨z, z⟩, fun z => z.1⟩)⟩
    walk_at "Y"
    rw [show rgI (-160) (Int.toNat 321) = (span (-160) 160).map .int from rgI_span (-160) 160]
    refine ⟨by unfold RgOk; omega, span (-160) 160, rfl, (span_lt _ _).imp fun h => Int.ne_of_lt h, fun x hx => by rw [mem_span] at hx; omega, fun bi hbi => ?_⟩
    obtain rfl : bi = ev := BitsOf.eq (P := fun s => (-160 ≤ s ∧ s ≤ 160) ∧ -160 ≤ s ∧ s ≤ 160) ⟨hbi.1, fun s => (hbi.2 s).trans (mem_span.trans ⟨fun z => ⟨z, z⟩, fun z => z.1⟩)⟩ hall
    walk_at "Y"
    refine ⟨-160, 160, rfl, fun w hw => ?_⟩
    obtain rfl := hw.eq hall
    walk_at "Y"
    exact q _
end
/-! the defs of a law, known -/
section
variable {P : Program} {w : World} {K : PySem.W.Frag} {mg : Str → Option Value} {base : Heap} {S : Sto} {x : Str} {ps : List Str} {k : Nat} {f : Addr} {fd : FuncData}
theorem Known.o1 {FF : FW S.T} (h : FnOk P w K mg base CX0 k f fd ps (spD S K FF)) (m : mg x = some (.ref f)) (kp : PySem.W.keepIn K (.ref f) = true) (b : Binds K fd ps []) : Known P w K mg base S x ps k FF := ⟨f, fd, h, m, kp, b⟩
theorem KnownG.o1 {FF : FW S.T} (h : FnG P w K mg base k f fd ps (spD S K FF)) (m : mg x = some (.ref f)) (kp : PySem.W.keepIn K (.ref f) = true) (b : Binds K fd ps []) : KnownG P w K mg base S x ps k FF := ⟨f, fd, h, m, kp, b⟩
theorem KnownX.o1 {FX : FWX S.T} (h : FnOk P w K mg base (L2.CX P w) k f fd ps (spDX S K FX)) (m : mg x = some (.ref f)) (kp : PySem.W.keepIn K (.ref f) = true) (b : Binds K fd ps []) : KnownX P w K mg base S x ps k FX := ⟨f, fd, h, m, kp, b⟩
theorem fun_ex {qual : Str} {st : Stmt} {oc : Value} {od an : Option Addr} {osl : Array (Option Value)} {kV doc pm cdv ct : Value} (l : K.lookup f = some ⟨oc, od, .func (PySem.W.fnOf x qual (defArgs st) (defBody st) (defScope st) .none kV doc pm an cdv ct), osl⟩)
    (c : PySem.W.codeIn K cdv qual = true) (k : PySem.W.keepIn K (.ref f) = true) : ∃ fd, Fun K x qual st f fd := ⟨_, fun_mk l c k⟩
end
theorem us1 {P : List Value → Prop} (h : ∀ a0, P [a0]) (us : List Value) (hl : us.length = 1) : P us := match us, hl with | [a0], _ => h a0
theorem us4 {P : List Value → Prop} (h : ∀ a0, ∀ a1, ∀ a2, ∀ a3, P [a0, a1, a2, a3]) (us : List Value) (hl : us.length = 4) : P us := match us, hl with | [a0, a1, a2, a3], _ => h a0 a1 a2 a3
theorem us3 {P : List Value → Prop} (h : ∀ a0, ∀ a1, ∀ a2, P [a0, a1, a2]) (us : List Value) (hl : us.length = 3) : P us := match us, hl with | [a0, a1, a2], _ => h a0 a1 a2
theorem us2 {P : List Value → Prop} (h : ∀ a0, ∀ a1, P [a0, a1]) (us : List Value) (hl : us.length = 2) : P us := match us, hl with | [a0, a1], _ => h a0 a1
theorem bd_window {K : PySem.W.Frag} {f : Addr} {fd : FuncData} (F : Fun K "window" "window" s_window f fd) : Binds K fd ["least", "most"] [] := F.binds fun _ _ _ _ _ _ => us2 fun _ _ => rfl
theorem bd_moved {K : PySem.W.Frag} {f : Addr} {fd : FuncData} (F : Fun K "moved" "moved" s_moved f fd) : Binds K fd ["bits", "number"] [] := F.binds fun _ _ _ _ _ _ => us2 fun _ _ => rfl
theorem bd_level_sums {K : PySem.W.Frag} {f : Addr} {fd : FuncData} (F : Fun K "level_sums" "level_sums" s_level_sums f fd) : Binds K fd ["numbers", "most", "is_unlike"] [] := F.binds fun _ _ _ _ _ _ => us3 fun _ _ _ => rfl
theorem bd_all_sums {K : PySem.W.Frag} {f : Addr} {fd : FuncData} (F : Fun K "all_sums" "all_sums" s_all_sums f fd) : Binds K fd ["numbers", "most", "is_level", "is_unlike"] [] := F.binds fun _ _ _ _ _ _ => us4 fun _ _ _ _ => rfl
theorem bd_sums_of {K : PySem.W.Frag} {f : Addr} {fd : FuncData} (F : Fun K "sums_of" "sums_of" s_sums_of f fd) : Binds K fd ["numbers", "many", "is_level", "is_unlike"] [] := F.binds fun _ _ _ _ _ _ => us4 fun _ _ _ _ => rfl
theorem bd__law_begin {K : PySem.W.Frag} {f : Addr} {fd : FuncData} (F : Fun K "_law_begin" "_law_begin" s__law_begin f fd) : Binds K fd ["_law_script"] [] := F.binds fun _ _ _ _ _ _ => us1 fun _ => rfl
theorem bd__law_mixed {K : PySem.W.Frag} {f : Addr} {fd : FuncData} (F : Fun K "_law_mixed" "_law_mixed" s__law_mixed f fd) : Binds K fd ["_law_cell", "_law_k"] [] := F.binds fun _ _ _ _ _ _ => us2 fun _ _ => rfl
theorem bd__law_next {K : PySem.W.Frag} {f : Addr} {fd : FuncData} (F : Fun K "_law_next" "_law_next" s__law_next f fd) : Binds K fd ["_law_draw", "_law_below"] [] := F.binds fun _ _ _ _ _ _ => us2 fun _ _ => rfl
theorem bd__law_numbers {K : PySem.W.Frag} {f : Addr} {fd : FuncData} (F : Fun K "_law_numbers" "_law_numbers" s__law_numbers f fd) : Binds K fd ["_law_draw"] [] := F.binds fun _ _ _ _ _ _ => us1 fun _ => rfl
theorem bd__law_totals {K : PySem.W.Frag} {f : Addr} {fd : FuncData} (F : Fun K "_law_totals" "_law_totals" s__law_totals f fd) : Binds K fd ["_law_lot", "_law_size", "_law_is_even", "_law_each_once"] [] := F.binds fun _ _ _ _ _ _ => us4 fun _ _ _ _ => rfl
theorem bd__law_bits {K : PySem.W.Frag} {f : Addr} {fd : FuncData} (F : Fun K "_law_bits" "_law_bits" s__law_bits f fd) : Binds K fd ["_law_totals_here"] [] := F.binds fun _ _ _ _ _ _ => us1 fun _ => rfl
theorem all_mk {l : PySem.W.OpenLaw} {w : World} {K : PySem.W.Frag} {h : Heap} {mg : Str → Option Value} {fa f0 f1 f2 f3 f4 f5 f6 f7 f8 f9 f10 f11 : Addr} (ca : Cas) (X : K.In h) (G : h.Ns mainGlobals mg) (hfa : mg "law" = some (.ref fa))
    {od0 an0 od1 an1 od2 an2 od3 an3 od4 an4 od5 an5 od6 an6 od7 an7 od8 an8 od9 an9 od10 an10 od11 an11 : Option Addr} {sl0 sl1 sl2 sl3 sl4 sl5 sl6 sl7 sl8 sl9 sl10 sl11 : Array (Option Value)}
    {oc0 kV0 dc0 pm0 ct0 cd0 oc1 kV1 dc1 pm1 ct1 cd1 oc2 kV2 dc2 pm2 ct2 cd2 oc3 kV3 dc3 pm3 ct3 cd3 oc4 kV4 dc4 pm4 ct4 cd4 oc5 kV5 dc5 pm5 ct5 cd5 oc6 kV6 dc6 pm6 ct6 cd6 oc7 kV7 dc7 pm7 ct7 cd7 oc8 kV8 dc8 pm8 ct8 cd8 oc9 kV9 dc9 pm9 ct9 cd9 oc10 kV10 dc10 pm10 ct10 cd10 oc11 kV11 dc11 pm11 ct11 cd11 : Value}
    (a0 : PySem.W.nsIn K mainGlobals "window" = some (some (.ref f0))) (l0 : K.lookup f0 = some ⟨oc0, od0, .func (PySem.W.fnOf "window" "window" (defArgs s_window) (defBody s_window) (defScope s_window) .none kV0 dc0 pm0 an0 cd0 ct0), sl0⟩) (c0 : PySem.W.codeIn K cd0 "window" = true) (k0 : PySem.W.keepIn K (.ref f0) = true)
    (a1 : PySem.W.nsIn K mainGlobals "moved" = some (some (.ref f1))) (l1 : K.lookup f1 = some ⟨oc1, od1, .func (PySem.W.fnOf "moved" "moved" (defArgs s_moved) (defBody s_moved) (defScope s_moved) .none kV1 dc1 pm1 an1 cd1 ct1), sl1⟩) (c1 : PySem.W.codeIn K cd1 "moved" = true) (k1 : PySem.W.keepIn K (.ref f1) = true)
    (a2 : PySem.W.nsIn K mainGlobals "level_sums" = some (some (.ref f2))) (l2 : K.lookup f2 = some ⟨oc2, od2, .func (PySem.W.fnOf "level_sums" "level_sums" (defArgs s_level_sums) (defBody s_level_sums) (defScope s_level_sums) .none kV2 dc2 pm2 an2 cd2 ct2), sl2⟩) (c2 : PySem.W.codeIn K cd2 "level_sums" = true) (k2 : PySem.W.keepIn K (.ref f2) = true)
    (a3 : PySem.W.nsIn K mainGlobals "all_sums" = some (some (.ref f3))) (l3 : K.lookup f3 = some ⟨oc3, od3, .func (PySem.W.fnOf "all_sums" "all_sums" (defArgs s_all_sums) (defBody s_all_sums) (defScope s_all_sums) .none kV3 dc3 pm3 an3 cd3 ct3), sl3⟩) (c3 : PySem.W.codeIn K cd3 "all_sums" = true) (k3 : PySem.W.keepIn K (.ref f3) = true)
    (a4 : PySem.W.nsIn K mainGlobals "sums_of" = some (some (.ref f4))) (l4 : K.lookup f4 = some ⟨oc4, od4, .func (PySem.W.fnOf "sums_of" "sums_of" (defArgs s_sums_of) (defBody s_sums_of) (defScope s_sums_of) .none kV4 dc4 pm4 an4 cd4 ct4), sl4⟩) (c4 : PySem.W.codeIn K cd4 "sums_of" = true) (k4 : PySem.W.keepIn K (.ref f4) = true)
    (a5 : PySem.W.nsIn K mainGlobals "_law_begin" = some (some (.ref f5))) (l5 : K.lookup f5 = some ⟨oc5, od5, .func (PySem.W.fnOf "_law_begin" "_law_begin" (defArgs s__law_begin) (defBody s__law_begin) (defScope s__law_begin) .none kV5 dc5 pm5 an5 cd5 ct5), sl5⟩) (c5 : PySem.W.codeIn K cd5 "_law_begin" = true) (k5 : PySem.W.keepIn K (.ref f5) = true)
    (a6 : PySem.W.nsIn K mainGlobals "_law_mixed" = some (some (.ref f6))) (l6 : K.lookup f6 = some ⟨oc6, od6, .func (PySem.W.fnOf "_law_mixed" "_law_mixed" (defArgs s__law_mixed) (defBody s__law_mixed) (defScope s__law_mixed) .none kV6 dc6 pm6 an6 cd6 ct6), sl6⟩) (c6 : PySem.W.codeIn K cd6 "_law_mixed" = true) (k6 : PySem.W.keepIn K (.ref f6) = true)
    (a7 : PySem.W.nsIn K mainGlobals "_law_next" = some (some (.ref f7))) (l7 : K.lookup f7 = some ⟨oc7, od7, .func (PySem.W.fnOf "_law_next" "_law_next" (defArgs s__law_next) (defBody s__law_next) (defScope s__law_next) .none kV7 dc7 pm7 an7 cd7 ct7), sl7⟩) (c7 : PySem.W.codeIn K cd7 "_law_next" = true) (k7 : PySem.W.keepIn K (.ref f7) = true)
    (a8 : PySem.W.nsIn K mainGlobals "_law_numbers" = some (some (.ref f8))) (l8 : K.lookup f8 = some ⟨oc8, od8, .func (PySem.W.fnOf "_law_numbers" "_law_numbers" (defArgs s__law_numbers) (defBody s__law_numbers) (defScope s__law_numbers) .none kV8 dc8 pm8 an8 cd8 ct8), sl8⟩) (c8 : PySem.W.codeIn K cd8 "_law_numbers" = true) (k8 : PySem.W.keepIn K (.ref f8) = true)
    (a9 : PySem.W.nsIn K mainGlobals "_law_totals" = some (some (.ref f9))) (l9 : K.lookup f9 = some ⟨oc9, od9, .func (PySem.W.fnOf "_law_totals" "_law_totals" (defArgs s__law_totals) (defBody s__law_totals) (defScope s__law_totals) .none kV9 dc9 pm9 an9 cd9 ct9), sl9⟩) (c9 : PySem.W.codeIn K cd9 "_law_totals" = true) (k9 : PySem.W.keepIn K (.ref f9) = true)
    (a10 : PySem.W.nsIn K mainGlobals "_law_bits" = some (some (.ref f10))) (l10 : K.lookup f10 = some ⟨oc10, od10, .func (PySem.W.fnOf "_law_bits" "_law_bits" (defArgs s__law_bits) (defBody s__law_bits) (defScope s__law_bits) .none kV10 dc10 pm10 an10 cd10 ct10), sl10⟩) (c10 : PySem.W.codeIn K cd10 "_law_bits" = true) (k10 : PySem.W.keepIn K (.ref f10) = true)
    (a11 : PySem.W.nsIn K mainGlobals "law" = some (some (.ref f11))) (l11 : K.lookup f11 = some ⟨oc11, od11, .func (PySem.W.fnOf "law" "law" (defArgs s_law) (defBody s_law) (defScope s_law) .none kV11 dc11 pm11 an11 cd11 ct11), sl11⟩) (c11 : PySem.W.codeIn K cd11 "law" = true) (k11 : PySem.W.keepIn K (.ref f11) = true)
    (zb_min : PySem.W.nsIn K mainGlobals "min" = some none)
    (zb_max : PySem.W.nsIn K mainGlobals "max" = some none)
    (zb_range : PySem.W.nsIn K mainGlobals "range" = some none)
    (zb_len : PySem.W.nsIn K mainGlobals "len" = some none)
    (zb_tuple : PySem.W.nsIn K mainGlobals "tuple" = some none)
    (zb_sorted : PySem.W.nsIn K mainGlobals "sorted" = some none)
    (zb_set : PySem.W.nsIn K mainGlobals "set" = some none)
    (zb_int : PySem.W.nsIn K mainGlobals "int" = some none)
    (zb_isinstance : PySem.W.nsIn K mainGlobals "isinstance" = some none)
    (zb_list : PySem.W.nsIn K mainGlobals "list" = some none)
    {t_MOST_SUM : Tok} (zc_MOST_SUM : PySem.W.nsIn K mainGlobals "MOST_SUM" = some (some (.int (160) t_MOST_SUM)))
    (znf : intFree K = true)
    : ∃ fd : FuncData, (∀ (s : Shared) (v : Value), BindsTo s fd ⟨[v], []⟩ [("_law_script", v)]) ∧ ∀ base : Heap, K.In base → base.Ns mainGlobals mg → (∀ e ∈ tn ca, LamX.TabB base mg e.2.1 e.2.2) → FnG l.prog w K mg base 5 fa fd ["_law_script"] (spD (theT (tsOf (tn ca))) K FF_lawT) := by
  have e := hfa.symm.trans (PySem.W.mg_of X G a11)
  cases e
  have T : Txt K mg ca := ⟨trivial, PySem.W.mg_none_of X G zb_min, PySem.W.mg_none_of X G zb_max, PySem.W.mg_none_of X G zb_range, PySem.W.mg_none_of X G zb_len, PySem.W.mg_none_of X G zb_tuple, PySem.W.mg_none_of X G zb_sorted, PySem.W.mg_none_of X G zb_set, PySem.W.mg_none_of X G zb_int, PySem.W.mg_none_of X G zb_isinstance, PySem.W.mg_none_of X G zb_list, ⟨t_MOST_SUM, PySem.W.mg_of X G zc_MOST_SUM⟩, znf⟩
  refine ⟨PySem.W.fnOf "law" "law" (defArgs s_law) (defBody s_law) (defScope s_law) .none kV11 dc11 pm11 an11 cd11 ct11, fun s v => .of_eq rfl, fun base _ _ tb => ?_⟩
  have F0 := fun_mk (st := s_window) l0 c0 k0
  obtain ⟨fd1, F1⟩ := fun_ex (st := s_moved) l1 c1 k1
  obtain ⟨fd2, F2⟩ := fun_ex (st := s_level_sums) l2 c2 k2
  obtain ⟨fd3, F3⟩ := fun_ex (st := s_all_sums) l3 c3 k3
  have F4 := fun_mk (st := s_sums_of) l4 c4 k4
  obtain ⟨fd5, F5⟩ := fun_ex (st := s__law_begin) l5 c5 k5
  obtain ⟨fd6, F6⟩ := fun_ex (st := s__law_mixed) l6 c6 k6
  obtain ⟨fd7, F7⟩ := fun_ex (st := s__law_next) l7 c7 k7
  obtain ⟨fd8, F8⟩ := fun_ex (st := s__law_numbers) l8 c8 k8
  obtain ⟨fd9, F9⟩ := fun_ex (st := s__law_totals) l9 c9 k9
  obtain ⟨fd10, F10⟩ := fun_ex (st := s__law_bits) l10 c10 k10
  have F11 := fun_mk (st := s_law) l11 c11 k11
  have q0 : Known l.prog w K mg base (theT (Ts ca)) "window" ["least", "most"] 1 (FF_window) := .o1 (ok_window T F0 ) (PySem.W.mg_of X G a0) k0 (bd_window F0)
  have qk0 : KnKP l.prog w K mg base (theT (Ts ca)) "window" ["least", "most"] ["most", "least"] 1 (FF_window) := ⟨f0, _, ok_window T F0 , PySem.W.mg_of X G a0, k0, kwP2 (fun _ _ _ => .of_eq rfl)⟩
  have q1 : Known l.prog w K mg base (theT (Ts ca)) "moved" ["bits", "number"] 1 (FF_moved) := .o1 (ok_moved T F1 ) (PySem.W.mg_of X G a1) k1 (bd_moved F1)
  have q5 : Known l.prog w K mg base (theT (Ts ca)) "_law_begin" ["_law_script"] 1 (FF_begin) := .o1 (imp_fr (Ts := Ts ca) (ok__law_begin T F5) begin_fr) (PySem.W.mg_of X G a5) k5 (bd__law_begin F5)
  have p6 : Known l.prog w K mg base (theS ((Ts ca).map (·.1))) "_law_mixed" ["_law_cell", "_law_k"] 1 FF__law_mixed := .o1 (ok__law_mixed T F6) (PySem.W.mg_of X G a6) k6 (bd__law_mixed F6)
  have q9 : KnownG l.prog w K mg base (theT (Ts ca)) "_law_totals" ["_law_lot", "_law_size", "_law_is_even", "_law_each_once"] 1 (FF__law_totals) := .o1 (ok__law_totals T F9 ) (PySem.W.mg_of X G a9) k9 (bd__law_totals F9)
  have q10 : KnownG l.prog w K mg base (theT (Ts ca)) "_law_bits" ["_law_totals_here"] 1 (FF__law_bits) := .o1 (ok__law_bits T F10 ) (PySem.W.mg_of X G a10) k10 (bd__law_bits F10)
  have q2 : Known l.prog w K mg base (theT (Ts ca)) "level_sums" ["numbers", "most", "is_unlike"] 2 (FF_level_sums) := .o1 (ok_level_sums T F2 q0) (PySem.W.mg_of X G a2) k2 (bd_level_sums F2)
  have q7 : Known l.prog w K mg base (theT (Ts ca)) "_law_next" ["_law_draw", "_law_below"] 2 (FF_next) := .o1 (imp_fr (Ts := Ts ca) (ok__law_next T F7 p6) next_fr) (PySem.W.mg_of X G a7) k7 (bd__law_next F7)
  have q3 : Known l.prog w K mg base (theT (Ts ca)) "all_sums" ["numbers", "most", "is_level", "is_unlike"] 3 (FF_all_sums) := .o1 (ok_all_sums T F3 q2 q0 q1) (PySem.W.mg_of X G a3) k3 (bd_all_sums F3)
  have q8 : KnownG l.prog w K mg base (theT (Ts ca)) "_law_numbers" ["_law_draw"] 3 (FF__law_numbers) := .o1 (ok__law_numbers T F8 q7) (PySem.W.mg_of X G a8) k8 (bd__law_numbers F8)
  have q4 : Known l.prog w K mg base (theT (Ts ca)) "sums_of" ["numbers", "many", "is_level", "is_unlike"] 4 (FF_sums_of) := .o1 (ok_sums_of T F4 q3) (PySem.W.mg_of X G a4) k4 (bd_sums_of F4)
  have qk4 : KnKP l.prog w K mg base (theT (Ts ca)) "sums_of" ["numbers", "many", "is_level", "is_unlike"] ["many", "is_unlike", "is_level", "numbers"] 4 (FF_sums_of) := ⟨f4, _, ok_sums_of T F4 q3, PySem.W.mg_of X G a4, k4, kwP4 (fun _ _ _ _ _ => .of_eq rfl)⟩
  exact ok_law T F11 q5 q7 q8 q10 q9 q4 q0 qk4 qk0
theorem walk_ca {l : PySem.W.OpenLaw} {k : Nat} {q : Program} {loose : List Str} {XP : (Str → Option Value) → Heap → Prop} {YP : World → Heap → Prop} {d : DefRec} {K : Params → PySem.W.Frag} {x : Str}
    (hn : l.most = some 63) (hdf : d.params.defaults = []) (hr : Room k callerA)
    (hY : ∀ (w : World) (h : Heap), YP w h → (K w.params).In h) (hTn : ∀ (w : World), ∀ e ∈ tn ⟨()⟩, TabK (K w.params) e) (hTab : ∀ (w : World) (h : Heap), YP w h → ∀ e ∈ tn ⟨()⟩, h.get? e.2.2 = some (PySem.W.tabObj #[]))
    (F : ∀ (w : World) (mg : Str → Option Value) (fa : Addr) (h : Heap), (K w.params).In h → h.Ns mainGlobals mg → mg d.name = some (.ref fa) →
      ∃ fd : FuncData, (∀ (s : Shared) (u : Value), BindsTo s fd ⟨[u], []⟩ [(x, u)]) ∧
        ∀ base : Heap, (K w.params).In base → base.Ns mainGlobals mg → (∀ e ∈ tn ⟨()⟩, LamX.TabB base mg e.2.1 e.2.2) → FnG l.prog w (K w.params) mg base k fa fd [x] (spD (theT (tsOf (tn ⟨()⟩))) (K w.params) FF_lawT))
    : PySem.W.WalkO q loose XP YP l.row.toRowW d [] (fun f vs => PySem.call f vs) :=
  walk_ofT (Tn := tn ⟨()⟩) hn hdf hr hY hTn hTab F
end Z
open PySem PySem.W PyProof.Rows
set_option maxHeartbeats 0 in
theorem PySem.Challenge.cw_rowkinds_k07_sums_of_lots_holds : PySem.Challenge.rw_rowkinds_k07_sums_of_lots.Holds := by
  w_on; o_law; k_head; (case hw => w_witness2)
  k_fill
  refine' Z.walk_ca (l := PySem.Challenge.rw_rowkinds_k07_sums_of_lots) (k := 5) (x := "_law_script") rfl rfl ⟨rfl, by decide, by decide⟩ (fun w h Y => by first | exact PySem.W.kIn_of Y | exact PySem.W.km_in_of Y) ?T ?Y ?F
  case Y =>
    intro w h Y e he
    simp only [Z.tn, List.mem_cons, List.not_mem_nil, or_false] at he
    all_goals cases he
  case F =>
    intro w mg fa h KX G hmg
    refine' Z.all_mk (ca := _) KX G hmg ?a0 ?l0 ?c0 ?k0 ?a1 ?l1 ?c1 ?k1 ?a2 ?l2 ?c2 ?k2 ?a3 ?l3 ?c3 ?k3 ?a4 ?l4 ?c4 ?k4 ?a5 ?l5 ?c5 ?k5 ?a6 ?l6 ?c6 ?k6 ?a7 ?l7 ?c7 ?k7 ?a8 ?l8 ?c8 ?k8 ?a9 ?l9 ?c9 ?k9 ?a10 ?l10 ?c10 ?k10 ?a11 ?l11 ?c11 ?k11 ?zb_min ?zb_max ?zb_range ?zb_len ?zb_tuple ?zb_sorted ?zb_set ?zb_int ?zb_isinstance ?zb_list ?zc_MOST_SUM ?znf
    (case a0 => k_is)
    (case l0 => k_is)
    (case c0 => k_is)
    (case k0 => k_is)
    (case a1 => k_is)
    (case l1 => k_is)
    (case c1 => k_is)
    (case k1 => k_is)
    (case a2 => k_is)
    (case l2 => k_is)
    (case c2 => k_is)
    (case k2 => k_is)
    (case a3 => k_is)
    (case l3 => k_is)
    (case c3 => k_is)
    (case k3 => k_is)
    (case a4 => k_is)
    (case l4 => k_is)
    (case c4 => k_is)
    (case k4 => k_is)
    (case a5 => k_is)
    (case l5 => k_is)
    (case c5 => k_is)
    (case k5 => k_is)
    (case a6 => k_is)
    (case l6 => k_is)
    (case c6 => k_is)
    (case k6 => k_is)
    (case a7 => k_is)
    (case l7 => k_is)
    (case c7 => k_is)
    (case k7 => k_is)
    (case a8 => k_is)
    (case l8 => k_is)
    (case c8 => k_is)
    (case k8 => k_is)
    (case a9 => k_is)
    (case l9 => k_is)
    (case c9 => k_is)
    (case k9 => k_is)
    (case a10 => k_is)
    (case l10 => k_is)
    (case c10 => k_is)
    (case k10 => k_is)
    (case a11 => k_is)
    (case l11 => k_is)
    (case c11 => k_is)
    (case k11 => k_is)
    (case zb_min => k_is)
    (case zb_max => k_is)
    (case zb_range => k_is)
    (case zb_len => k_is)
    (case zb_tuple => k_is)
    (case zb_sorted => k_is)
    (case zb_set => k_is)
    (case zb_int => k_is)
    (case zb_isinstance => k_is)
    (case zb_list => k_is)
    (case zc_MOST_SUM => k_is)
    (case znf => kernel_rfl)
  case T =>
    intro w e he
    simp only [Z.tn, List.mem_cons, List.not_mem_nil, or_false] at he
    all_goals cases he
