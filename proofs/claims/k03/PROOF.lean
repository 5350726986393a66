import PyProof.Rows.All
import Wide.All
import OpenK.AllK
import Wide.FinOn
import HandS.ForMost
import HandS.Flow
import HandS.TupAny
import HandS.TupMul
import HandS.Deep
import HandS.Wide
import HandS.WideBits
import HandS.Zip
import HandS.IsInst
import HandS.Replace
import PySem.Challenge.RW_rowkinds_k03_words_of_texts
set_option Elab.async false
set_option linter.all false
set_option maxRecDepth 100000
set_option maxHeartbeats 4000000
/-! Z: a layer of plain data over the hand layer. -/
namespace Z
open PySem L2

abbrev D := PyData

/-- a list that is read: tracked, locked, or a plain one of the written part -/
def SqP (K : PySem.W.Frag) (H : Hp) (a : Addr) (xs : List V) : Prop :=
  Rd H a (.lst xs) ∨ ∃ its : List Value, K.lookup a = some { cls := .type "list", data := .seq its.toArray } ∧ xs.length ≤ sizeLine ∧ Vals xs its
theorem SqP.sql {K : PySem.W.Frag} {H : Hp} {a : Addr} {xs : List V} (h : SqP K H a xs) : SqL K H a xs := by
  rcases h with h | ⟨its, h, hz, r⟩
  · exact .inl h
  · exact .inr ⟨_, its.toArray, 0, h, rfl, rfl, rfl, by rw [List.size_toArray, ← r.length]; exact hz, by simpa using r⟩

mutual
/-- the value v tells the data d, in what never changes (G) -/
inductive Rp (K : PySem.W.Frag) (G : Hp) : V → D → Prop
  | non : Rp K G .non .none
  | bl (b : Bool) : Rp K G (.bl b) (.bool b)
  | int (i : Int) : Rp K G (.int i) (.int i)
  | str (x : Str) : Rp K G (.str x) (.str x)
  | lst {a : Addr} {xs : List V} {ds : List D} : SqP K G a xs → RpAll K G xs ds → Rp K G (.ref a) (.list ds)
  | tup {a : Addr} {xs : List V} {ds : List D} : SqT K G a xs → RpAll K G xs ds → Rp K G (.ref a) (.tuple ds)
  | emp {a : Addr} : G a = some (.dK []) → Rp K G (.ref a) (.dict [])
inductive RpAll (K : PySem.W.Frag) (G : Hp) : List V → List D → Prop
  | nil : RpAll K G [] []
  | cons {v : V} {vs : List V} {d : D} {ds : List D} : Rp K G v d → RpAll K G vs ds → RpAll K G (v :: vs) (d :: ds)
end

theorem same_seqT {K : PySem.W.Frag} {H H' : Hp} {a : Addr} {xs : List V} (e : Same H H') (h : SqT K H a xs) : SqT K H' a xs := by
  rcases h with (h | ⟨o, h⟩) | h
  · exact .inl (.inl (e _ _ h))
  · exact .inl (.inr ⟨o, e _ _ h⟩)
  · exact .inr h

theorem same_rd {H H' : Hp} {a : Addr} {u : HO} (e : Same H H') (h : Rd H a u) : Rd H' a u := by
  rcases h with h | ⟨o, h⟩
  · exact .inl (e _ _ h)
  · exact .inr ⟨o, e _ _ h⟩
theorem same_sqp {K : PySem.W.Frag} {H H' : Hp} {a : Addr} {xs : List V} (e : Same H H') (h : SqP K H a xs) : SqP K H' a xs := by
  rcases h with h | h
  · exact .inl (same_rd e h)
  · exact .inr h
section
variable {K : PySem.W.Frag} {G G' : Hp}
mutual
theorem Rp.mono (e : Same G G') : ∀ {v : V} {d : D}, Rp K G v d → Rp K G' v d
  | _, _, .non => .non
  | _, _, .bl b => .bl b
  | _, _, .int i => .int i
  | _, _, .str x => .str x
  | _, _, .lst h a => .lst (same_sqp e h) (RpAll.mono e a)
  | _, _, .tup h a => .tup (same_seqT e h) (RpAll.mono e a)
  | _, _, .emp h => .emp (e _ _ h)
theorem RpAll.mono (e : Same G G') : ∀ {vs : List V} {ds : List D}, RpAll K G vs ds → RpAll K G' vs ds
  | _, _, .nil => .nil
  | _, _, .cons h t => .cons (Rp.mono e h) (RpAll.mono e t)
end
theorem RpAll.length : ∀ {vs : List V} {ds : List D}, RpAll K G vs ds → vs.length = ds.length
  | _, _, .nil => rfl
  | _, _, .cons _ t => congrArg Nat.succ (RpAll.length t)
theorem RpAll.get : ∀ {vs : List V} {ds : List D} {i : Nat} {v : V}, RpAll K G vs ds → vs[i]? = some v → ∃ d, ds[i]? = some d ∧ Rp K G v d
  | _, _, _, _, .nil, e => by simp at e
  | _, _, 0, _, .cons r _, e => by simp at e; subst e; exact ⟨_, rfl, r⟩
  | _, _, i + 1, x, .cons _ t, e => by
    obtain ⟨u, h1, h2⟩ := RpAll.get (i := i) (v := x) t (by simpa using e)
    exact ⟨u, by simpa using h1, h2⟩
theorem RpAll.getD : ∀ {vs : List V} {ds : List D} {i : Nat} {d : D}, RpAll K G vs ds → ds[i]? = some d → ∃ v, vs[i]? = some v ∧ Rp K G v d
  | _, _, _, _, .nil, e => by simp at e
  | _, _, 0, _, .cons r _, e => by simp at e; subst e; exact ⟨_, rfl, r⟩
  | _, _, i + 1, x, .cons _ t, e => by
    obtain ⟨u, h1, h2⟩ := RpAll.getD (i := i) (d := x) t (by simpa using e)
    exact ⟨u, by simpa using h1, h2⟩
theorem RpAll.append : ∀ {vs ws : List V} {ds es : List D}, RpAll K G vs ds → RpAll K G ws es → RpAll K G (vs ++ ws) (ds ++ es)
  | _, _, _, _, .nil, s => s
  | _, _, _, _, .cons r t, s => .cons r (RpAll.append t s)
theorem RpAll.take : ∀ {vs : List V} {ds : List D} (n : Nat), RpAll K G vs ds → RpAll K G (vs.take n) (ds.take n)
  | _, _, 0, _ => .nil
  | _, _, _ + 1, .nil => .nil
  | _, _, n + 1, .cons r t => .cons r (RpAll.take n t)
theorem RpAll.drop : ∀ {vs : List V} {ds : List D} (n : Nat), RpAll K G vs ds → RpAll K G (vs.drop n) (ds.drop n)
  | _, _, 0, r => r
  | _, _, _ + 1, .nil => .nil
  | _, _, n + 1, .cons _ t => RpAll.drop n t
theorem RpAll.set {v : V} {d : D} (r : Rp K G v d) : ∀ {vs : List V} {ds : List D} (i : Nat), RpAll K G vs ds → RpAll K G (vs.set i v) (ds.set i d)
  | _, _, _, .nil => .nil
  | _, _, 0, .cons _ t => .cons r t
  | _, _, i + 1, .cons q t => .cons q (RpAll.set r i t)
theorem RpAll.reverse : ∀ {vs : List V} {ds : List D}, RpAll K G vs ds → RpAll K G vs.reverse ds.reverse
  | _, _, .nil => .nil
  | _, _, .cons r t => by
    rw [List.reverse_cons, List.reverse_cons]
    exact (RpAll.reverse t).append (.cons r .nil)
mutual
/-- what can be laid has no dicts -/
theorem Rp.dp : ∀ {v : V} {d : D}, Rp K G v d → d.canLay0 = true → Dp K G v d
  | _, _, .non, _ => .non
  | _, _, .bl b, _ => .bl b
  | _, _, .int i, _ => .int i
  | _, _, .str x, _ => .str x
  | _, _, .lst h a, c => .lst h.sql (RpAll.dp a (by simpa [PyData.canLay0] using c))
  | _, _, .tup h a, c => .tup h (RpAll.dp a (by simpa [PyData.canLay0] using c))
  | _, _, .emp h, c => by simp [PyData.canLay0] at c
theorem RpAll.dp : ∀ {vs : List V} {ds : List D}, RpAll K G vs ds → PyData.canLayAll0 ds = true → DpAll K G vs ds
  | _, _, .nil, _ => .nil
  | _, _, .cons h t, c => by
    rw [PyData.canLayAll0, Bool.and_eq_true] at c
    exact .cons (Rp.dp h c.1) (RpAll.dp t c.2)
end
end

/-! ### the store: what the defs share and change -/
structure Sto where
  T : Type
  R : PySem.W.Frag → T → Hp → (Addr → Prop) → Hp → Prop
  st : ∀ {K t G G' F H H'}, R K t G F H → Same G G' → (∀ a, F a → H' a = H a) → R K t G' F H'

/-- from one state to a later one: what is said for ever grows, what isn't the store's stands -/
structure Step (G : Hp) (F : Addr → Prop) (H G' : Hp) (F' : Addr → Prop) (H' : Hp) : Prop where
  g : Same G G'
  h : ∀ a o, ¬ F a → H a = some o → H' a = some o
  gn : ∀ a o, G' a = some o → G a = some o ∨ H a = none
  fn : ∀ a, F' a → F a ∨ H a = none
  ff : ∀ a, F a → F' a
  dom : ∀ a, H a ≠ none → H' a ≠ none
structure Ok (S : Sto) (K : PySem.W.Frag) (t : S.T) (G : Hp) (F : Addr → Prop) (H : Hp) : Prop where
  same : Same G H
  gf : ∀ a, F a → G a = none
  fh : ∀ a, F a → H a ≠ none
  r : S.R K t G F H

theorem Step.refl (G : Hp) (F : Addr → Prop) (H : Hp) : Step G F H G F H :=
  ⟨Same.refl G, fun _ _ _ h => h, fun _ _ h => .inl h, fun _ h => .inl h, fun _ h => h, fun _ h => h⟩
theorem Step.trans {G F H G1 F1 H1 G2 F2 H2} (a : Step G F H G1 F1 H1) (b : Step G1 F1 H1 G2 F2 H2) : Step G F H G2 F2 H2 where
  g := a.g.trans b.g
  h := fun p o nf e => by
    refine b.h p o (fun z => ?_) (a.h p o nf e)
    rcases a.fn p z with z | z
    · exact nf z
    · rw [z] at e; cases e
  gn := fun p o e => by
    rcases b.gn p o e with z | z
    · exact a.gn p o z
    · exact .inr (Classical.byContradiction fun q => a.dom p q z)
  fn := fun p e => by
    rcases b.fn p e with z | z
    · exact a.fn p z
    · exact .inr (Classical.byContradiction fun q => a.dom p q z)
  ff := fun p e => b.ff p (a.ff p e)
  dom := fun p e => b.dom p (a.dom p e)

/-- a new object that will never change -/
theorem Step.new {G F H p o} (n : H p = none) (s : Same G H) (nf : ∀ a, F a → H a ≠ none) : Step G F H (upd G p o) F (upd H p o) where
  g := fun a u e => by
    have : a ≠ p := ne_of_none (s a u e) n
    rw [upd_ne this]; exact e
  h := fun a u _ e => by rw [upd_ne (ne_of_none e n)]; exact e
  gn := fun a u e => by
    by_cases q : a = p
    · subst q; exact .inr n
    · rw [upd_ne q] at e; exact .inl e
  fn := fun a e => .inl e
  ff := fun a e => e
  dom := fun a e => by
    by_cases q : a = p
    · subst q; exact absurd n e
    · rw [upd_ne q]; exact e
/-- a new object that may change -/
theorem Step.alloc {G F H p o} (n : H p = none) : Step G F H G F (upd H p o) where
  g := Same.refl G
  h := fun a u _ e => by rw [upd_ne (ne_of_none e n)]; exact e
  gn := fun a u e => .inl e
  fn := fun a e => .inl e
  ff := fun a e => e
  dom := fun a e => by
    by_cases q : a = p
    · subst q; exact absurd n e
    · rw [upd_ne q]; exact e
section
variable {S : Sto} {K : PySem.W.Frag} {t : S.T} {G G' H H' : Hp} {F : Addr → Prop} {p : Addr} {o : HO}
theorem Ok.new (k : Ok S K t G F H) (n : H p = none) : Ok S K t (upd G p o) F (upd H p o) where
  same := fun a u e => by
    by_cases q : a = p
    · subst q; rw [upd_same] at e ⊢; exact e
    · rw [upd_ne q] at e ⊢; exact k.same a u e
  gf := fun a e => by
    have : a ≠ p := fun z => by subst z; exact k.fh _ e n
    rw [upd_ne this]; exact k.gf a e
  fh := fun a e => by
    have : a ≠ p := fun z => by subst z; exact k.fh _ e n
    rw [upd_ne this]; exact k.fh a e
  r := S.st k.r (Step.new (F := F) (o := o) n k.same k.fh).g fun a e => by
    have : a ≠ p := fun z => by subst z; exact k.fh _ e n
    rw [upd_ne this]
theorem Ok.alloc (k : Ok S K t G F H) (n : H p = none) : Ok S K t G F (upd H p o) where
  same := fun a u e => by rw [upd_ne (ne_of_none (k.same a u e) n)]; exact k.same a u e
  gf := k.gf
  fh := fun a e => by
    have : a ≠ p := fun z => by subst z; exact k.fh _ e n
    rw [upd_ne this]; exact k.fh a e
  r := S.st k.r (Same.refl G) fun a e => by
    have : a ≠ p := fun z => by subst z; exact k.fh _ e n
    rw [upd_ne this]
/-- an object that is neither the store's nor said for ever is changed -/
theorem Ok.mut (k : Ok S K t G F H) (n : G p = none) (nf : ¬ F p) : Ok S K t G F (upd H p o) where
  same := fun a u e => by rw [upd_ne (ne_of_none e n)]; exact k.same a u e
  gf := k.gf
  fh := fun a e => by
    have : a ≠ p := fun z => by subst z; exact nf e
    rw [upd_ne this]; exact k.fh a e
  r := S.st k.r (Same.refl G) fun a e => by
    have : a ≠ p := fun z => by subst z; exact nf e
    rw [upd_ne this]
/-- an object of one's own is said for ever from now on -/
theorem Ok.frz (k : Ok S K t G F H) (e : H p = some o) (n : G p = none) (nf : ¬ F p) : Ok S K t (upd G p o) F H where
  same := fun a u z => by
    by_cases q : a = p
    · subst q; rw [upd_same] at z; cases z; exact e
    · rw [upd_ne q] at z; exact k.same a u z
  gf := fun a z => by
    have : a ≠ p := fun z' => by subst z'; exact nf z
    rw [upd_ne this]; exact k.gf a z
  fh := k.fh
  r := S.st k.r (fun a u z => by rw [upd_ne (ne_of_none z n)]; exact z) fun a _ => rfl
end

/-! ### what slots and results hold -/
inductive SV where
  /-- nothing that is known -/
  | no
  /-- data -/
  | d (x : D)
  /-- a list of one's own -/
  | ol (xs : List D)
  /-- a list of one's own, looked at -/
  | vw (xs : List D)
  /-- a value as it is -/
  | raw (v : V)
/-- a list that is read -/
def SV.lst? : SV → Option (List D)
  | .d (.list xs) => some xs
  | .ol xs => some xs
  | .vw xs => some xs
  | _ => none

/-- a list of one's own at p: neither said for ever, nor the store's -/
structure Own (K : PySem.W.Frag) (H0 G : Hp) (F : Addr → Prop) (H : Hp) (p : Addr) (xs : List D) : Prop where
  at' : ∃ vs, H p = some (.lst vs) ∧ RpAll K G vs xs
  g : G p = none
  f : ¬ F p
  new : H0 p = none
theorem Own.step {K : PySem.W.Frag} {H0 G F H G' F' H' p xs} (o : Own K H0 G F H p xs) (s : Step G F H G' F' H') : Own K H0 G' F' H' p xs := by
  obtain ⟨⟨vs, e, a⟩, g, f, n⟩ := o
  refine ⟨⟨vs, s.h p _ f e, a.mono s.g⟩, ?_, fun z => ?_, n⟩
  · cases q : G' p with
    | none => rfl
    | some u =>
      rcases s.gn p u q with z | z
      · rw [g] at z; cases z
      · rw [e] at z; cases z
  · rcases s.fn p z with z | z
    · exact f z
    · rw [e] at z; cases z

/-- a slot -/
def SvR (K : PySem.W.Frag) (H0 G : Hp) (F : Addr → Prop) (H : Hp) : SV → Option V → Prop
  | .no, _ => True
  | .d x, o => ∃ v, o = some v ∧ Rp K G v x
  | .ol xs, o => ∃ p, o = some (.ref p) ∧ Own K H0 G F H p xs
  | .vw _, _ => False
  | .raw v, o => o = some v
theorem SvR.step {K : PySem.W.Frag} {H0 G F H G' F' H' o} (st : Step G F H G' F' H') : ∀ {s : SV}, SvR K H0 G F H s o → SvR K H0 G' F' H' s o
  | .no, _ => trivial
  | .d _, ⟨v, e, r⟩ => ⟨v, e, r.mono st.g⟩
  | .ol _, ⟨p, e, w⟩ => ⟨p, e, w.step st⟩
  | .vw _, h => h.elim
  | .raw _, h => h
structure EnvR (K : PySem.W.Frag) (H0 G : Hp) (F : Addr → Prop) (H : Hp) (σ : L2.St) (env : List SV) : Prop where
  len : σ.length = env.length
  at' : ∀ (i : Nat) (s : SV), env[i]? = some s → SvR K H0 G F H s (σ[i]?.join)
  sep : ∀ (i j : Nat) (xs ys : List D), i ≠ j → env[i]? = some (.ol xs) → env[j]? = some (.ol ys) → σ[i]?.join ≠ σ[j]?.join
theorem EnvR.step {K : PySem.W.Frag} {H0 G F H G' F' H' σ env} (e : EnvR K H0 G F H σ env) (st : Step G F H G' F' H') : EnvR K H0 G' F' H' σ env :=
  ⟨e.len, fun i s h => (e.at' i s h).step st, e.sep⟩

/-- a result: H is the heap ahead -/
def Res (K : PySem.W.Frag) (Ha G : Hp) (F : Addr → Prop) (H : Hp) : SV → V → Prop
  | .no, _ => False
  | .d x, v => Rp K G v x
  | .ol xs, v => ∃ p, v = .ref p ∧ Own K Ha G F H p xs
  | .vw xs, v => ∃ p vs, v = .ref p ∧ H p = some (.lst vs) ∧ RpAll K G vs xs ∧ ¬ F p
  | .raw u, v => v = u
theorem Res.step {K : PySem.W.Frag} {Ha G F H G' F' H' v} (st : Step G F H G' F' H') : ∀ {s : SV}, Res K Ha G F H s v → Res K Ha G' F' H' s v
  | .no, h => h.elim
  | .d _, r => r.mono st.g
  | .ol _, ⟨p, e, w⟩ => ⟨p, e, w.step st⟩
  | .vw _, ⟨p, vs, e, e2, a, nf⟩ => ⟨p, vs, e, st.h p _ nf e2, a.mono st.g, fun z => by
      rcases st.fn p z with z | z
      · exact nf z
      · rw [e2] at z; cases z⟩
  | .raw _, h => h
/-- the heap ahead may be an earlier one -/
theorem Res.back {K : PySem.W.Frag} {Ha Hb G F H v} (b : ∀ a, Ha a = none → Hb a = none) : ∀ {s : SV}, Res K Ha G F H s v → Res K Hb G F H s v
  | .no, h => h.elim
  | .d _, r => r
  | .ol _, ⟨p, e, w⟩ => ⟨p, e, w.at', w.g, w.f, b p w.new⟩
  | .vw _, r => r
  | .raw _, h => h
/-- what is read as a list -/
theorem Res.sql {K : PySem.W.Frag} {Ha G F H v} (sm : Same G H) : ∀ {s : SV} {xs : List D}, Res K Ha G F H s v → s.lst? = some xs → ∃ p vs, v = .ref p ∧ SqP K H p vs ∧ RpAll K G vs xs
  | .d (.list _), _, .lst h a, e => by cases e; exact ⟨_, _, rfl, same_sqp sm h, a⟩
  | .ol _, _, ⟨p, e, w⟩, z => by
    cases z
    obtain ⟨vs, e2, a⟩ := w.at'
    exact ⟨p, vs, e, .inl (.inl e2), a⟩
  | .vw _, _, ⟨p, vs, e, e2, a, _⟩, z => by cases z; exact ⟨p, vs, e, .inl (.inl e2), a⟩
  | .no, _, h, _ => h.elim
  | .raw _, _, _, z => by cases z
  | .d .none, _, _, z => by cases z
  | .d (.bool _), _, _, z => by cases z
  | .d (.int _), _, _, z => by cases z
  | .d (.str _), _, _, z => by cases z
  | .d (.tuple _), _, _, z => by cases z
  | .d (.dict _), _, _, z => by cases z

/-! ### where a def stands -/
structure Bk where
  S : Sto
  K : PySem.W.Frag
  G : Hp
  F : Addr → Prop
  H : Hp
abbrev Bk.T (B : Bk) := B.S.T
structure StR (B : Bk) (G : Hp) (F : Addr → Prop) (σ : L2.St) (H : Hp) (env : List SV) (τ : B.T) : Prop where
  s : Step B.G B.F B.H G F H
  k : Ok B.S B.K τ G F H
  e : EnvR B.K B.H G F H σ env
theorem StR.step {B : Bk} {G F σ H env τ G' F' H' τ'} (s : StR B G F σ H env τ) (st : Step G F H G' F' H') (k : Ok B.S B.K τ' G' F' H') : StR B G' F' σ H' env τ' :=
  ⟨s.s.trans st, k, s.e.step st⟩

/-- readings by data -/
abbrev W (T : Type) := List SV → T → (SV → T → Prop) → Prop
abbrev WT (T : Type) := List SV → T → (Bool → T → Prop) → Prop
abbrev WA (T : Type) := List SV → T → (List SV → T → Prop) → Prop

structure Fin (B : Bk) (G : Hp) (F : Addr → Prop) (H : Hp) (τ' : B.T) (G' : Hp) (F' : Addr → Prop) (H' : Hp) : Prop where
  s : Step G F H G' F' H'
  k : Ok B.S B.K τ' G' F' H'
theorem Fin.trans {B : Bk} {G F H τ1 G1 F1 H1 τ2 G2 F2 H2} (a : Fin B G F H τ1 G1 F1 H1) (b : Fin B G1 F1 H1 τ2 G2 F2 H2) : Fin B G F H τ2 G2 F2 H2 := ⟨a.s.trans b.s, b.k⟩
theorem StR.fin {B : Bk} {G F σ H env τ G' F' H' τ'} (s : StR B G F σ H env τ) (f : Fin B G F H τ' G' F' H') : StR B G' F' σ H' env τ' := s.step f.s f.k
theorem StR.refl {B : Bk} {G F σ H env τ} (s : StR B G F σ H env τ) : Fin B G F H τ G F H := ⟨Step.refl _ _ _, s.k⟩

def lift (B : Bk) (t : W B.T) : TE := fun σ H Q => ∃ G F env τ Qd, StR B G F σ H env τ ∧ t env τ Qd ∧
  ∀ r τ' G' F' H' v, Fin B G F H τ' G' F' H' → Res B.K H G' F' H' r v → Qd r τ' → Q v H'
def liftT (B : Bk) (t : WT B.T) : TT := fun σ H Q => ∃ G F env τ Qd, StR B G F σ H env τ ∧ t env τ Qd ∧
  ∀ b τ' G' F' H', Fin B G F H τ' G' F' H' → Qd b τ' → Q b H'
/-- each of several results -/
inductive ResAll (K : PySem.W.Frag) (Ha G : Hp) (F : Addr → Prop) (H : Hp) : List SV → List V → Prop
  | nil : ResAll K Ha G F H [] []
  | cons {r : SV} {rs : List SV} {v : V} {vs : List V} : Res K Ha G F H r v → ResAll K Ha G F H rs vs → ResAll K Ha G F H (r :: rs) (v :: vs)
theorem ResAll.back {K : PySem.W.Frag} {Ha Hb G F H} (b : ∀ a, Ha a = none → Hb a = none) : ∀ {rs : List SV} {vs : List V}, ResAll K Ha G F H rs vs → ResAll K Hb G F H rs vs
  | _, _, .nil => .nil
  | _, _, .cons r t => .cons (r.back b) (t.back b)
theorem ResAll.length {K : PySem.W.Frag} {Ha G F H} : ∀ {rs : List SV} {vs : List V}, ResAll K Ha G F H rs vs → rs.length = vs.length
  | _, _, .nil => rfl
  | _, _, .cons _ t => congrArg Nat.succ t.length
def liftA (B : Bk) (t : WA B.T) : TA := fun σ H Q => ∃ G F env τ Qd, StR B G F σ H env τ ∧ t env τ Qd ∧
  ∀ rs τ' G' F' H' vs, Fin B G F H τ' G' F' H' → ResAll B.K H G' F' H' rs vs → Qd rs τ' → Q vs H'

theorem dead {H H' : Hp} (d : ∀ a, H a ≠ none → H' a ≠ none) (a : Addr) (n : H' a = none) : H a = none :=
  Classical.byContradiction fun q => d a q n

section
variable {X : Cx} {e : Expr} {t t' : TE}
theorem pe_imp (h : PE X e t) (i : ∀ σ H Q, t' σ H Q → t σ H Q) : PE X e t' := ⟨fun pins s σ H Q I z => h.run pins s σ H Q I (i σ H Q z)⟩
theorem pt_imp {t t' : TT} (h : PT X e t) (i : ∀ σ H Q, t' σ H Q → t σ H Q) : PT X e t' := ⟨fun pins s σ H Q I z => h.run pins s σ H Q I (i σ H Q z)⟩
theorem pa_imp {es : List Expr} {t t' : TA} (h : PA X es t) (i : ∀ σ H Q, t' σ H Q → t σ H Q) : PA X es t' := ⟨fun pos pins s σ H Q I z => h.run pos pins s σ H Q I (i σ H Q z)⟩
theorem ps_imp {st : Stmt} {t t' : TS} (h : PS X st t) (i : ∀ D σ H, t' D σ H → t D σ H) : PS X st t' := ⟨fun pins s σ H D I z => h.run pins s σ H D I (i D σ H z)⟩
theorem pss_imp {st : List Stmt} {t t' : TS} (h : PSs X st t) (i : ∀ D σ H, t' D σ H → t D σ H) : PSs X st t' := ⟨fun pins s σ H D I z => h.run pins s σ H D I (i D σ H z)⟩
end

/-! ### names, constants -/
section
variable {X : Cx} {B : Bk} {e : Expr}
/-- the name in slot i -/
def dVar {T : Type} (i : Nat) : W T := fun env τ Q => match env[i]? with
  | some (.d x) => Q (.d x) τ
  | some (.ol xs) => Q (.vw xs) τ
  | some (.raw v) => Q (.raw v) τ
  | _ => False
theorem de_var {i : Nat} (h : PE X e (tVar i)) : PE X e (lift B (dVar i)) := by
  refine pe_imp h fun σ H Q ⟨G, F, env, τ, Qd, s, t, k⟩ => ?_
  unfold dVar at t
  cases q : env[i]? with
  | none => rw [q] at t; exact t.elim
  | some sv =>
    rw [q] at t
    have r := s.e.at' i sv q
    cases sv with
    | no => exact t.elim
    | vw _ => exact t.elim
    | d x =>
      obtain ⟨v, e1, r⟩ := r
      have e2 : σ[i]? = some (some v) := by
        cases z : σ[i]? with
        | none => rw [z] at e1; cases e1
        | some o => rw [z] at e1; exact congrArg some e1
      exact ⟨v, e2, k (.d x) _ _ _ _ _ s.refl r t⟩
    | ol xs =>
      obtain ⟨p, e1, w⟩ := r
      have e2 : σ[i]? = some (some (.ref p)) := by
        cases z : σ[i]? with
        | none => rw [z] at e1; cases e1
        | some o => rw [z] at e1; exact congrArg some e1
      obtain ⟨vs, h1, h2⟩ := w.at'
      exact ⟨_, e2, k (.vw xs) _ _ _ _ _ s.refl ⟨p, vs, rfl, h1, h2, w.f⟩ t⟩
    | raw v =>
      have e1 : σ[i]?.join = some v := r
      have e2 : σ[i]? = some (some v) := by
        cases z : σ[i]? with
        | none => rw [z] at e1; cases e1
        | some o => rw [z] at e1; exact congrArg some e1
      exact ⟨v, e2, k (.raw v) _ _ _ _ _ s.refl rfl t⟩
/-- what is always the same data -/
def dC {T : Type} (x : D) : W T := fun _ τ Q => Q (.d x) τ
theorem de_c {v : V} {x : D} (h : PE X e (tC v)) (r : ∀ G, Rp B.K G v x) : PE X e (lift B (dC x)) :=
  pe_imp h fun σ H Q ⟨G, F, env, τ, Qd, s, t, k⟩ => k (.d x) _ _ _ _ _ s.refl (r G) t
theorem de_int {i j pos} : PE X (.Constant (.int i) j pos) (lift B (dC (.int i))) := de_c pe_int fun _ => .int i
theorem de_bl {b j pos} : PE X (.Constant (.bool b) j pos) (lift B (dC (.bool b))) := de_c pe_bl fun _ => .bl b
theorem de_non {j pos} : PE X (.Constant .none j pos) (lift B (dC .none)) := de_c pe_non fun _ => .non
theorem de_str {x j pos} : PE X (.Constant (.str x) j pos) (lift B (dC (.str x))) := de_c pe_str fun _ => .str x
def dRaw {T : Type} (v : V) : W T := fun _ τ Q => Q (.raw v) τ
theorem de_raw {v : V} (h : PE X e (tC v)) : PE X e (lift B (dRaw v)) :=
  pe_imp h fun σ H Q ⟨G, F, env, τ, Qd, s, t, k⟩ => k (.raw v) _ _ _ _ _ s.refl rfl t
end
end Z

namespace Z
open PySem L2

/-- what follows a result -/
abbrev FinT (B : Bk) (G : Hp) (F : Addr → Prop) (H : Hp) (τ : B.T) (Qv : SV → Prop) (Q : VK) : Prop := ∀ z G' F' H' v, Fin B G F H τ G' F' H' → Res B.K H G' F' H' z v → Qv z → Q v H'
section
variable {B : Bk} {G : Hp} {F : Addr → Prop} {H : Hp} {τ : B.T} {Qv : SV → Prop} {Q : VK}
theorem Fin.rfl' (k : Ok B.S B.K τ G F H) : Fin B G F H τ G F H := ⟨Step.refl _ _ _, k⟩
theorem FinT.d {v : V} {x : D} (fin : FinT B G F H τ Qv Q) (k : Ok B.S B.K τ G F H) (r : Rp B.K G v x) (h : Qv (.d x)) : Q v H := fin (.d x) G F H v (.rfl' k) r h
/-- a new list: one's own -/
theorem new_lst {p : Addr} {vs : List V} {xs : List D} (k : Ok B.S B.K τ G F H) (n : H p = none) (a : RpAll B.K G vs xs) : Fin B G F H τ G F (upd H p (.lst vs)) ∧ Res B.K H G F (upd H p (.lst vs)) (.ol xs) (.ref p) := by
  refine ⟨⟨Step.alloc n, k.alloc n⟩, p, rfl, ⟨vs, upd_same, a⟩, ?_, fun z => k.fh p z n, n⟩
  cases q : G p with
  | none => rfl
  | some u => rw [k.same _ _ q] at n; cases n
/-- a new tuple: said for ever -/
theorem new_tup {p : Addr} {vs : List V} {xs : List D} (k : Ok B.S B.K τ G F H) (n : H p = none) (a : RpAll B.K G vs xs) :
    Fin B G F H τ (upd G p (.tup vs)) F (upd H p (.tup vs)) ∧ Res B.K H (upd G p (.tup vs)) F (upd H p (.tup vs)) (.d (.tuple xs)) (.ref p) := by
  have st := Step.new (o := .tup vs) n k.same k.fh
  exact ⟨⟨st, k.new n⟩, Rp.tup (SqT.of upd_same) (a.mono st.g)⟩
theorem FinT.ol {p : Addr} {vs : List V} {xs : List D} (fin : FinT B G F H τ Qv Q) (k : Ok B.S B.K τ G F H) (n : H p = none) (a : RpAll B.K G vs xs) (h : Qv (.ol xs)) : Q (.ref p) (upd H p (.lst vs)) :=
  fin _ _ _ _ _ (new_lst k n a).1 (new_lst k n a).2 h
theorem FinT.tup {p : Addr} {vs : List V} {xs : List D} (fin : FinT B G F H τ Qv Q) (k : Ok B.S B.K τ G F H) (n : H p = none) (a : RpAll B.K G vs xs) (h : Qv (.d (.tuple xs))) : Q (.ref p) (upd H p (.tup vs)) :=
  fin _ _ _ _ _ (new_tup k n a).1 (new_tup k n a).2 h
end
/-! ### operations by values -/
def OpD (B : Bk) (r : R2) (g : SV → SV → (SV → Prop) → Prop) : Prop :=
  ∀ (x y : SV) (vx vy : V) (Ha Hb G : Hp) (F : Addr → Prop) (H : Hp) (τ : B.T) (Qv : SV → Prop) (Q : VK), Ok B.S B.K τ G F H → Res B.K Ha G F H x vx → Res B.K Hb G F H y vy → g x y Qv →
    FinT B G F H τ Qv Q → r vx vy H Q
def dOp {T : Type} (g : SV → SV → (SV → Prop) → Prop) (ta tb : W T) : W T := fun env τ Q => ta env τ fun x τ1 => tb env τ1 fun y τ2 => g x y fun z => Q z τ2
theorem OpD.or {B : Bk} {r r' : R2} {g g' : SV → SV → (SV → Prop) → Prop} (a : OpD B r g) (b : OpD B r' g') : OpD B (fun x y H Q => r x y H Q ∨ r' x y H Q) (fun x y Q => g x y Q ∨ g' x y Q) :=
  fun x y vx vy Ha Hb G F H τ Qv Q k rx ry h q => h.elim (fun h => .inl (a x y vx vy Ha Hb G F H τ Qv Q k rx ry h q)) fun h => .inr (b x y vx vy Ha Hb G F H τ Qv Q k rx ry h q)
theorem OpD.imp {B : Bk} {r : R2} {g g' : SV → SV → (SV → Prop) → Prop} (a : OpD B r g) (i : ∀ x y Q, g' x y Q → g x y Q) : OpD B r g' :=
  fun x y vx vy Ha Hb G F H τ Qv Q k rx ry h q => a x y vx vy Ha Hb G F H τ Qv Q k rx ry (i _ _ _ h) q

section
variable {X : Cx} {B : Bk} {a b c : Expr} {pos : Pos} {ta tb tc : W B.T} {r r' : R2} {g g' : SV → SV → (SV → Prop) → Prop}
theorem lift_op (hd : OpD B r g) : ∀ σ H Q, lift B (dOp g ta tb) σ H Q → tOp r (lift B ta) (lift B tb) σ H Q := fun σ H Q ⟨G, F, env, τ, Qd, s, t, k⟩ =>
  ⟨G, F, env, τ, _, s, t, fun x τ1 G1 F1 H1 vx f1 r1 q1 => ⟨G1, F1, env, τ1, _, s.fin f1, q1, fun y τ2 G2 F2 H2 vy f2 r2 q2 =>
    hd x y vx vy _ _ G2 F2 H2 τ2 _ _ f2.k (r1.step f2.s) r2 q2 fun z G3 F3 H3 v f3 r3 q3 => k z τ2 G3 F3 H3 v (f1.trans (f2.trans f3)) (r3.back (dead (f1.trans f2).s.dom)) q3⟩⟩
theorem de_op {op : Operator} (ho : OpR X (binaryOp op) r) (hd : OpD B r g) (ha : PE X a (lift B ta)) (hb : PE X b (lift B tb)) : PE X (.BinOp a op b pos) (lift B (dOp g ta tb)) :=
  pe_imp (pe_op ho ha hb) (lift_op hd)
theorem de_cmp {op : CmpOp} (ho : OpR X (compareOp op) r) (hd : OpD B r g) (ha : PE X a (lift B ta)) (hb : PE X b (lift B tb)) (hm : behindInMarks op b = false) : PE X (.Compare a [op] [b] pos) (lift B (dOp g ta tb)) :=
  pe_imp (pe_cmpR ho ha hb hm) (lift_op hd)
/-- a truth value as a test -/
def dT {T : Type} (t : W T) : WT T := fun env τ Q => t env τ fun x τ1 => ∃ b, x = .d (.bool b) ∧ Q b τ1
theorem rbl {K : PySem.W.Frag} {Ha G F H v k} (h : Res K Ha G F H (.d (.bool k)) v) : v = .bl k := by
  have h : Rp K G v (.bool k) := h
  cases h
  rfl
theorem rint {K : PySem.W.Frag} {Ha G F H v k} (h : Res K Ha G F H (.d (.int k)) v) : v = .int k := by
  have h : Rp K G v (.int k) := h
  cases h
  rfl
theorem rstr {K : PySem.W.Frag} {Ha G F H v k} (h : Res K Ha G F H (.d (.str k)) v) : v = .str k := by
  have h : Rp K G v (.str k) := h
  cases h
  rfl
theorem rnon {K : PySem.W.Frag} {Ha G F H v} (h : Res K Ha G F H (.d .none) v) : v = .non := by
  have h : Rp K G v .none := h
  cases h
  rfl
theorem rtup {K : PySem.W.Frag} {Ha G F H v xs} (h : Res K Ha G F H (.d (.tuple xs)) v) : ∃ p vs, v = .ref p ∧ SqT K G p vs ∧ RpAll K G vs xs := by
  have h : Rp K G v (.tuple xs) := h
  cases h with
  | tup h1 a => exact ⟨_, _, rfl, h1, a⟩
theorem lift_tst {te : TE} (i : ∀ σ H Q, lift B ta σ H Q → te σ H Q) : ∀ σ H Q, liftT B (dT ta) σ H Q → tTest te σ H Q := fun σ H Q ⟨G, F, env, τ, Qd, s, t, k⟩ =>
  i _ _ _ ⟨G, F, env, τ, _, s, t, fun x τ1 G1 F1 H1 vx f1 r1 ⟨b, e, q⟩ => by
    subst e
    exact ⟨b, rbl r1, k b τ1 G1 F1 H1 f1 q⟩⟩
theorem dt_cmp {op : CmpOp} (ho : OpR X (compareOp op) r) (hd : OpD B r g) (ha : PE X a (lift B ta)) (hb : PE X b (lift B tb)) (hm : behindInMarks op b = false) : PT X (.Compare a [op] [b] pos) (liftT B (dT (dOp g ta tb))) :=
  pt_imp (pt_cmpR ho ha hb hm) (lift_tst (lift_op hd))
/-- a < b < c -/
def dChain {T : Type} (g g' : SV → SV → (SV → Prop) → Prop) (ta tb tc : W T) : W T := fun env τ Q => ta env τ fun x τ1 => tb env τ1 fun y τ2 => g x y fun z => ∃ k, z = .d (.bool k) ∧
  (if k = true then tc env τ2 fun w τ3 => g' y w fun u => Q u τ3 else Q (.d (.bool false)) τ2)
theorem lift_chain (hd : OpD B r g) (hd' : OpD B r' g') : ∀ σ H Q, lift B (dChain g g' ta tb tc) σ H Q → tChain r r' (lift B ta) (lift B tb) (lift B tc) σ H Q := fun σ H Q ⟨G, F, env, τ, Qd, s, t, k⟩ =>
  ⟨G, F, env, τ, _, s, t, fun x τ1 G1 F1 H1 vx f1 r1 q1 => ⟨G1, F1, env, τ1, _, s.fin f1, q1, fun y τ2 G2 F2 H2 vy f2 r2 q2 =>
    hd x y vx vy _ _ G2 F2 H2 τ2 _ _ f2.k (r1.step f2.s) r2 q2 fun z G3 F3 H3 v f3 r3 ⟨b, e, q3⟩ => by
      subst e
      refine ⟨b, rbl r3, ?_⟩
      cases b with
      | false => exact k (.d (.bool false)) τ2 G3 F3 H3 _ (f1.trans (f2.trans f3)) (Rp.bl false) q3
      | true => exact ⟨G3, F3, env, τ2, _, s.fin (f1.trans (f2.trans f3)), q3, fun w τ4 G4 F4 H4 vw f4 r4 q4 =>
          hd' y w vy vw _ _ G4 F4 H4 τ4 _ _ f4.k (r2.step (f3.s.trans f4.s)) r4 q4 fun u G5 F5 H5 v5 f5 r5 q5 =>
            k u τ4 G5 F5 H5 v5 (f1.trans (f2.trans (f3.trans (f4.trans f5)))) (r5.back (dead (f1.trans (f2.trans (f3.trans f4))).s.dom)) q5⟩⟩⟩
theorem de_chain {op op' : CmpOp} (ho : OpR X (compareOp op) r) (hd : OpD B r g) (ho' : OpR X (compareOp op') r') (hd' : OpD B r' g') (ha : PE X a (lift B ta)) (hb : PE X b (lift B tb)) (hc : PE X c (lift B tc))
    (hm : lastMarks [op, op'] [b, c] = false := by with_unfolding_all rfl) : PE X (.Compare a [op, op'] [b, c] pos) (lift B (dChain g g' ta tb tc)) := pe_imp (pe_chain ho ho' ha hb hc hm) (lift_chain hd hd')
theorem dt_chain {op op' : CmpOp} (ho : OpR X (compareOp op) r) (hd : OpD B r g) (ho' : OpR X (compareOp op') r') (hd' : OpD B r' g') (ha : PE X a (lift B ta)) (hb : PE X b (lift B tb)) (hc : PE X c (lift B tc))
    (hm : lastMarks [op, op'] [b, c] = false := by with_unfolding_all rfl) : PT X (.Compare a [op, op'] [b, c] pos) (liftT B (dT (dChain g g' ta tb tc))) := pt_imp (pt_chain ho ho' ha hb hc hm) (lift_tst (lift_chain hd hd'))
end

/-! ### truth, and, or, not, if -/
def SV.truth : SV → Option Bool
  | .d .none => some false
  | .d (.bool b) => some b
  | .d (.int i) => some (i != 0)
  | .d (.str y) => if y.length ≤ sizeLine then some ((y.length : Int) != 0) else none
  | .d (.tuple xs) => some (!xs.isEmpty)
  | .d (.list xs) => some (!xs.isEmpty)
  | .d (.dict _) => none
  | .ol xs => some (!xs.isEmpty)
  | .vw xs => some (!xs.isEmpty)
  | _ => none
theorem isE {K : PySem.W.Frag} {G : Hp} {vs : List V} {xs : List D} (a : RpAll K G vs xs) : (!xs.isEmpty) = !vs.isEmpty := by
  cases a <;> rfl
theorem Res.truth {K : PySem.W.Frag} {Ha G F H v k} (sm : Same G H) : ∀ {x : SV}, Res K Ha G F H x v → x.truth = some k → TruV K v H k
  | .d .none, h, e => by
    cases e
    rw [rnon h]
    rfl
  | .d (.bool b), .bl _, e => by cases e; rfl
  | .d (.int i), .int _, e => by cases e; rfl
  | .d (.str y), .str _, e => by
    have e' : (if y.length ≤ sizeLine then some ((y.length : Int) != 0) else none) = some k := e
    split at e'
    · rename_i h
      cases e'
      exact ⟨h, rfl⟩
    · cases e'
  | .d (.tuple xs), .tup h a, e => by cases e; exact .inr (.inl ⟨_, same_seqT sm h, isE a⟩)
  | .d (.list xs), .lst h a, e => by cases e; exact .inl ⟨_, (same_sqp sm h).sql, isE a⟩
  | .d (.dict _), _, e => by cases e
  | .ol xs, ⟨p, e1, w⟩, e => by
    cases e
    subst e1
    obtain ⟨vs, e2, a⟩ := w.at'
    exact .inl ⟨_, .of e2, isE a⟩
  | .vw xs, ⟨p, vs, e1, e2, a, _⟩, e => by
    cases e
    subst e1
    exact .inl ⟨_, .of e2, isE a⟩
  | .no, h, _ => h.elim
  | .raw _, _, e => by cases e
section
variable {X : Cx} {B : Bk} {a b c : Expr} {pos : Pos} {ta tb tc : W B.T} {rest : List Expr} {tA tB' : WT B.T}
def dTru {T : Type} (t : W T) : WT T := fun env τ Q => t env τ fun x τ1 => ∃ k, x.truth = some k ∧ Q k τ1
theorem dt_tru (hK : X.K = B.K) (ha : PE X a (lift B ta)) (he : ∀ whole, isTrue a X.env whole = (do let v ← whole; standAt a.pos; holding [v] (truthy v)) := by intro _; rfl) : PT X a (liftT B (dTru ta)) :=
  pt_imp (pt_truth ha he) fun σ H Q ⟨G, F, env, τ, Qd, s, t, k⟩ => ⟨G, F, env, τ, _, s, t, fun x τ1 G1 F1 H1 vx f1 r1 ⟨b, e, q⟩ => ⟨b, by rw [hK]; exact r1.truth f1.k.same e, k b τ1 G1 F1 H1 f1 q⟩⟩
def dAndT {T : Type} (t u : WT T) : WT T := fun env τ Q => t env τ fun c τ1 => if c = true then u env τ1 Q else Q false τ1
def dOrT {T : Type} (t u : WT T) : WT T := fun env τ Q => t env τ fun c τ1 => if c = true then Q true τ1 else u env τ1 Q
def dNotT {T : Type} (t : WT T) : WT T := fun env τ Q => t env τ fun c τ1 => Q (!c) τ1
theorem dw_and1 (ha : PT X a (liftT B tA)) : PW X (.BoolOp .And [a] pos) (liftT B tA) := pw_and1 ha
theorem dw_or1 (ha : PT X a (liftT B tA)) : PW X (.BoolOp .Or [a] pos) (liftT B tA) := pw_or1 ha
theorem pw_imp {e : Expr} {t t' : TT} (h : PW X e t) (i : ∀ σ H Q, t' σ H Q → t σ H Q) : PW X e t' := ⟨fun wh pins s σ H Q I z => h.run wh pins s σ H Q I (i σ H Q z)⟩
theorem dw_and (ha : PT X a (liftT B tA)) (hb : PW X (.BoolOp .And (b :: rest) pos) (liftT B tB')) : PW X (.BoolOp .And (a :: b :: rest) pos) (liftT B (dAndT tA tB')) :=
  pw_imp (pw_and ha hb) fun σ H Q ⟨G, F, env, τ, Qd, s, t, k⟩ => ⟨G, F, env, τ, _, s, t, fun c τ1 G1 F1 H1 f1 q => by
    cases c with
    | true =>
      refine iteT ⟨G1, F1, env, τ1, _, s.fin f1, q, fun d τ2 G2 F2 H2 f2 q2 => k d τ2 G2 F2 H2 (f1.trans f2) q2⟩
    | false => exact iteF (k false τ1 G1 F1 H1 f1 q)⟩
theorem dw_or (ha : PT X a (liftT B tA)) (hb : PW X (.BoolOp .Or (b :: rest) pos) (liftT B tB')) : PW X (.BoolOp .Or (a :: b :: rest) pos) (liftT B (dOrT tA tB')) :=
  pw_imp (pw_or ha hb) fun σ H Q ⟨G, F, env, τ, Qd, s, t, k⟩ => ⟨G, F, env, τ, _, s, t, fun c τ1 G1 F1 H1 f1 q => by
    cases c with
    | false =>
      refine iteF ⟨G1, F1, env, τ1, _, s.fin f1, q, fun d τ2 G2 F2 H2 f2 q2 => k d τ2 G2 F2 H2 (f1.trans f2) q2⟩
    | true => exact iteT (k true τ1 G1 F1 H1 f1 q)⟩
theorem dt_w (h : PW X a (liftT B tA)) : PT X a (liftT B tA) := h.pt
theorem dt_not (ha : PT X a (liftT B tA)) : PT X (.UnaryOp .Not a pos) (liftT B (dNotT tA)) :=
  pt_imp (pt_not ha) fun σ H Q ⟨G, F, env, τ, Qd, s, t, k⟩ => ⟨G, F, env, τ, _, s, t, fun c τ1 G1 F1 H1 f1 q => k (!c) τ1 G1 F1 H1 f1 q⟩
/-- as values -/
def dAnd {T : Type} (ta tb : W T) : W T := fun env τ Q => ta env τ fun x τ1 => ∃ k, x.truth = some k ∧ if k = true then tb env τ1 Q else Q x τ1
def dOr {T : Type} (ta tb : W T) : W T := fun env τ Q => ta env τ fun x τ1 => ∃ k, x.truth = some k ∧ if k = true then Q x τ1 else tb env τ1 Q
def dNot {T : Type} (ta : W T) : W T := fun env τ Q => ta env τ fun x τ1 => ∃ k, x.truth = some k ∧ Q (.d (.bool (!k))) τ1
def dIf {T : Type} (t : WT T) (ta tb : W T) : W T := fun env τ Q => t env τ fun c τ1 => if c = true then ta env τ1 Q else tb env τ1 Q
theorem de_one {op} (h : PE X a (lift B ta)) : PE X (.BoolOp op [a] pos) (lift B ta) := pe_one h
theorem de_and (hK : X.K = B.K) (ha : PE X a (lift B ta)) (hb : PE X (.BoolOp .And (b :: rest) pos) (lift B tb)) : PE X (.BoolOp .And (a :: b :: rest) pos) (lift B (dAnd ta tb)) :=
  pe_imp (pe_andT ha hb) fun σ H Q ⟨G, F, env, τ, Qd, s, t, k⟩ => ⟨G, F, env, τ, _, s, t, fun x τ1 G1 F1 H1 vx f1 r1 ⟨c, e, q⟩ => ⟨c, by rw [hK]; exact r1.truth f1.k.same e, by
    cases c with
    | true => exact iteT ⟨G1, F1, env, τ1, _, s.fin f1, q, fun y τ2 G2 F2 H2 v f2 r2 q2 => k y τ2 G2 F2 H2 v (f1.trans f2) (r2.back (dead f1.s.dom)) q2⟩
    | false => exact iteF (k x τ1 G1 F1 H1 vx f1 r1 q)⟩⟩
theorem de_or (hK : X.K = B.K) (ha : PE X a (lift B ta)) (hb : PE X (.BoolOp .Or (b :: rest) pos) (lift B tb)) : PE X (.BoolOp .Or (a :: b :: rest) pos) (lift B (dOr ta tb)) :=
  pe_imp (pe_orT ha hb) fun σ H Q ⟨G, F, env, τ, Qd, s, t, k⟩ => ⟨G, F, env, τ, _, s, t, fun x τ1 G1 F1 H1 vx f1 r1 ⟨c, e, q⟩ => ⟨c, by rw [hK]; exact r1.truth f1.k.same e, by
    cases c with
    | false => exact iteF ⟨G1, F1, env, τ1, _, s.fin f1, q, fun y τ2 G2 F2 H2 v f2 r2 q2 => k y τ2 G2 F2 H2 v (f1.trans f2) (r2.back (dead f1.s.dom)) q2⟩
    | true => exact iteT (k x τ1 G1 F1 H1 vx f1 r1 q)⟩⟩
theorem de_not (hK : X.K = B.K) (ha : PE X a (lift B ta)) : PE X (.UnaryOp .Not a pos) (lift B (dNot ta)) :=
  pe_imp (pe_notT ha) fun σ H Q ⟨G, F, env, τ, Qd, s, t, k⟩ => ⟨G, F, env, τ, _, s, t, fun x τ1 G1 F1 H1 vx f1 r1 ⟨c, e, q⟩ => ⟨c, by rw [hK]; exact r1.truth f1.k.same e, k (.d (.bool (!c))) τ1 G1 F1 H1 _ f1 (Rp.bl (!c)) q⟩⟩
theorem de_if (hc : PT X c (liftT B tA)) (ha : PE X a (lift B ta)) (hb : PE X b (lift B tb)) : PE X (.IfExp c a b pos) (lift B (dIf tA ta tb)) :=
  pe_imp (pe_ifExp hc ha hb) fun σ H Q ⟨G, F, env, τ, Qd, s, t, k⟩ => ⟨G, F, env, τ, _, s, t, fun c τ1 G1 F1 H1 f1 q => by
    cases c with
    | true => exact iteT ⟨G1, F1, env, τ1, _, s.fin f1, q, fun y τ2 G2 F2 H2 v f2 r2 q2 => k y τ2 G2 F2 H2 v (f1.trans f2) (r2.back (dead f1.s.dom)) q2⟩
    | false => exact iteF ⟨G1, F1, env, τ1, _, s.fin f1, q, fun y τ2 G2 F2 H2 v f2 r2 q2 => k y τ2 G2 F2 H2 v (f1.trans f2) (r2.back (dead f1.s.dom)) q2⟩⟩
end

/-! ### ints -/
def gI (C : Int → Int → Prop) (f : Int → Int → D) (x y : SV) (Q : SV → Prop) : Prop := ∃ i j, x = .d (.int i) ∧ y = .d (.int j) ∧ C i j ∧ Q (.d (f i j))
def noC (_ _ : Int) : Prop := True
section
variable {X : Cx} {B : Bk}
theorem od_I {C : Int → Int → Prop} {f : Int → Int → Int} : OpD B (rI C fun i j => .int (f i j)) (gI C fun i j => .int (f i j)) := fun x y vx vy Ha Hb G F H τ Qv Q k rx ry ⟨i, j, e1, e2, hc, q⟩ fin => by
  subst e1 e2
  exact ⟨i, j, rint rx, rint ry, hc, fin.d k (Rp.int _) q⟩
theorem od_I0 {f : Int → Int → Int} : OpD B (rI0 fun i j => .int (f i j)) (gI noC fun i j => .int (f i j)) := fun x y vx vy Ha Hb G F H τ Qv Q k rx ry ⟨i, j, e1, e2, hc, q⟩ fin => by
  subst e1 e2
  exact ⟨i, j, rint rx, rint ry, fin.d k (Rp.int _) q⟩
theorem od_B0 {f : Int → Int → Bool} : OpD B (rI0 fun i j => .bl (f i j)) (gI noC fun i j => .bool (f i j)) := fun x y vx vy Ha Hb G F H τ Qv Q k rx ry ⟨i, j, e1, e2, hc, q⟩ fin => by
  subst e1 e2
  exact ⟨i, j, rint rx, rint ry, fin.d k (Rp.bl _) q⟩
end

/-! ### + -/
section
variable {X : Cx} {B : Bk}
/-- list + list, of any lists that are read -/
def rCatL (K : PySem.W.Frag) : R2 := fun x y H Q => ∃ l b xs zs, x = .ref l ∧ y = .ref b ∧ SqP K H l xs ∧ SqP K H b zs ∧ xs.length + zs.length ≤ sizeLine ∧ ∀ p, H p = none → Q (.ref p) (upd H p (.lst (xs ++ zs)))
theorem SqP.isL {pins : List (Addr × Obj)} {σ : L2.St} {H : Hp} {s : Shared} {a : Addr} {xs : List V} (I : Inv X pins σ H s) (h : SqP X.K H a xs) :
    ∃ (its : List Value) (n : Nat), Vals xs its ∧ s.heap.get? a = some { cls := .type "list", data := .seq its.toArray n } ∧ xs.length ≤ sizeLine := by
  rcases h with h | ⟨its, h, hz, r⟩
  · obtain ⟨z, its, n, r, e⟩ := h.ok I.hok
    exact ⟨its, n, r, e, z⟩
  · exact ⟨its, 0, r, I.kIn a _ h, hz⟩
theorem op_catL : OpR X (binaryOp .Add) (rCatL X.K) := by
  intro pins s σ H x y v u Q I rx ry h
  obtain ⟨l, b, xs, zs, rfl, rfl, hH, hB, hz, q⟩ := h
  cases rx
  cases ry
  obtain ⟨its, n, r, e, _⟩ := hH.isL I
  obtain ⟨its2, n2, r2, e2, _⟩ := hB.isL I
  have hl := r.length
  have hl2 := r2.length
  refine PySem.P.add_list e e2 ?_ (by rw [List.size_toArray, List.size_toArray]; omega)
  have ea : its.toArray ++ its2.toArray = (its ++ its2).toArray := by simp
  rw [ea]
  exact ⟨.ref _, _, I.lnew (t' := s.toks) (r.append r2) (by rw [List.length_append]; omega), rfl, q _ I.fresh⟩
/-- + of ints, texts, tuples, lists -/
def rAddA (K : PySem.W.Frag) : R2 := fun x y H Q => (rI0 fun i j => .int (i + j)) x y H Q ∨ (∃ i j, x = .str i ∧ y = .str j ∧ i.length + j.length ≤ sizeLine ∧ Q (.str (i ++ j)) H) ∨ rCatA K x y H Q ∨ rCatL K x y H Q
theorem op_addA : OpR X (binaryOp .Add) (rAddA X.K) := op_add.or (op_add_str.or (op_catA.or op_catL))
def gAdd (x y : SV) (Q : SV → Prop) : Prop := match x, y with
  | .d (.int i), .d (.int j) => Q (.d (.int (i + j)))
  | .d (.str a), .d (.str b) => a.length + b.length ≤ sizeLine ∧ Q (.d (.str (a ++ b)))
  | .d (.tuple a), .d (.tuple b) => a.length + b.length ≤ sizeLine ∧ Q (.d (.tuple (a ++ b)))
  | x, y => ∃ xs ys, x.lst? = some xs ∧ y.lst? = some ys ∧ xs.length + ys.length ≤ sizeLine ∧ Q (.ol (xs ++ ys))
theorem od_add (hK : X.K = B.K) : OpD B (rAddA X.K) gAdd := fun x y vx vy Ha Hb G F H τ Qv Q k rx ry h fin => by
  rw [hK]
  unfold gAdd at h
  split at h
  · exact .inl ⟨_, _, rint rx, rint ry, fin.d k (Rp.int _) h⟩
  · exact .inr (.inl ⟨_, _, rstr rx, rstr ry, h.1, fin.d k (Rp.str _) h.2⟩)
  · obtain ⟨hz, h⟩ := h
    obtain ⟨p, vs, e1, s1, a1⟩ := rtup rx
    obtain ⟨q, ws, e2, s2, a2⟩ := rtup ry
    refine .inr (.inr (.inl ⟨p, q, vs, ws, e1, e2, same_seqT k.same s1, same_seqT k.same s2, by rw [a1.length, a2.length]; exact hz, fun z => ?_, fun z z2 => ?_, fun z z2 p' hp => ?_⟩))
    · subst z
      cases a1
      exact fin.d k (Rp.tup s2 a2) h
    · subst z2
      cases a2
      exact fin.d k (Rp.tup s1 (by rw [List.append_nil]; exact a1)) h
    · exact fin.tup k hp (a1.append a2) h
  · obtain ⟨xs, ys, e1, e2, hz, h⟩ := h
    obtain ⟨p, vs, e3, s1, a1⟩ := rx.sql k.same e1
    obtain ⟨q, ws, e4, s2, a2⟩ := ry.sql k.same e2
    refine .inr (.inr (.inr ⟨p, q, vs, ws, e3, e4, s1, s2, by rw [a1.length, a2.length]; exact hz, fun p' hp => ?_⟩))
    exact fin.ol k hp (a1.append a2) h
end
end Z

namespace Z
open PySem L2

/-! ### an own new list is said for ever -/
section
variable {B : Bk} {G G1 H H1 : Hp} {F F1 : Addr → Prop} {τ : B.T}
theorem Fin.frz {p : Addr} {xs : List D} (f : Fin B G F H τ G1 F1 H1) (o : Own B.K H G1 F1 H1 p xs) : ∃ G2, Fin B G F H τ G2 F1 H1 ∧ Same G1 G2 ∧ Rp B.K G2 (.ref p) (.list xs) := by
  obtain ⟨⟨vs, e, a⟩, g, nf, n⟩ := o
  have sm : Same G1 (upd G1 p (.lst vs)) := fun b u z => by rw [upd_ne (ne_of_none z g)]; exact z
  refine ⟨upd G1 p (.lst vs), ⟨⟨f.s.g.trans sm, f.s.h, fun b u z => ?_, f.s.fn, f.s.ff, f.s.dom⟩, f.k.frz e g nf⟩, sm, Rp.lst (.inl (.inl upd_same)) (a.mono sm)⟩
  by_cases q : b = p
  · subst q; exact .inr n
  · rw [upd_ne q] at z; exact f.s.gn b u z
end

/-! ### arguments -/
def SV.arg : SV → Option SV
  | .ol xs => some (.d (.list xs))
  | .no => none
  | .d x => some (.d x)
  | .vw xs => some (.vw xs)
  | .raw v => some (.raw v)
def SV.dat? : SV → Option D
  | .d x => some x
  | .ol xs => some (.list xs)
  | _ => none
theorem Res.arg {B : Bk} {G H G1 H1 : Hp} {F F1 : Addr → Prop} {τ : B.T} {v : V} (f : Fin B G F H τ G1 F1 H1) : ∀ {r a : SV}, Res B.K H G1 F1 H1 r v → r.arg = some a →
    ∃ G2, Fin B G F H τ G2 F1 H1 ∧ Same G1 G2 ∧ Res B.K H G2 F1 H1 a v
  | .d x, _, r, e => by cases e; exact ⟨_, f, Same.refl _, r⟩
  | .vw x, _, r, e => by cases e; exact ⟨_, f, Same.refl _, r⟩
  | .raw x, _, r, e => by cases e; exact ⟨_, f, Same.refl _, r⟩
  | .no, _, r, _ => r.elim
  | .ol xs, _, ⟨p, e1, o⟩, e => by
    cases e
    subst e1
    obtain ⟨G2, f2, sm, r⟩ := f.frz o
    exact ⟨G2, f2, sm, r⟩
theorem Res.dat {B : Bk} {G H G1 H1 : Hp} {F F1 : Addr → Prop} {τ : B.T} {v : V} (f : Fin B G F H τ G1 F1 H1) : ∀ {r : SV} {x : D}, Res B.K H G1 F1 H1 r v → r.dat? = some x →
    ∃ G2, Fin B G F H τ G2 F1 H1 ∧ Same G1 G2 ∧ Rp B.K G2 v x
  | .d x, _, r, e => by cases e; exact ⟨_, f, Same.refl _, r⟩
  | .vw x, _, r, e => by cases e
  | .raw x, _, r, e => by cases e
  | .no, _, r, _ => r.elim
  | .ol xs, _, ⟨p, e1, o⟩, e => by
    cases e
    subst e1
    exact f.frz o
theorem Res.same {K : PySem.W.Frag} {Ha G G' F H v} (sm : Same G G') (nf : ∀ p, ¬ F p → G p = none → H p ≠ none → Ha p = none → G' p = none) : ∀ {s : SV}, Res K Ha G F H s v → (∀ xs, s ≠ .ol xs) → Res K Ha G' F H s v
  | .no, h, _ => h.elim
  | .d _, r, _ => r.mono sm
  | .ol _, _, n => absurd rfl (n _)
  | .vw _, ⟨p, vs, e, e2, a, nf⟩, _ => ⟨p, vs, e, e2, a.mono sm, nf⟩
  | .raw _, h, _ => h
section
variable {X : Cx} {B : Bk} {e : Expr} {es : List Expr} {pos : Pos} {t : W B.T} {ta : WA B.T}
def dNil {T : Type} : WA T := fun _ τ Q => Q [] τ
def dCons {T : Type} (t : W T) (ta : WA T) : WA T := fun env τ Q => t env τ fun r τ1 => ∃ a, r.arg = some a ∧ ta env τ1 fun rs τ2 => Q (a :: rs) τ2
theorem da_nil : PA X [] (liftA B dNil) := pa_imp pa_nil fun σ H Q ⟨G, F, env, τ, Qd, s, t, k⟩ => k [] τ G F H [] s.refl .nil t
theorem da_cons (he : PE X e (lift B t)) (hr : PA X es (liftA B ta)) (hs : starEach (e :: es) X.env = (false, eval e X.env) :: starEach es X.env := by rfl) : PA X (e :: es) (liftA B (dCons t ta)) :=
  pa_imp (pa_cons he hr hs) fun σ H Q ⟨G, F, env, τ, Qd, s, t, k⟩ => ⟨G, F, env, τ, _, s, t, fun r τ1 G1 F1 H1 v f1 r1 ⟨a, e, q⟩ => by
    obtain ⟨G2, f2, sm, r2⟩ := r1.arg f1 e
    exact ⟨G2, F1, env, τ1, _, s.fin f2, q, fun rs τ2 G3 F3 H3 vs f3 r3 q3 => k (a :: rs) τ2 G3 F3 H3 (v :: vs) (f2.trans f3) (.cons (r2.step f3.s) (r3.back (dead f2.s.dom))) q3⟩⟩
def allD : List SV → Option (List D)
  | [] => some []
  | .d x :: r => (allD r).map (x :: ·)
  | _ :: _ => none
theorem ResAll.allD {K : PySem.W.Frag} {Ha G F H} : ∀ {rs : List SV} {vs : List V} {xs : List D}, ResAll K Ha G F H rs vs → Z.allD rs = some xs → RpAll K G vs xs
  | _, _, _, .nil, e => by cases e; exact .nil
  | .d x :: r, _, _, .cons h t, e => by
    cases q : Z.allD r with
    | none => rw [Z.allD, q] at e; cases e
    | some ys => rw [Z.allD, q] at e; cases e; exact .cons h (t.allD q)
  | .no :: r, _, _, .cons h t, e => by cases e
  | .ol _ :: r, _, _, .cons h t, e => by cases e
  | .vw _ :: r, _, _, .cons h t, e => by cases e
  | .raw _ :: r, _, _, .cons h t, e => by cases e
def dTup {T : Type} (ta : WA T) : W T := fun env τ Q => ta env τ fun rs τ1 => ∃ xs, allD rs = some xs ∧ xs.length ≤ sizeLine ∧ Q (.d (.tuple xs)) τ1
def dLst {T : Type} (ta : WA T) : W T := fun env τ Q => ta env τ fun rs τ1 => ∃ xs, allD rs = some xs ∧ xs.length ≤ sizeLine ∧ Q (.ol xs) τ1
theorem FinT.trans {G G1 H H1 : Hp} {F F1 : Addr → Prop} {τ1 : B.T} {Qv : SV → B.T → Prop} {Q : VK} (k : ∀ r τ' G' F' H' v, Fin B G F H τ' G' F' H' → Res B.K H G' F' H' r v → Qv r τ' → Q v H') (f : Fin B G F H τ1 G1 F1 H1) :
    FinT B G1 F1 H1 τ1 (fun r => Qv r τ1) Q := fun z G' F' H' v f' r q => k z τ1 G' F' H' v (f.trans f') (r.back (dead f.s.dom)) q
theorem de_tup {x1} (h : PA X es (liftA B ta)) : PE X (.Tuple es x1 pos) (lift B (dTup ta)) :=
  pe_imp (pe_tup h) fun σ H Q ⟨G, F, env, τ, Qd, s, t, k⟩ => ⟨G, F, env, τ, _, s, t, fun rs τ1 G1 F1 H1 vs f1 r1 ⟨xs, e, z, q⟩ => by
    have a := r1.allD e
    exact ⟨by rw [a.length]; exact z, fun p hp => (FinT.trans k f1).tup f1.k hp a q⟩⟩
theorem de_lst (h : PA X es (liftA B ta)) : PE X (.List es pos) (lift B (dLst ta)) :=
  pe_imp (pe_lst h) fun σ H Q ⟨G, F, env, τ, Qd, s, t, k⟩ => ⟨G, F, env, τ, _, s, t, fun rs τ1 G1 F1 H1 vs f1 r1 ⟨xs, e, z, q⟩ => by
    have a := r1.allD e
    exact ⟨by rw [a.length]; exact z, fun p hp => (FinT.trans k f1).ol f1.k hp a q⟩⟩
end

/-! ### calls of built-ins, by values -/
def CallD (B : Bk) (r : List V → Hp → VK → Prop) (g : List SV → (SV → Prop) → Prop) : Prop :=
  ∀ (rs : List SV) (vs : List V) (Ha G : Hp) (F : Addr → Prop) (H : Hp) (τ : B.T) (Qv : SV → Prop) (Q : VK), Ok B.S B.K τ G F H → ResAll B.K Ha G F H rs vs → g rs Qv → FinT B G F H τ Qv Q → r vs H Q
def dCB {T : Type} (g : List SV → (SV → Prop) → Prop) (ta : WA T) : W T := fun env τ Q => ta env τ fun rs τ1 => g rs fun z => Q z τ1
section
variable {X : Cx} {B : Bk} {e : Expr} {es : List Expr} {pos p : Pos} {t : W B.T} {ta : WA B.T} {r : List V → Hp → VK → Prop} {g : List SV → (SV → Prop) → Prop} {x : Str} {id T : String}
theorem lift_cb (hd : CallD B r g) : ∀ σ H Q, lift B (dCB g ta) σ H Q → tCB r (liftA B ta) σ H Q := fun σ H Q ⟨G, F, env, τ, Qd, s, t, k⟩ =>
  ⟨G, F, env, τ, _, s, t, fun rs τ1 G1 F1 H1 vs f1 r1 q1 => hd rs vs _ G1 F1 H1 τ1 _ _ f1.k r1 q1 (FinT.trans k f1)⟩
theorem de_callB (hc : CallR X (.builtin id) r) (hd : CallD B r g) (hg : Gl X x) (hm : X.mg x = none) (hv : bootBuiltins x = some (.builtin id)) (ha : PA X (e :: es) (liftA B ta)) (hn : x ≠ "__name__" := by decide) (hdb : (x == ("__debug__" : Str)) = false := by decide)
    (he : starEach (e :: es) X.env = (false, eval e X.env) :: starEach es X.env := by rfl) (hpl : (backTo pos (starEach es X.env)).any (·.1) = false := by rfl) : PE X (.Call (.Name x p) (e :: es) [] pos) (lift B (dCB g ta)) :=
  pe_imp (pe_callB hc hg hm hv ha hn hdb he hpl) (lift_cb hd)
theorem de_callTy (hc : CallR X (.type T) r) (hd : CallD B r g) (hg : Gl X x) (hm : X.mg x = none) (hv : bootBuiltins x = some (.type T)) (ha : PA X (e :: es) (liftA B ta)) (hn : x ≠ "__name__" := by decide) (hdb : (x == ("__debug__" : Str)) = false := by decide)
    (he : starEach (e :: es) X.env = (false, eval e X.env) :: starEach es X.env := by rfl) (hpl : (backTo pos (starEach es X.env)).any (·.1) = false := by rfl) : PE X (.Call (.Name x p) (e :: es) [] pos) (lift B (dCB g ta)) :=
  pe_imp (pe_callTy hc hg hm hv ha hn hdb he hpl) (lift_cb hd)
end

/-! ### statements -/
structure DEnds (T : Type) where
  nx : List SV → T → Prop
  rt : SV → T → Prop
  bk : List SV → T → Prop := fun _ _ => False
  ct : List SV → T → Prop := fun _ _ => False
abbrev WS (T : Type) := DEnds T → List SV → T → Prop
structure EndR (B : Bk) (G : Hp) (Dd : DEnds B.T) (D : Ends) : Prop where
  nx : ∀ G' F' σ' H' env' τ', Same G G' → StR B G' F' σ' H' env' τ' → Dd.nx env' τ' → D.nx σ' H'
  rt : ∀ r τ' G' F' H' v, Fin B B.G B.F B.H τ' G' F' H' → Res B.K B.H G' F' H' r v → Dd.rt r τ' → D.rt v H'
  bk : ∀ G' F' σ' H' env' τ', Same G G' → StR B G' F' σ' H' env' τ' → Dd.bk env' τ' → D.bk σ' H'
  ct : ∀ G' F' σ' H' env' τ', Same G G' → StR B G' F' σ' H' env' τ' → Dd.ct env' τ' → D.ct σ' H'
theorem EndR.mono {B : Bk} {G G1 : Hp} {Dd : DEnds B.T} {D : Ends} (E : EndR B G Dd D) (sm : Same G G1) : EndR B G1 Dd D :=
  ⟨fun G' F' σ' H' env' τ' s => E.nx G' F' σ' H' env' τ' (sm.trans s), E.rt, fun G' F' σ' H' env' τ' s => E.bk G' F' σ' H' env' τ' (sm.trans s), fun G' F' σ' H' env' τ' s => E.ct G' F' σ' H' env' τ' (sm.trans s)⟩
def liftS (B : Bk) (t : WS B.T) : TS := fun D σ H => ∃ G F env τ Dd, StR B G F σ H env τ ∧ t Dd env τ ∧ EndR B G Dd D

section
variable {X : Cx} {B : Bk} {st : Stmt} {rest : List Stmt} {e : Expr} {pos : Pos} {t u : WS B.T} {te : W B.T} {tc : WT B.T}
def dNext {T : Type} : WS T := fun D env τ => D.nx env τ
def dSeq {T : Type} (t u : WS T) : WS T := fun D env τ => t { D with nx := u D } env τ
theorem dss_nil : PSs X [] (liftS B dNext) := pss_imp pss_nil fun D σ H ⟨G, F, env, τ, Dd, s, h, E⟩ => E.nx G F σ H env τ (Same.refl G) s h
theorem dss_cons (h1 : PS X st (liftS B t)) (h2 : PSs X rest (liftS B u)) : PSs X (st :: rest) (liftS B (dSeq t u)) :=
  pss_imp (pss_cons h1 h2) fun D σ H ⟨G, F, env, τ, Dd, s, h, E⟩ => ⟨G, F, env, τ, { Dd with nx := u Dd }, s, h, ⟨fun G' F' σ' H' env' τ' sm s' h' => ⟨G', F', env', τ', Dd, s', h', E.mono sm⟩, E.rt, E.bk, E.ct⟩⟩
theorem dss_one (h1 : PS X st (liftS B t)) : PSs X [st] (liftS B t) := pss_one h1
theorem ds_pass : PS X (.Pass pos) (liftS B dNext) := ps_imp ps_pass fun D σ H ⟨G, F, env, τ, Dd, s, h, E⟩ => E.nx G F σ H env τ (Same.refl G) s h
def dBreak {T : Type} : WS T := fun D env τ => D.bk env τ
def dCont {T : Type} : WS T := fun D env τ => D.ct env τ
theorem ds_break : PS X (.Break pos) (liftS B dBreak) := ps_imp ps_break fun D σ H ⟨G, F, env, τ, Dd, s, h, E⟩ => E.bk G F σ H env τ (Same.refl G) s h
theorem ds_cont : PS X (.Continue pos) (liftS B dCont) := ps_imp ps_continue fun D σ H ⟨G, F, env, τ, Dd, s, h, E⟩ => E.ct G F σ H env τ (Same.refl G) s h
def dNever {T : Type} : WS T := fun _ _ _ => False
theorem ds_never : PS X st (liftS B dNever) := ps_imp ps_never fun D σ H ⟨G, F, env, τ, Dd, s, h, E⟩ => h
theorem dss_never {sts : List Stmt} : PSs X sts (liftS B dNever) := pss_imp pss_never fun D σ H ⟨G, F, env, τ, Dd, s, h, E⟩ => h
def dDrop {T : Type} (te : W T) : WS T := fun D env τ => te env τ fun _ τ1 => D.nx env τ1
theorem ds_expr (he : PE X e (lift B te)) (hs : swapsWith e none pos.line X.env = pure false := by rfl) : PS X (.Expr e pos) (liftS B (dDrop te)) :=
  ps_imp (ps_expr he hs) fun D σ H ⟨G, F, env, τ, Dd, s, h, E⟩ => ⟨G, F, env, τ, _, s, h, fun r τ1 G1 F1 H1 v f1 r1 q => E.nx G1 F1 σ H1 env τ1 f1.s.g (s.fin f1) q⟩
def SV.out : SV → Bool
  | .vw _ => false
  | .no => false
  | _ => true
def dRet {T : Type} (te : W T) : WS T := fun D env τ => te env τ fun r τ1 => r.out = true ∧ D.rt r τ1
theorem StR.out {B : Bk} {G F σ H env τ} (s : StR B G F σ H env τ) : Fin B B.G B.F B.H τ G F H := ⟨s.s, s.k⟩
theorem ds_ret (he : PE X e (lift B te)) : PS X (.Return (some e) pos) (liftS B (dRet te)) :=
  ps_imp (ps_ret he) fun D σ H ⟨G, F, env, τ, Dd, s, h, E⟩ => ⟨G, F, env, τ, _, s, h, fun r τ1 G1 F1 H1 v f1 r1 ⟨_, q⟩ => E.rt r τ1 G1 F1 H1 v (s.out.trans f1) (r1.back (dead s.s.dom)) q⟩
def dRetN {T : Type} : WS T := fun D _ τ => D.rt (.d .none) τ
theorem ds_retN : PS X (.Return none pos) (liftS B dRetN) := ps_imp ps_retN fun D σ H ⟨G, F, env, τ, Dd, s, h, E⟩ => E.rt (.d .none) τ G F H _ s.out Rp.non h
def dIfS {T : Type} (c : WT T) (t u : WS T) : WS T := fun D env τ => c env τ fun b τ1 => if b = true then t D env τ1 else u D env τ1
theorem ds_if {c : Expr} {a b : List Stmt} (hc : PT X c (liftT B tc)) (ha : PSs X a (liftS B t)) (hb : PSs X b (liftS B u)) : PS X (.If c a b pos) (liftS B (dIfS tc t u)) :=
  ps_imp (ps_if hc ha hb) fun D σ H ⟨G, F, env, τ, Dd, s, h, E⟩ => ⟨G, F, env, τ, _, s, h, fun b τ1 G1 F1 H1 f1 q => by
    cases b with
    | true => exact iteT ⟨G1, F1, env, τ1, Dd, s.fin f1, q, E.mono f1.s.g⟩
    | false => exact iteF ⟨G1, F1, env, τ1, Dd, s.fin f1, q, E.mono f1.s.g⟩⟩
end
end Z

namespace Z
open PySem L2

/-! ### a slot gets a value -/
section
variable {K : PySem.W.Frag} {H0 G H : Hp} {F : Addr → Prop} {σ : L2.St} {env : List SV}
theorem EnvR.set {i : Nat} {s : SV} {v : V} (E : EnvR K H0 G F H σ env) (hs : SvR K H0 G F H s (some v)) (hne : ∀ xs, s = .ol xs → ∀ (j : Nat) ys, env[j]? = some (.ol ys) → σ[j]?.join ≠ some v) :
    EnvR K H0 G F H (σ.set i (some v)) (env.set i s) := by
  refine ⟨by rw [List.length_set, List.length_set]; exact E.len, fun j s' e => ?_, fun j k xs ys hjk ej ek => ?_⟩
  · by_cases q : i = j
    · subst q
      by_cases hl : i < env.length
      · rw [List.getElem?_set_self hl] at e
        cases e
        rw [List.getElem?_set_self (by rw [E.len]; exact hl)]
        exact hs
      · rw [List.getElem?_eq_none (by rw [List.length_set]; omega)] at e
        cases e
    · rw [List.getElem?_set_ne q] at e ⊢
      exact E.at' j s' e
  · have get : ∀ (m : Nat) zs, (env.set i s)[m]? = some (.ol zs) → (m = i ∧ s = .ol zs ∧ (σ.set i (some v))[m]? = some (some v)) ∨ (m ≠ i ∧ env[m]? = some (.ol zs) ∧ (σ.set i (some v))[m]? = σ[m]?) := fun m zs em => by
      by_cases q : m = i
      · subst q
        by_cases hl : m < env.length
        · rw [List.getElem?_set_self hl] at em
          exact .inl ⟨rfl, Option.some.inj em, List.getElem?_set_self (by rw [E.len]; exact hl)⟩
        · rw [List.getElem?_eq_none (by rw [List.length_set]; omega)] at em
          cases em
      · rw [List.getElem?_set_ne (Ne.symm q)] at em ⊢
        exact .inr ⟨q, em, rfl⟩
    rcases get j xs ej with ⟨hj, hs1, hv1⟩ | ⟨hj, he1, hv1⟩
    · rcases get k ys ek with ⟨hk, _, _⟩ | ⟨hk, he2, hv2⟩
      · exact absurd (hj.trans hk.symm) hjk
      · rw [hv1, hv2]
        exact fun z => hne xs hs1 k ys he2 z.symm
    · rcases get k ys ek with ⟨hk, hs2, hv2⟩ | ⟨hk, he2, hv2⟩
      · rw [hv1, hv2]
        exact hne ys hs2 j xs he1
      · rw [hv1, hv2]
        exact E.sep j k xs ys hjk he1 he2
theorem EnvR.setD {i : Nat} {x : D} {v : V} (E : EnvR K H0 G F H σ env) (hs : Rp K G v x) : EnvR K H0 G F H (σ.set i (some v)) (env.set i (.d x)) := E.set ⟨v, rfl, hs⟩ fun _ z => by cases z
/-- what is known of a slot is forgotten -/
theorem EnvR.drop {i : Nat} (E : EnvR K H0 G F H σ env) : EnvR K H0 G F H σ (env.set i .no) := by
  have get : ∀ (m : Nat) s, (env.set i .no)[m]? = some s → s = .no ∨ env[m]? = some s := fun m s em => by
    by_cases q : m = i
    · subst q
      by_cases hl : m < env.length
      · rw [List.getElem?_set_self hl] at em
        exact .inl (Option.some.inj em).symm
      · rw [List.getElem?_eq_none (by rw [List.length_set]; omega)] at em
        cases em
    · rw [List.getElem?_set_ne (Ne.symm q)] at em
      exact .inr em
  refine ⟨by rw [List.length_set]; exact E.len, fun j s e => ?_, fun j k xs ys hjk ej ek => ?_⟩
  · rcases get j s e with z | z
    · subst z; trivial
    · exact E.at' j s z
  · rcases get j _ ej with z | z
    · cases z
    · rcases get k _ ek with z2 | z2
      · cases z2
      · exact E.sep j k xs ys hjk z z2
end
def SV.sto : SV → Option SV
  | .d x => some (.d x)
  | .ol xs => some (.ol xs)
  | .raw v => some (.raw v)
  | _ => none
section
variable {B : Bk} {G G1 H H1 : Hp} {F F1 : Addr → Prop} {σ : L2.St} {env : List SV} {τ τ1 : B.T}
theorem StR.sto {i : Nat} {v : V} (s : StR B G F σ H env τ) (f : Fin B G F H τ1 G1 F1 H1) : ∀ {r a : SV}, Res B.K H G1 F1 H1 r v → r.sto = some a → StR B G1 F1 (σ.set i (some v)) H1 (env.set i a) τ1
  | .d x, _, r, e => by
    cases e
    have s1 := s.fin f
    exact ⟨s1.s, s1.k, s1.e.setD r⟩
  | .raw x, _, r, e => by
    cases e
    have s1 := s.fin f
    have r : v = x := r
    subst r
    exact ⟨s1.s, s1.k, s1.e.set (s := .raw v) rfl fun _ z => by cases z⟩
  | .no, _, r, _ => r.elim
  | .vw _, _, _, e => by cases e
  | .ol xs, _, ⟨p, e1, o⟩, e => by
    cases e
    subst e1
    have s1 := s.fin f
    refine ⟨s1.s, s1.k, s1.e.set (s := .ol xs) ⟨p, rfl, ⟨o.at', o.g, o.f, dead s.s.dom p o.new⟩⟩ fun _ _ j ys ej z => ?_⟩
    obtain ⟨q, e2, w⟩ := s.e.at' j _ ej
    rw [e2] at z
    cases z
    obtain ⟨vs, e3, _⟩ := w.at'
    rw [o.new] at e3
    cases e3
end

/-! ### targets -/
inductive Tg where
  | nm (i : Nat)
  | tp (ts : List Tg)
mutual
def tgH (K : PySem.W.Frag) : Tg → TG
  | .nm i => gName i
  | .tp ts => gTup K ts.length (tgHs K ts)
def tgHs (K : PySem.W.Frag) : List Tg → TGs
  | [] => gNil
  | t :: ts => gCons (tgH K t) (tgHs K ts)
end
mutual
def tgE : Tg → D → List SV → Option (List SV)
  | .nm i, x, env => some (env.set i (.d x))
  | .tp ts, .tuple xs, env => tgEs ts xs env
  | .tp _, _, _ => none
def tgEs : List Tg → List D → List SV → Option (List SV)
  | [], [], env => some env
  | t :: ts, y :: ys, env => (tgE t y env).bind (tgEs ts ys)
  | _, _, _ => none
end
/-- what follows a target's store -/
def opt {α : Type} (o : Option α) (Q : α → Prop) : Prop := match o with
  | some a => Q a
  | none => False
theorem opt_some {α : Type} {a : α} {Q : α → Prop} : opt (some a) Q = Q a := rfl
theorem opt_of {α : Type} {o : Option α} {Q : α → Prop} (h : opt o Q) : ∃ a, o = some a ∧ Q a := by
  cases o with
  | none => exact h.elim
  | some a => exact ⟨a, rfl, h⟩
mutual
def Tg.all (p : Nat → Bool) : Tg → Bool
  | .nm i => p i
  | .tp ts => Tg.alls p ts
def Tg.alls (p : Nat → Bool) : List Tg → Bool
  | [] => true
  | t :: ts => t.all p && Tg.alls p ts
end
theorem tgEs_len : ∀ (ts : List Tg) (xs : List D) (env env' : List SV), tgEs ts xs env = some env' → xs.length = ts.length
  | [], [], _, _, _ => rfl
  | [], _ :: _, _, _, h => by simp [tgEs] at h
  | _ :: _, [], _, _, h => by simp [tgEs] at h
  | t :: ts, y :: ys, env, env', h => by
    rw [tgEs] at h
    cases e : tgE t y env with
    | none => rw [e] at h; cases h
    | some e1 =>
      rw [e] at h
      exact congrArg Nat.succ (tgEs_len ts ys e1 env' h)
theorem wipe_get (σ : L2.St) (k : Nat) : ∀ vs : List Nat, (wipe σ vs)[k]? = if k ∈ vs then (if k < σ.length then some none else none) else σ[k]?
  | [] => by simp [wipe]
  | v :: vs => by
    have ih := wipe_get σ k vs
    rw [wipe]
    by_cases q : v = k
    · subst q
      rw [if_pos (by simp)]
      by_cases hl : v < σ.length
      · rw [List.getElem?_set_self (by rw [wipe_length]; exact hl), if_pos hl]
      · rw [List.getElem?_eq_none (by rw [List.length_set, wipe_length]; omega), if_neg hl]
    · rw [List.getElem?_set_ne q, ih]
      have : (k ∈ v :: vs) ↔ k ∈ vs := by
        rw [List.mem_cons]
        exact ⟨fun h => h.resolve_left fun z => q z.symm, .inr⟩
      by_cases h : k ∈ vs
      · rw [if_pos h, if_pos (this.mpr h)]
      · rw [if_neg h, if_neg fun z => h (this.mp z)]
theorem wipe_set_in {v : V} {vs : List Nat} {σ : L2.St} {i : Nat} (h : i ∈ vs) : wipe (σ.set i (some v)) vs = wipe σ vs := by
  apply List.ext_getElem?
  intro k
  rw [wipe_get, wipe_get, List.length_set]
  by_cases q : k ∈ vs
  · rw [if_pos q, if_pos q]
  · rw [if_neg q, if_neg q, List.getElem?_set_ne]
    intro z
    subst z
    exact q h
section
variable {B : Bk} {G H : Hp} {F : Addr → Prop} {τ : B.T}
mutual
theorem tg_ok (vs : List Nat) : ∀ (t : Tg) {x : D} {v : V} {σ : L2.St} {env env' : List SV} {Q : L2.St → Hp → Prop}, StR B G F σ H env τ → Rp B.K G v x → tgE t x env = some env' →
    (∀ σ', StR B G F σ' H env' τ → (t.all (· ∈ vs) = true → wipe σ' vs = wipe σ vs) → Q σ' H) → tgH B.K t v σ H Q
  | .nm i, x, v, σ, env, env', Q, s, r, e, k => by
    rw [tgE] at e
    cases e
    rw [tgH]
    exact k _ ⟨s.s, s.k, s.e.setD r⟩ fun h => wipe_set_in (by simpa [Tg.all] using h)
  | .tp ts, .tuple xs, v, σ, env, env', Q, s, r, e, k => by
    rw [tgE] at e
    have hl := tgEs_len ts xs env env' e
    rw [tgH]
    cases r with
    | tup h a => exact ⟨_, _, rfl, same_seqT s.k.same h, by rw [a.length]; exact hl, tgs_ok vs ts s a e fun σ' s' w => k σ' s' fun h => w (by simpa [Tg.all] using h)⟩
  | .tp _, .none, _, _, _, _, _, _, _, e, _ => by rw [tgE] at e; cases e; all_goals (intro _ z; cases z)
  | .tp _, .bool _, _, _, _, _, _, _, _, e, _ => by rw [tgE] at e; cases e; all_goals (intro _ z; cases z)
  | .tp _, .int _, _, _, _, _, _, _, _, e, _ => by rw [tgE] at e; cases e; all_goals (intro _ z; cases z)
  | .tp _, .str _, _, _, _, _, _, _, _, e, _ => by rw [tgE] at e; cases e; all_goals (intro _ z; cases z)
  | .tp _, .list _, _, _, _, _, _, _, _, e, _ => by rw [tgE] at e; cases e; all_goals (intro _ z; cases z)
  | .tp _, .dict _, _, _, _, _, _, _, _, e, _ => by rw [tgE] at e; cases e; all_goals (intro _ z; cases z)
theorem tgs_ok (vs : List Nat) : ∀ (ts : List Tg) {xs : List D} {ws : List V} {σ : L2.St} {env env' : List SV} {Q : L2.St → Hp → Prop}, StR B G F σ H env τ → RpAll B.K G ws xs → tgEs ts xs env = some env' →
    (∀ σ', StR B G F σ' H env' τ → (Tg.alls (· ∈ vs) ts = true → wipe σ' vs = wipe σ vs) → Q σ' H) → tgHs B.K ts ws σ H Q
  | [], [], _, σ, env, env', Q, s, .nil, e, k => by
    rw [tgEs] at e
    cases e
    rw [tgHs]
    exact ⟨rfl, k σ s fun _ => rfl⟩
  | t :: ts, y :: ys, _, σ, env, env', Q, s, .cons r a, e, k => by
    rw [tgEs] at e
    cases e1 : tgE t y env with
    | none => rw [e1] at e; cases e
    | some env1 =>
      rw [e1] at e
      rw [tgHs]
      refine ⟨_, _, rfl, tg_ok vs t s r e1 fun σ1 s1 w1 => tgs_ok vs ts s1 a e fun σ2 s2 w2 => k σ2 s2 fun h => ?_⟩
      rw [Tg.alls, Bool.and_eq_true] at h
      exact (w2 h.2).trans (w1 h.1)
  | [], _ :: _, _, _, _, _, _, _, _, e, _ => by simp [tgEs] at e
  | _ :: _, [], _, _, _, _, _, _, _, e, _ => by simp [tgEs] at e
end
end
end Z

namespace Z
open PySem L2

section
variable {X : Cx} {B : Bk} {e tg : Expr} {pos : Pos} {te : W B.T} {t : Tg} {i : Nat} {x : Str}
/-! ### assignments -/
def dSet {T : Type} (i : Nat) (te : W T) : WS T := fun D env τ => te env τ fun r τ1 => opt r.sto fun a => D.nx (env.set i a) τ1
theorem lift_set {te' : TE} (h : ∀ σ H Q, lift B te σ H Q → te' σ H Q) : ∀ D σ H, liftS B (dSet i te) D σ H → tAsg te' (gName i) D σ H := fun D σ H ⟨G, F, env, τ, Dd, s, z, E⟩ =>
  h _ _ _ ⟨G, F, env, τ, _, s, z, fun r τ1 G1 F1 H1 v f1 r1 q => by
    obtain ⟨a, e, q⟩ := opt_of q
    exact E.nx G1 F1 _ H1 _ τ1 f1.s.g (s.sto f1 r1 e) q⟩
theorem ds_set {pos' : Pos} (hN : X.N.Nodup) (hi : X.N[i]? = some x) (hx : Loc X.env.scope x) (he : PE X e (lift B te)) (hs : swapsWith e (some (.Name x pos')) pos.line X.env = pure false := by rfl)
    (hf : X.fn x = true ∨ X.env.scope.names.lookup x = some .local := by first | exact .inl rfl | exact .inr rfl | assumption) : PS X (.Assign [.Name x pos'] e pos) (liftS B (dSet i te)) :=
  ps_imp (ps_set hN hi hx he hs hf) (lift_set fun _ _ _ h => h)
/-- target = e -/
def dAsg {T : Type} (t : Tg) (te : W T) : WS T := fun D env τ => te env τ fun r τ1 => opt r.dat? fun x => opt (tgE t x env) fun env' => D.nx env' τ1
theorem dg_nm {pos' : Pos} (hN : X.N.Nodup) (hi : X.N[i]? = some x) (hx : Loc X.env.scope x) (hf : X.fn x = true ∨ X.env.scope.names.lookup x = some .local := by first | exact .inl rfl | exact .inr rfl | assumption) : PG X (.Name x pos') (tgH B.K (.nm i)) := by
  rw [tgH]
  exact pg_name hN hi hx hf
theorem dg_nil : PGs X [] (tgHs B.K []) := by
  rw [tgHs]
  exact pgs_nil
theorem dg_cons {es : List Expr} {t : Tg} {ts : List Tg} (h1 : PG X e (tgH B.K t)) (h2 : PGs X es (tgHs B.K ts)) (hs : (assignEach (e :: es) X.env).map (·.2) = assign e X.env :: (assignEach es X.env).map (·.2) := by rfl) : PGs X (e :: es) (tgHs B.K (t :: ts)) := by
  rw [tgHs]
  exact pgs_cons h1 h2 hs
theorem dg_tp (hK : X.K = B.K) {es : List Expr} {k : Nat} {ts : List Tg} (hc : X.calm = true) (h : PGs X es (tgHs B.K ts)) (hn : (assignEach es X.env).length = ts.length := by rfl) (hst : (assignEach es X.env).findIdx? (·.1) = none := by rfl) :
    PG X (.Tuple es k pos) (tgH B.K (.tp ts)) := by
  rw [tgH, ← hK]
  rw [← hK] at h
  exact pg_tup hc h hn hst
theorem ds_asg (he : PE X e (lift B te)) (hg : PG X tg (tgH B.K t)) (hs : swapsWithSole [tg] e pos.line X.env = pure false := by rfl) (hw : swappedStores [tg] e X.env = pure none := by rfl)
    (h1 : (assignEach [tg] X.env).map (·.2) = [assign tg X.env] := by rfl) : PS X (.Assign [tg] e pos) (liftS B (dAsg t te)) :=
  ps_imp (ps_asg he hg hs hw h1) fun D σ H ⟨G, F, env, τ, Dd, s, z, E⟩ => ⟨G, F, env, τ, _, s, z, fun r τ1 G1 F1 H1 v f1 r1 q => by
    obtain ⟨y, e, q⟩ := opt_of q
    obtain ⟨env', e2, q⟩ := opt_of q
    obtain ⟨G2, f2, sm, r2⟩ := r1.dat f1 e
    exact tg_ok [] t (s.fin f2) r2 e2 fun σ' s' _ => E.nx G2 F1 σ' H1 env' τ1 f2.s.g s' q⟩
/-- a, b = x, y -/
def dPar {T : Type} (i j : Nat) (ta : WA T) : WS T := fun D env τ => ta env τ fun rs τ1 => match rs with
  | [.d x, .d y] => D.nx ((env.set i (.d x)).set j (.d y)) τ1
  | _ => False
theorem ds_par {j : Nat} {y : Str} {a b : Expr} {ta : WA B.T} {px py pt : Pos} {kt k2 pt2} (hc : X.calm = true) (hN : X.N.Nodup) (hi : X.N[i]? = some x) (hj : X.N[j]? = some y) (hij : i ≠ j)
    (hx : X.env.scope.names.lookup x = some .local) (hy : X.env.scope.names.lookup y = some .local) (ha : PA X [a, b] (liftA B ta))
    (hw : swappedStores [.Tuple [.Name x px, .Name y py] kt pt] (.Tuple [a, b] k2 pt2) X.env = pure (some [x, y]))
    (hs : swapsWithSole [.Tuple [.Name x px, .Name y py] kt pt] (.Tuple [a, b] k2 pt2) pos.line X.env = pure false := by rfl) :
    PS X (.Assign [.Tuple [.Name x px, .Name y py] kt pt] (.Tuple [a, b] k2 pt2) pos) (liftS B (dPar i j ta)) :=
  ps_imp (ps_par hc hN hi hj hij hx hy ha hw hs) fun D σ H ⟨G, F, env, τ, Dd, s, z, E⟩ => ⟨G, F, env, τ, _, s, z, fun rs τ1 G1 F1 H1 vs f1 r1 q => by
    match rs, vs, r1, q with
    | [.d x, .d y], [v, w], .cons r2 (.cons r3 .nil), q =>
      have s1 := s.fin f1
      exact ⟨v, w, rfl, E.nx G1 F1 _ H1 _ τ1 f1.s.g ⟨s1.s, s1.k, (s1.e.setD r2).setD r3⟩ q⟩⟩

/-! ### what is walked -/
/-- J walks xs from a state whose lasting part holds G on -/
structure ItR (B : Bk) (J : It) (G : Hp) (xs : List D) : Prop where
  go : ∀ (G1 H1 : Hp) (F1 : Addr → Prop) (τ1 : B.T), Same G G1 → Ok B.S B.K τ1 G1 F1 H1 → ∀ (i : Nat) (x : D), xs[i]? = some x → J.go i H1 ∧ ∀ v H2, J.yld i H1 v H2 → ∃ G2, Fin B G1 F1 H1 τ1 G2 F1 H2 ∧ Rp B.K G2 v x
  stop : ∀ (G1 H1 : Hp) (F1 : Addr → Prop) (τ1 : B.T), Same G G1 → Ok B.S B.K τ1 G1 F1 H1 → ∀ (i : Nat), xs.length ≤ i → J.stop i H1
abbrev WI (T : Type) := List SV → T → (List D → T → Prop) → Prop
def liftI (B : Bk) (ti : WI B.T) : TI := fun σ H R => ∃ G F env τ Qd, StR B G F σ H env τ ∧ ti env τ Qd ∧
  ∀ xs τ' G' F' H' J, Fin B G F H τ' G' F' H' → ItR B J G' xs → Qd xs τ' → R J H'
theorem pi_imp {iter : Expr} {w w' : TI} (h : PI X tg iter w) (i : ∀ σ H R, w' σ H R → w σ H R) : PI X tg iter w' := ⟨fun pins s σ H R I z => h.run pins s σ H R I (i σ H R z)⟩

/-- a list, a tuple or a text -/
def iSeq (K : PySem.W.Frag) (tl : TE) : TI := fun σ H R => tl σ H fun x H1 => (∃ a, x = .ref a ∧ (∃ xs, SqL K H1 a xs) ∧ R (Itl K a) H1) ∨ (∃ a, x = .ref a ∧ (∃ xs, SqT K H1 a xs) ∧ R (Itt K a) H1) ∨ ∃ z, x = .str z ∧ R (Its z) H1
theorem pi_seq {l : Expr} {tl : TE} (hl : PE X l tl) : PI X tg l (iSeq X.K tl) := by
  refine ⟨fun pins s σ H R I h => thn (hl.run pins s σ H _ I h) fun v s1 z => ?_⟩
  obtain ⟨x, H1, I1, r1, q1⟩ := z
  rcases q1 with ⟨a, ea, ⟨xs, hq⟩, q⟩ | ⟨a, ea, ⟨xs, hq⟩, q⟩ | ⟨w, ew, q⟩
  · subst ea; cases r1
    obtain ⟨its, rv, p, hz⟩ := I1.list hq
    exact wpAny_pyIter_list p.isList (pi_one (tk := s1.toks) I1 _ (turn_list a _) ⟨_, Heap.get?_push_size _ rfl, rfl, rfl⟩ q)
  · subst ea; cases r1
    obtain ⟨its, rv, p, hz⟩ := I1.tuple hq
    exact wpAny_pyIter_tuple (show s1.heap.IsTuple a its.toArray from p) (pi_one (tk := s1.toks) I1 _ (turn_tuple a _) ⟨_, Heap.get?_push_size _ rfl, rfl, rfl⟩ q)
  · subst ew
    obtain ⟨t, rfl⟩ := r1
    cases ha : w.cps.all (· < 128)
    · exact wpAny_pyIter_wide ha (pi_one (tk := s1.toks) I1 _ (turn_str _ w t "str_iterator" (.inr rfl)) ⟨_, Heap.get?_push_size _ rfl, rfl, rfl⟩ q)
    · exact wpAny_pyIter_ascii ha (pi_one (tk := s1.toks) I1 _ (turn_str _ w t "str_ascii_iterator" (.inl rfl)) ⟨_, Heap.get?_push_size _ rfl, rfl, rfl⟩ q)
/-- one sign as a text -/
def sg (c : Nat) : D := .str ⟨#[c]⟩
def SV.seq? : SV → Option (List D)
  | .d (.list xs) => some xs
  | .d (.tuple xs) => some xs
  | .d (.str z) => some (z.cps.toList.map sg)
  | .ol xs => some xs
  | _ => none
def dSeqI {T : Type} (te : W T) : WI T := fun env τ Q => te env τ fun r τ1 => opt r.seq? fun xs => Q xs τ1
theorem itr_l {G : Hp} {a : Addr} {vs : List V} {xs : List D} (h : SqP B.K G a vs) (r : RpAll B.K G vs xs) : ItR B (Itl B.K a) G xs where
  go := fun G1 H1 F1 τ1 sm k i x e => by
    obtain ⟨v, ev, rv⟩ := r.getD e
    refine ⟨⟨vs, v, (same_sqp (sm.trans k.same) h).sql, ev⟩, fun w H2 ⟨e2, y⟩ => ?_⟩
    subst e2
    have := y vs ((same_sqp (sm.trans k.same) h).sql)
    rw [ev] at this
    cases this
    exact ⟨G1, .rfl' k, rv.mono sm⟩
  stop := fun G1 H1 F1 τ1 sm k i hi => ⟨vs, (same_sqp (sm.trans k.same) h).sql, by rw [r.length]; exact hi⟩
theorem itr_t {G : Hp} {a : Addr} {vs : List V} {xs : List D} (h : SqT B.K G a vs) (r : RpAll B.K G vs xs) : ItR B (Itt B.K a) G xs where
  go := fun G1 H1 F1 τ1 sm k i x e => by
    obtain ⟨v, ev, rv⟩ := r.getD e
    refine ⟨⟨vs, v, same_seqT (sm.trans k.same) h, ev⟩, fun w H2 ⟨e2, y⟩ => ?_⟩
    subst e2
    have := y vs (same_seqT (sm.trans k.same) h)
    rw [ev] at this
    cases this
    exact ⟨G1, .rfl' k, rv.mono sm⟩
  stop := fun G1 H1 F1 τ1 sm k i hi => ⟨vs, same_seqT (sm.trans k.same) h, by rw [r.length]; exact hi⟩
theorem itr_s {G : Hp} {z : Str} : ItR B (Its z) G (z.cps.toList.map sg) where
  go := fun G1 H1 F1 τ1 sm k i x e => by
    rw [List.getElem?_map] at e
    cases q : z.cps.toList[i]? with
    | none => rw [q] at e; cases e
    | some c =>
      rw [q] at e
      cases e
      have q' : z.cps[i]? = some c := by simpa using q
      refine ⟨(Array.getElem?_eq_some_iff.mp q').1, fun w H2 ⟨e2, c', e3, e4⟩ => ?_⟩
      subst e2 e4
      rw [q'] at e3
      cases e3
      exact ⟨G1, .rfl' k, .str _⟩
  stop := fun G1 H1 F1 τ1 sm k i hi => by
    rw [List.length_map, Array.length_toList] at hi
    exact hi
theorem di_seq (hK : X.K = B.K) {l : Expr} (hl : PE X l (lift B te)) : PI X tg l (liftI B (dSeqI te)) :=
  pi_imp (pi_seq hl) fun σ H R ⟨G, F, env, τ, Qd, s, t, k⟩ => ⟨G, F, env, τ, _, s, t, fun r τ1 G1 F1 H1 v f1 r1 q => by
    obtain ⟨xs, e, q⟩ := opt_of q
    rw [hK]
    match r, r1, e with
    | .d (.list ys), .lst h a, e => cases e; exact .inl ⟨_, rfl, ⟨_, (same_sqp f1.k.same h).sql⟩, k _ _ _ _ _ _ f1 (itr_l h a) q⟩
    | .d (.tuple ys), .tup h a, e => cases e; exact .inr (.inl ⟨_, rfl, ⟨_, same_seqT f1.k.same h⟩, k _ _ _ _ _ _ f1 (itr_t h a) q⟩)
    | .d (.str z), .str _, e => cases e; exact .inr (.inr ⟨z, rfl, k _ _ _ _ _ _ f1 itr_s q⟩)
    | .ol ys, ⟨p, e1, o⟩, e =>
      cases e
      subst e1
      obtain ⟨G2, f2, sm, r2⟩ := f1.frz o
      cases r2 with
      | lst h a => exact .inl ⟨_, rfl, ⟨_, (same_sqp f2.k.same h).sql⟩, k _ _ _ _ _ _ f2 (itr_l h a) q⟩⟩
/-- lo, lo + 1, .. -/
def rgI (lo : Int) (n : Nat) : List D := (List.range n).map fun i => .int (lo + (i : Nat))
theorem itr_r {G : Hp} {lo : Int} {n : Nat} : ItR B (Itr lo n) G (rgI lo n) where
  go := fun G1 H1 F1 τ1 sm k i x e => by
    unfold rgI at e
    rw [List.getElem?_map] at e
    by_cases hi : i < n
    · rw [List.getElem?_range hi] at e
      cases e
      refine ⟨hi, fun w H2 ⟨e2, e3⟩ => ?_⟩
      subst e2 e3
      exact ⟨G1, .rfl' k, .int _⟩
    · rw [List.getElem?_eq_none (by rw [List.length_range]; omega)] at e
      cases e
  stop := fun G1 H1 F1 τ1 sm k i hi => by
    unfold rgI at hi
    rw [List.length_map, List.length_range] at hi
    exact hi
def dRng1 {T : Type} (ta : WA T) : WI T := fun env τ Q => ta env τ fun rs τ1 => ∃ j : Int, rs = [.d (.int j)] ∧ (-(2 ^ 62) ≤ j ∧ j < 2 ^ 62) ∧ Q (rgI 0 j.toNat) τ1
def dRng2 {T : Type} (ta : WA T) : WI T := fun env τ Q => ta env τ fun rs τ1 => ∃ i j : Int, rs = [.d (.int i), .d (.int j)] ∧ (-(2 ^ 62) ≤ i ∧ i < 2 ^ 62 ∧ -(2 ^ 62) ≤ j ∧ j < 2 ^ 62) ∧ Q (rgI i (j - i).toNat) τ1
theorem di_range1 {a : Expr} {ta : WA B.T} {p : Pos} (hg : Gl X "range") (hm : X.mg "range" = none) (ha : PA X [a] (liftA B ta)) (hs : starEach [a] X.env = [(false, eval a X.env)] := by rfl) : PI X tg (.Call (.Name "range" p) [a] [] pos) (liftI B (dRng1 ta)) :=
  pi_imp (pi_range1 hg hm ha hs) fun σ H R ⟨G, F, env, τ, Qd, s, t, k⟩ => ⟨G, F, env, τ, _, s, t, fun rs τ1 G1 F1 H1 vs f1 r1 ⟨j, e, h, q⟩ => by
    subst e
    cases r1 with
    | cons r r' =>
      cases r'
      exact ⟨j, by rw [rint r], h.1, h.2, k _ _ _ _ _ _ f1 itr_r q⟩⟩
theorem di_range2 {a b : Expr} {ta : WA B.T} {p : Pos} (hg : Gl X "range") (hm : X.mg "range" = none) (ha : PA X [a, b] (liftA B ta)) (hs : starEach [a, b] X.env = [(false, eval a X.env), (false, eval b X.env)] := by rfl) (hs2 : starEach [b] X.env = [(false, eval b X.env)] := by rfl) :
    PI X tg (.Call (.Name "range" p) [a, b] [] pos) (liftI B (dRng2 ta)) :=
  pi_imp (pi_range2 hg hm ha hs hs2) fun σ H R ⟨G, F, env, τ, Qd, s, t, k⟩ => ⟨G, F, env, τ, _, s, t, fun rs τ1 G1 F1 H1 vs f1 r1 ⟨i, j, e, h, q⟩ => by
    subst e
    cases r1 with
    | cons r r' =>
      cases r' with
      | cons r2 r3 =>
        cases r3
        exact ⟨i, j, by rw [rint r, rint r2], h, k _ _ _ _ _ _ f1 itr_r q⟩⟩
end
end Z

namespace Z
open PySem L2

section
variable {X : Cx} {B : Bk} {e tg iter : Expr} {pos : Pos} {te : W B.T} {t : Tg} {i : Nat} {x : Str} {body : List Stmt} {tb : WS B.T} {ti : WI B.T} {tc : WT B.T}
/-! ### for -/
def forW {T : Type} (t : Tg) (tb : WS T) (D : DEnds T) : List Z.D → List SV → T → Prop
  | [], env, τ => D.nx env τ
  | x :: xs, env, τ => opt (tgE t x env) fun env' => tb { D with nx := forW t tb D xs, ct := forW t tb D xs, bk := D.nx } env' τ
def dFor {T : Type} (ti : WI T) (t : Tg) (tb : WS T) : WS T := fun D env τ => ti env τ fun xs τ1 => forW t tb D xs env τ1
theorem ds_for (hp : PassesOwn (model X.prog X.w) X.A X.env X.xe) (hc : X.calm = true) (hi : PI X tg iter (liftI B ti)) (hg : PG X tg (tgH B.K t)) (hb : PSs X body (liftS B tb))
    (hs : ∀ x, foldedSetIterable iter X.env x = pure x := by intro _; rfl) : PS X (.For tg iter body [] pos) (liftS B (dFor ti t tb)) :=
  ps_imp (ps_for hp hc hi hg hb hs) fun D σ H ⟨G, F, env, τ, Dd, s, h, E⟩ => ⟨G, F, env, τ, _, s, h, fun xs τ1 G1 F1 H1 J f1 it q => by
    refine ⟨fun i m σ H => m = xs.length - i ∧ i ≤ xs.length ∧ ∃ G2 F2 env2 τ2, StR B G2 F2 σ H env2 τ2 ∧ Same G1 G2 ∧ forW t tb Dd (xs.drop i) env2 τ2, ⟨_, rfl, Nat.zero_le _, G1, F1, env, τ1, s.fin f1, Same.refl _, q⟩, ?_⟩
    rintro i m σ2 H2 ⟨rfl, hi, G2, F2, env2, τ2, s2, sm, q2⟩
    by_cases hl : i < xs.length
    · have hx : xs[i]? = some xs[i] := List.getElem?_eq_getElem hl
      obtain ⟨g, y⟩ := it.go G2 H2 F2 τ2 sm s2.k i _ hx
      rw [List.drop_eq_getElem_cons hl, forW] at q2
      obtain ⟨env3, e3, q3⟩ := opt_of q2
      refine .inr ⟨g, fun σ' H' => ∃ G4 F4 env4 τ4, StR B G4 F4 σ' H' env4 τ4 ∧ Same G1 G4 ∧ forW t tb Dd (xs.drop (i + 1)) env4 τ4, fun σ' H' n => ⟨_, by omega, rfl, by omega, n⟩, fun v H3 yl => ?_⟩
      obtain ⟨G3, f3, r3⟩ := y v H3 yl
      refine tg_ok [] t (s2.fin f3) r3 e3 fun σ' s' _ => ⟨G3, F2, env3, τ2, _, s', q3, ⟨?_, E.rt, ?_, ?_⟩⟩
      · exact fun G' F' σ' H' env' τ' smx sx qx => ⟨G', F', env', τ', sx, sm.trans (f3.s.g.trans smx), qx⟩
      · exact fun G' F' σ' H' env' τ' smx sx qx => E.nx G' F' σ' H' env' τ' (f1.s.g.trans (sm.trans (f3.s.g.trans smx))) sx qx
      · exact fun G' F' σ' H' env' τ' smx sx qx => ⟨G', F', env', τ', sx, sm.trans (f3.s.g.trans smx), qx⟩
    · rw [List.drop_eq_nil_of_le (by omega), forW] at q2
      exact .inl ⟨it.stop G2 H2 F2 τ2 sm s2.k i (by omega), E.nx G2 F2 σ2 H2 env2 τ2 (f1.s.g.trans sm) s2 q2⟩⟩
/-! ### while -/
def whileW {T : Type} (c : WT T) (tb : WS T) (D : DEnds T) : Nat → List SV → T → Prop
  | 0, _, _ => False
  | n + 1, env, τ => c env τ fun k τ1 => if k = true then tb { D with nx := whileW c tb D n, ct := whileW c tb D n, bk := D.nx } env τ1 else D.nx env τ1
def dWhile {T : Type} (c : WT T) (tb : WS T) : WS T := fun D env τ => ∃ n, whileW c tb D n env τ
theorem ds_while {c : Expr} (hp : PassesOwn (model X.prog X.w) X.A X.env X.xe) (hc : PT X c (liftT B tc)) (hb : PSs X body (liftS B tb)) : PS X (.While c body [] pos) (liftS B (dWhile tc tb)) :=
  ps_imp (ps_while hp hc hb) fun D σ H ⟨G, F, env, τ, Dd, s, ⟨n, h⟩, E⟩ => by
    refine ⟨fun m σ H => ∃ G2 F2 env2 τ2, StR B G2 F2 σ H env2 τ2 ∧ Same G G2 ∧ whileW tc tb Dd m env2 τ2, ⟨n, G, F, env, τ, s, Same.refl _, h⟩, ?_⟩
    rintro m σ2 H2 ⟨G2, F2, env2, τ2, s2, sm, q2⟩
    cases m with
    | zero => exact q2.elim
    | succ m =>
      refine ⟨G2, F2, env2, τ2, _, s2, q2, fun b τ3 G3 F3 H3 f3 q3 => ?_⟩
      cases b with
      | false => exact iteF (E.nx G3 F3 σ2 H3 env2 τ3 (sm.trans f3.s.g) (s2.fin f3) q3)
      | true =>
        refine iteT ⟨fun σ' H' => ∃ G4 F4 env4 τ4, StR B G4 F4 σ' H' env4 τ4 ∧ Same G G4 ∧ whileW tc tb Dd m env4 τ4, fun σ' H' z => ⟨m, Nat.lt_succ_self m, z⟩, G3, F3, env2, τ3, _, s2.fin f3, q3, ⟨?_, E.rt, ?_, ?_⟩⟩
        · exact fun G' F' σ' H' env' τ' smx sx qx => ⟨G', F', env', τ', sx, sm.trans (f3.s.g.trans smx), qx⟩
        · exact fun G' F' σ' H' env' τ' smx sx qx => E.nx G' F' σ' H' env' τ' (sm.trans (f3.s.g.trans smx)) sx qx
        · exact fun G' F' σ' H' env' τ' smx sx qx => ⟨G', F', env', τ', sx, sm.trans (f3.s.g.trans smx), qx⟩

/-! ### comprehensions -/
def wipeE (env : List SV) : List Nat → List SV
  | [] => env
  | v :: vs => (wipeE env vs).set v .no
theorem EnvR.wipe {K : PySem.W.Frag} {H0 G H : Hp} {F : Addr → Prop} {σ : L2.St} {env : List SV} (E : EnvR K H0 G F H σ env) : ∀ vs : List Nat, EnvR K H0 G F H (L2.wipe σ vs) (wipeE env vs)
  | [] => E
  | v :: vs => by
    have ih := (E.wipe vs).drop (i := v)
    rw [L2.wipe, wipeE]
    refine ⟨by rw [List.length_set]; exact ih.len, fun j s e => ?_, fun j k xs ys hjk ej ek => ?_⟩
    · have a := ih.at' j s e
      by_cases q : v = j
      · subst q
        by_cases hl : v < (wipeE env vs).length
        · rw [List.getElem?_set_self hl] at e
          cases e
          trivial
        · rw [List.getElem?_eq_none (by rw [List.length_set]; omega)] at e
          cases e
      · rw [List.getElem?_set_ne q]
        exact a
    · have no : ∀ (m : Nat) zs, ((wipeE env vs).set v .no)[m]? = some (.ol zs) → v ≠ m := fun m zs em q => by
        subst q
        by_cases hl : v < (wipeE env vs).length
        · rw [List.getElem?_set_self hl] at em
          cases em
        · rw [List.getElem?_eq_none (by rw [List.length_set]; omega)] at em
          cases em
      rw [List.getElem?_set_ne (no j xs ej), List.getElem?_set_ne (no k ys ek)]
      exact ih.sep j k xs ys hjk ej ek
def lcW {T : Type} (t : Tg) (tt : WT T) (te : W T) (Q : List D → T → Prop) : List D → List D → List SV → T → Prop
  | [], acc, _, τ => Q acc τ
  | x :: xs, acc, env, τ => opt (tgE t x env) fun env' => tt env' τ fun b τ1 => if b = true then te env' τ1 fun r τ2 => opt r.dat? fun y => acc.length < sizeLine ∧ lcW t tt te Q xs (acc ++ [y]) env τ2 else lcW t tt te Q xs acc env τ1
def dLc {T : Type} (ti : WI T) (t : Tg) (tt : WT T) (te : W T) (vs : List Nat) : W T := fun env τ Q => ti env τ fun xs τ1 => lcW t tt te (fun acc τ2 => Q (.ol acc) τ2) xs [] (wipeE env vs) τ1
theorem wipe_idem (σ : L2.St) (vs : List Nat) : wipe (wipe σ vs) vs = wipe σ vs := by
  apply List.ext_getElem?
  intro k
  rw [wipe_get, wipe_get, wipe_length]
  by_cases q : k ∈ vs
  · rw [if_pos q, if_pos q]
  · rw [if_neg q, if_neg q]
/-- an own list, newer than H, is changed -/
theorem Fin.mut {G G2 H H' : Hp} {F F2 : Addr → Prop} {τ : B.T} {p : Addr} {acc acc' : List D} {ws : List V} (f : Fin B G F H τ G2 F2 H') (o : Own B.K H G2 F2 H' p acc) (a : RpAll B.K G2 ws acc') :
    Fin B G F H τ G2 F2 (upd H' p (.lst ws)) ∧ Own B.K H G2 F2 (upd H' p (.lst ws)) p acc' := by
  refine ⟨⟨⟨f.s.g, fun b u nf e => ?_, f.s.gn, f.s.fn, f.s.ff, fun b e => ?_⟩, f.k.mut o.g o.f⟩, ⟨⟨ws, upd_same, a⟩, o.g, o.f, o.new⟩⟩
  · rw [upd_ne (ne_of_none e o.new)]
    exact f.s.h b u nf e
  · by_cases q : b = p
    · subst q
      exact absurd o.new e
    · rw [upd_ne q]
      exact f.s.dom b e
theorem lift_lc {tt : WT B.T} {vs : List Nat} (ht : t.all (· ∈ vs) = true) : ∀ σ H Q, lift B (dLc ti t tt te vs) σ H Q → tLc (liftI B ti) (tgH B.K t) (liftT B tt) (lift B te) vs σ H Q := fun σ H Q ⟨G, F, env, τ, Qd, s, h, k⟩ => by
  refine ⟨G, F, env, τ, _, s, h, fun xs τ1 G1 F1 H1 J f1 it q D hD => ?_⟩
  let P : Nat → Hp → Prop := fun i H' => ∃ G2 F2 τ2 acc, Fin B G1 F1 H1 τ2 G2 F2 H' ∧ Own B.K H1 G2 F2 H' D acc ∧ lcW t tt te (fun acc τ2 => Qd (.ol acc) τ2) (xs.drop i) acc (wipeE env vs) τ2
  refine ⟨fun i m H' => m = xs.length - i ∧ i ≤ xs.length ∧ P i H', ⟨_, rfl, Nat.zero_le _, ?_⟩, ?_⟩
  · obtain ⟨f2, p, e, o⟩ := new_lst (p := D) f1.k hD (.nil : RpAll B.K G1 [] [])
    cases e
    exact ⟨G1, F1, τ1, [], f2, o, q⟩
  rintro i m H2 ⟨rfl, hi, G2, F2, τ2, acc, f2, o2, q2⟩
  by_cases hl : i < xs.length
  · have hx : xs[i]? = some xs[i] := List.getElem?_eq_getElem hl
    obtain ⟨g, y⟩ := it.go G2 H2 F2 τ2 f2.s.g f2.k i _ hx
    rw [List.drop_eq_getElem_cons hl, lcW] at q2
    obtain ⟨env3, e3, q3⟩ := opt_of q2
    refine .inr ⟨g, P (i + 1), fun H' n => ⟨_, by omega, rfl, by omega, n⟩, fun v H3 yl => ?_⟩
    obtain ⟨G3, f3, r3⟩ := y v H3 yl
    have f23 := f2.trans f3
    have s3 := (s.fin f1).fin f23
    have o3 := o2.step f3.s
    refine tg_ok vs t ⟨s3.s, s3.k, s3.e.wipe vs⟩ r3 e3 fun σ' s' w => ⟨(w ht).trans (wipe_idem σ vs), G3, F2, env3, τ2, _, s', q3, fun b τ4 G4 F4 H4 f4 q4 => ?_⟩
    have f24 := f23.trans f4
    have o4 := o3.step f4.s
    cases b with
    | false => exact iteF ⟨G4, F4, τ4, acc, f24, o4, q4⟩
    | true =>
      refine iteT ⟨G4, F4, env3, τ4, _, s'.fin f4, q4, fun r τ5 G5 F5 H5 v5 f5 r5 q5 => ?_⟩
      obtain ⟨z, e5, hz, q5⟩ := opt_of q5
      obtain ⟨G6, f6, sm, r6⟩ := r5.dat f5 e5
      have f26 := f24.trans f6
      have o6 := o4.step f6.s
      obtain ⟨ws, ew, aw⟩ := o6.at'
      obtain ⟨f7, o7⟩ := f26.mut o6 (aw.append (.cons r6 .nil))
      exact ⟨ws, ew, by rw [aw.length]; exact hz, G6, F5, τ5, acc ++ [z], f7, o7, q5⟩
  · rw [List.drop_eq_nil_of_le (by omega), lcW] at q2
    exact .inl ⟨it.stop G2 H2 F2 τ2 f2.s.g f2.k i (by omega), k (.ol acc) τ2 G2 F2 H2 (.ref D) (f1.trans f2) ⟨D, rfl, o2.at', o2.g, o2.f, dead f1.s.dom D o2.new⟩ q2⟩
/-- no test -/
def dYes {T : Type} : WT T := fun _ τ Q => Q true τ
theorem dts_nil : PTs X [] (liftT B dYes) := ⟨fun pins s σ H Q I ⟨G, F, env, τ, Qd, st, h, k⟩ => pts_nil.run pins s σ H Q I (k true τ G F H st.refl h)⟩
theorem dts_one {c : Expr} (h : PT X c (liftT B tc)) : PTs X [c] (liftT B tc) := pts_one h
theorem de_lc {elt : Expr} {ifs : List Expr} {scope : Scope} {own : List (Str × Nat)} {tt : WT B.T} (hc : X.calm = true) (hN : X.N.Nodup) (hi : PI X tg iter (liftI B ti)) (ok : BlkOk X.N X.env.scope scope own) (hv : t.all (· ∈ own.map (·.2)) = true)
    (hg : ∀ (s : Shared) (H : Hp) (C : Addr) (cl : List (Str × Addr)) (fp : List Addr), PG (X.blk s H scope (compEnvC scope cl C X.env) fp) tg (tgH B.K t)) (ht : ∀ (s : Shared) (H : Hp) (C : Addr) (cl : List (Str × Addr)) (fp : List Addr), PTs (X.blk s H scope (compEnvC scope cl C X.env) fp) ifs (liftT B tt))
    (he : ∀ (s : Shared) (H : Hp) (C : Addr) (cl : List (Str × Addr)) (fp : List Addr), PE (X.blk s H scope (compEnvC scope cl C X.env) fp) elt (lift B te)) (hs : ∀ x, foldedSetIterable iter X.env x = pure x := by intro _; rfl) :
    PE X (.ListComp elt [⟨tg, iter, ifs, 0⟩] scope pos) (lift B (dLc ti t tt te (own.map (·.2)))) := pe_imp (pe_lc hc hN hi ok hg ht he hs) (lift_lc hv)
theorem ds_setLc {y : Str} {py spos : Pos} {elt : Expr} {ifs : List Expr} {scope : Scope} {own : List (Str × Nat)} {tt : WT B.T} (hc : X.calm = true) (hN : X.N.Nodup) (hy : X.N[i]? = some y) (hyl : X.env.scope.names.lookup y = some .local)
    (hsw : swapsWith (.ListComp elt [⟨tg, iter, ifs, 0⟩] scope pos) (some (.Name y py)) spos.line X.env = pure true) (hi : PI X tg iter (liftI B ti)) (ok : BlkOk X.N X.env.scope scope own) (hv : t.all (· ∈ own.map (·.2)) = true)
    (hg : ∀ (s : Shared) (H : Hp) (C : Addr) (cl : List (Str × Addr)) (fp : List Addr), PG (X.blk s H scope (compEnvC scope cl C X.env) fp) tg (tgH B.K t)) (ht : ∀ (s : Shared) (H : Hp) (C : Addr) (cl : List (Str × Addr)) (fp : List Addr), PTs (X.blk s H scope (compEnvC scope cl C X.env) fp) ifs (liftT B tt))
    (he : ∀ (s : Shared) (H : Hp) (C : Addr) (cl : List (Str × Addr)) (fp : List Addr), PE (X.blk s H scope (compEnvC scope cl C X.env) fp) elt (lift B te)) (hs : ∀ x, foldedSetIterable iter X.env x = pure x := by intro _; rfl) :
    PS X (.Assign [.Name y py] (.ListComp elt [⟨tg, iter, ifs, 0⟩] scope pos) spos) (liftS B (dSet i (dLc ti t tt te (own.map (·.2))))) :=
  ps_imp (ps_setLc hc hN hy hyl hsw hi ok hg ht he hs) (lift_set (lift_lc hv))

/-! ### own lists -/
/-- from here on the list in slot i never changes -/
def dFrz {T : Type} (i : Nat) (t : WS T) : WS T := fun D env τ => match env[i]? with
  | some (.ol xs) => t D (env.set i (.d (.list xs))) τ
  | some (.d (.list xs)) => t D env τ
  | _ => False
theorem StR.frz {G H : Hp} {F : Addr → Prop} {σ : L2.St} {env : List SV} {τ : B.T} {xs : List D} (s : StR B G F σ H env τ) (e : env[i]? = some (.ol xs)) : ∃ G2, Same G G2 ∧ StR B G2 F σ H (env.set i (.d (.list xs))) τ := by
  obtain ⟨p, e1, o⟩ := s.e.at' i _ e
  obtain ⟨⟨ws, ew, aw⟩, og, onf, onew⟩ := id o
  have hl : i < env.length := (List.getElem?_eq_some_iff.mp e).1
  have hs : σ[i]? = some (some (.ref p)) := by
    cases z : σ[i]? with
    | none => rw [z] at e1; cases e1
    | some u => rw [z] at e1; exact congrArg some e1
  have sm : Same G (upd G p (.lst ws)) := fun b u z => by rw [upd_ne (ne_of_none z og)]; exact z
  have st : Step B.G B.F B.H (upd G p (.lst ws)) F H := ⟨s.s.g.trans sm, s.s.h, fun b u z => by
    by_cases q : b = p
    · subst q; exact .inr onew
    · rw [upd_ne q] at z; exact s.s.gn b u z, s.s.fn, s.s.ff, s.s.dom⟩
  have stay : ∀ (j : Nat) sv, i ≠ j → env[j]? = some sv → SvR B.K B.H (upd G p (.lst ws)) F H sv (σ[j]?.join) := fun j sv hj ej => by
    have h := s.e.at' j sv ej
    cases sv with
    | no => trivial
    | vw _ => exact h
    | raw v => exact h
    | d y =>
      obtain ⟨v, e2, r2⟩ := h
      exact ⟨v, e2, r2.mono sm⟩
    | ol ys =>
      obtain ⟨q, e2, w⟩ := h
      obtain ⟨vs, e3, a⟩ := w.at'
      refine ⟨q, e2, ⟨vs, e3, a.mono sm⟩, ?_, w.f, w.new⟩
      have : q ≠ p := fun z => by
        subst z
        exact s.e.sep i j xs ys hj e ej (e1.trans e2.symm)
      rw [upd_ne this]
      exact w.g
  have get : ∀ (m : Nat) sv, (env.set i (.d (.list xs)))[m]? = some sv → (m = i ∧ sv = .d (.list xs)) ∨ (i ≠ m ∧ env[m]? = some sv) := fun m sv em => by
    by_cases q : i = m
    · subst q
      rw [List.getElem?_set_self hl] at em
      exact .inl ⟨rfl, (Option.some.inj em).symm⟩
    · rw [List.getElem?_set_ne q] at em
      exact .inr ⟨q, em⟩
  refine ⟨upd G p (.lst ws), sm, st, s.k.frz ew og onf, by rw [List.length_set]; exact s.e.len, fun j sv ej => ?_, fun j k ys zs hjk ej ek => ?_⟩
  · rcases get j sv ej with ⟨rfl, rfl⟩ | ⟨q, ej⟩
    · rw [hs]
      exact ⟨.ref p, rfl, Rp.lst (.inl (.inl upd_same)) (aw.mono sm)⟩
    · exact stay j sv q ej
  · rcases get j _ ej with ⟨_, z⟩ | ⟨_, ej⟩
    · cases z
    · rcases get k _ ek with ⟨_, z⟩ | ⟨_, ek⟩
      · cases z
      · exact s.e.sep j k ys zs hjk ej ek
theorem ds_frz {st : Stmt} {tS : WS B.T} (h : PS X st (liftS B tS)) : PS X st (liftS B (dFrz i tS)) :=
  ps_imp h fun D σ H ⟨G, F, env, τ, Dd, s, z, E⟩ => by
    unfold dFrz at z
    split at z
    · rename_i xs e
      obtain ⟨G2, sm, s2⟩ := s.frz e
      exact ⟨G2, F, _, τ, Dd, s2, z, E.mono sm⟩
    · exact ⟨G, F, env, τ, Dd, s, z, E⟩
    · exact z.elim
theorem dss_frz {sts : List Stmt} {tS : WS B.T} (h : PSs X sts (liftS B tS)) : PSs X sts (liftS B (dFrz i tS)) :=
  pss_imp h fun D σ H ⟨G, F, env, τ, Dd, s, z, E⟩ => by
    unfold dFrz at z
    split at z
    · rename_i xs e
      obtain ⟨G2, sm, s2⟩ := s.frz e
      exact ⟨G2, F, _, τ, Dd, s2, z, E.mono sm⟩
    · exact ⟨G, F, env, τ, Dd, s, z, E⟩
    · exact z.elim
/-- the own list in slot i is changed -/
theorem StR.mut {G H : Hp} {F : Addr → Prop} {σ : L2.St} {env : List SV} {τ : B.T} {xs xs' : List D} {p : Addr} {ws : List V} (s : StR B G F σ H env τ) (e : env[i]? = some (.ol xs)) (e1 : σ[i]?.join = some (.ref p)) (a : RpAll B.K G ws xs') :
    StR B G F σ (upd H p (.lst ws)) (env.set i (.ol xs')) τ := by
  obtain ⟨p', e2, o⟩ := s.e.at' i _ e
  have : p' = p := by
    rw [e1] at e2
    cases e2
    rfl
  subst this
  have hl : i < env.length := (List.getElem?_eq_some_iff.mp e).1
  obtain ⟨f, o'⟩ := s.out.mut o a
  have get : ∀ (m : Nat) sv, (env.set i (.ol xs'))[m]? = some sv → (m = i ∧ sv = .ol xs') ∨ (i ≠ m ∧ env[m]? = some sv) := fun m sv em => by
    by_cases q : i = m
    · subst q
      rw [List.getElem?_set_self hl] at em
      exact .inl ⟨rfl, (Option.some.inj em).symm⟩
    · rw [List.getElem?_set_ne q] at em
      exact .inr ⟨q, em⟩
  have was : ∀ (m : Nat) zs, (env.set i (.ol xs'))[m]? = some (.ol zs) → ∃ zs', env[m]? = some (.ol zs') := fun m zs em => by
    rcases get m _ em with ⟨rfl, _⟩ | ⟨_, h⟩
    · exact ⟨xs, e⟩
    · exact ⟨zs, h⟩
  refine ⟨f.s, f.k, by rw [List.length_set]; exact s.e.len, fun j sv ej => ?_, fun j k ys zs hjk ej ek => ?_⟩
  · rcases get j sv ej with ⟨rfl, rfl⟩ | ⟨q, ej⟩
    · exact ⟨p', e1, o'⟩
    · have h := s.e.at' j sv ej
      cases sv with
      | no => trivial
      | vw _ => exact h
      | raw v => exact h
      | d y => exact h
      | ol ys =>
        obtain ⟨q', e3, w⟩ := h
        obtain ⟨vs, e4, a4⟩ := w.at'
        have : q' ≠ p' := fun z => by
          subst z
          exact s.e.sep i j xs ys q e ej (e1.trans e3.symm)
        exact ⟨q', e3, ⟨vs, by rw [upd_ne this]; exact e4, a4⟩, w.g, w.f, w.new⟩
  · obtain ⟨ys', ej'⟩ := was j ys ej
    obtain ⟨zs', ek'⟩ := was k zs ek
    exact s.e.sep j k ys' zs' hjk ej' ek'
end
end Z

namespace Z
open PySem L2

/-! ### defs -/
abbrev FW (T : Type) := List SV → T → (SV → T → Prop) → Prop
def SV.dr : SV → Bool
  | .d _ => true
  | .raw _ => true
  | _ => false
/-- a def's promise, by data -/
def spD (S : Sto) (K : PySem.W.Frag) (FF : FW S.T) : Sp := fun vs H Q _ => ∃ G F τ rs Qd Ha, Ok S K τ G F H ∧ ResAll K Ha G F H rs vs ∧ rs.all SV.dr = true ∧ FF rs τ Qd ∧
  ∀ r τ' G' F' H' v, Step G F H G' F' H' → Ok S K τ' G' F' H' → Res K H G' F' H' r v → Qd r τ' → Q v H'
def dCall {T : Type} (FF : FW T) (ta : WA T) : W T := fun env τ Q => ta env τ fun rs τ1 => rs.all SV.dr = true ∧ FF rs τ1 Q
section
variable {X : Cx} {B : Bk} {e : Expr} {es : List Expr} {pos p : Pos} {ta : WA B.T} {FF : FW B.S.T} {f : Addr} {fd : FuncData} {ps : List Str} {k : Nat} {x : Str}
theorem lift_call {E : XK} (hK : X.K = B.K) : ∀ σ H Q, lift B (dCall FF ta) σ H Q → tCall (spD B.S B.K FF) [] E (liftA B ta) σ H Q := fun σ H Q ⟨G, F, env, τ, Qd, s, t, k⟩ =>
  ⟨G, F, env, τ, _, s, t, fun rs τ1 G1 F1 H1 vs f1 r1 ⟨dr, q⟩ => by
    show spD B.S B.K FF (vs ++ []) H1 Q E
    rw [List.append_nil]
    exact ⟨G1, F1, τ1, rs, Qd, H, f1.k, r1, dr, q, fun r τ' G' F' H' v st ok res qd => k r τ' G' F' H' v (f1.trans ⟨st, ok⟩) (res.back (dead f1.s.dom)) qd⟩⟩
theorem de_call (hK : X.K = B.K) (F : FnOk X.prog X.w X.K X.mg X.base CX0 k f fd ps (spD B.S B.K FF)) (hr : Room k X.A) (hg : Gl X x) (hm : X.mg x = some (.ref f)) (hk : PySem.W.keepIn X.K (.ref f) = true) (hb : Binds X.K fd ps [])
    (ha : PA X (e :: es) (liftA B ta)) (hdb : (x == ("__debug__" : Str)) = false := by decide) (he : starEach (e :: es) X.env = (false, eval e X.env) :: starEach es X.env := by rfl) (hpl : (backTo pos (starEach es X.env)).any (·.1) = false := by rfl) :
    PE X (.Call (.Name x p) (e :: es) [] pos) (lift B (dCall FF ta)) := pe_imp (pe_call F hr hg hm hk hb .nil (pass0 (X := X)) ha hdb he hpl) (lift_call hK)
theorem de_call0 (hK : X.K = B.K) (F : FnOk X.prog X.w X.K X.mg X.base CX0 k f fd ps (spD B.S B.K FF)) (hr : Room k X.A) (hg : Gl X x) (hm : X.mg x = some (.ref f)) (hk : PySem.W.keepIn X.K (.ref f) = true) (hb : Binds X.K fd ps [])
    (hdb : (x == ("__debug__" : Str)) = false := by decide) : PE X (.Call (.Name x p) [] [] pos) (lift B (dCall FF dNil)) :=
  pe_imp (pe_call0 F hr hg hm hk hb .nil (pass0 (X := X)) hdb) fun σ H Q h => by
    obtain ⟨G, F, env, τ, Qd, s, t, k⟩ := lift_call (E := E0) hK σ H Q h
    exact k [] τ G F H [] s.refl .nil t
end
section
variable {P : Program} {w : World} {S : Sto} {K : PySem.W.Frag} {mg : Str → Option Value} {base : Heap}
theorem ResAll.slot {K : PySem.W.Frag} {Ha H0 G F H} : ∀ {rs : List SV} {vs : List V} (i : Nat) (s : SV), ResAll K Ha G F H rs vs → rs.all SV.dr = true → rs[i]? = some s → SvR K H0 G F H s ((vs.map some)[i]?.join)
  | _, _, _, _, .nil, _, e => by simp at e
  | .d x :: r, v :: vs, 0, s, .cons h t, _, e => by cases e; exact ⟨v, rfl, h⟩
  | .raw x :: r, v :: vs, 0, s, .cons h t, _, e => by
    cases e
    have h : v = x := h
    subst h
    rfl
  | .no :: r, _, 0, _, .cons h _, _, _ => h.elim
  | .ol _ :: r, _, 0, _, .cons h _, d, _ => by cases d
  | .vw _ :: r, _, 0, _, .cons h _, d, _ => by cases d
  | a :: r, v :: vs, i + 1, s, .cons h t, d, e => by
    have d' : (a.dr && r.all SV.dr) = true := d
    rw [Bool.and_eq_true] at d'
    exact ResAll.slot i s t d'.2 e
theorem env_start {B : Bk} {Ha G H : Hp} {F : Addr → Prop} {N : List Str} {rs : List SV} {vs : List V} (r : ResAll B.K Ha G F H rs vs) (dr : rs.all SV.dr = true) (hl : rs.length ≤ N.length) :
    EnvR B.K B.H G F H (L2.start N vs) (rs ++ List.replicate (N.length - rs.length) .no) := by
  have el := r.length
  have noOl : ∀ (m : Nat) zs, (rs ++ List.replicate (N.length - rs.length) SV.no)[m]? = some (.ol zs) → False := fun m zs em => by
    by_cases q : m < rs.length
    · rw [List.getElem?_append_left q] at em
      have := List.all_eq_true.mp dr _ (List.mem_of_getElem? em)
      cases this
    · rw [List.getElem?_append_right (by omega), List.getElem?_replicate] at em
      split at em <;> cases em
  refine ⟨?_, fun i s e => ?_, fun i j xs ys _ ei _ => (noOl i xs ei).elim⟩
  · unfold L2.start
    rw [List.length_append, List.length_append, List.length_map, List.length_replicate, List.length_replicate, el]
  · by_cases q : i < rs.length
    · rw [List.getElem?_append_left q] at e
      have z : (L2.start N vs)[i]? = (vs.map some)[i]? := by
        unfold L2.start
        rw [List.getElem?_append_left (by rw [List.length_map, ← el]; exact q)]
      rw [z]
      exact ResAll.slot i s r dr e
    · rw [List.getElem?_append_right (by omega), List.getElem?_replicate] at e
      split at e
      · cases e
        trivial
      · cases e
/-- THE RULE for a def, by data -/
theorem okD {x qual : Str} {st : Stmt} {f : Addr} {fd : FuncData} {N ps : List Str} {k : Nat} {FF : FW S.T} (F : Fun K x qual st f fd) (Sc : FnScope N ps (defScope st)) (len : ∀ rs τ Q, FF rs τ Q → rs.length = ps.length) (hl : ps.length ≤ N.length)
    (hbody : ∀ (cdv : Value) (A : Around) (outer : List Env) (s : Shared) (H : Hp) (E : XK) (G : Hp) (Fp : Addr → Prop), Room k (A.deeper (PyProof.Rows.envOfC qual (defScope st) s.heap.objs.size f cdv)) →
      ∃ t : WS S.T, PSs (cxOf CX0 P w K mg base N qual (defScope st) f cdv A outer s H E).nox (defBody st) (liftS ⟨S, K, G, Fp, H⟩ t) ∧ ∀ rs τ Qd, FF rs τ Qd → t { nx := fun _ τ' => Qd (.d .none) τ', rt := Qd } (rs ++ List.replicate (N.length - rs.length) .no) τ) :
    FnOk P w K mg base CX0 (k + 1) f fd ps (spD S K FF) := by
  refine F.ok Sc (fun vs H Q E ⟨G, F, τ, rs, Qd, Ha, ok, r, dr, h, fin⟩ => by rw [← r.length]; exact len _ _ _ h) fun cdv A outer s H vs Q E hr ⟨G, Fp, τ, rs, Qd, Ha, ok, r, dr, h, fin⟩ => ?_
  obtain ⟨t, d, sem⟩ := hbody cdv A outer s H E G Fp hr
  have hle : rs.length ≤ N.length := by rw [len _ _ _ h]; exact hl
  exact ⟨_, d, G, Fp, _, τ, _, ⟨Step.refl _ _ _, ok, env_start (B := ⟨S, K, G, Fp, H⟩) r dr hle⟩, sem rs τ Qd h,
    ⟨fun G' F' σ' H' env' τ' _ st q => fin (.d .none) τ' G' F' H' .non st.s st.k Rp.non q, fun r τ' G' F' H' v f res q => fin r τ' G' F' H' v f.s f.k res q, fun _ _ _ _ _ _ _ _ q => q.elim, fun _ _ _ _ _ _ _ _ q => q.elim⟩⟩
end

/-! ### methods of own lists -/
section
variable {X : Cx} {B : Bk} {e o : Expr} {pos : Pos} {te : W B.T} {i : Nat}
theorem at_slot {G H : Hp} {F : Addr → Prop} {σ : L2.St} {env : List SV} {τ : B.T} {xs : List D} (s : StR B G F σ H env τ) (e : env[i]? = some (.ol xs)) : ∃ p, σ[i]? = some (some (.ref p)) ∧ Own B.K B.H G F H p xs := by
  obtain ⟨p, e1, w⟩ := s.e.at' i _ e
  refine ⟨p, ?_, w⟩
  cases z : σ[i]? with
  | none => rw [z] at e1; cases e1
  | some u => rw [z] at e1; exact congrArg some e1
/-- x.append(e) -/
def dApp {T : Type} (i : Nat) (te : W T) : WS T := fun D env τ => match env[i]? with
  | some (.ol xs) => te env τ fun r τ1 => opt r.dat? fun y => xs.length < sizeLine ∧ D.nx (env.set i (.ol (xs ++ [y]))) τ1
  | _ => False
theorem ds_app {st : Stmt} (h : PS X st (tDrop (tBM X.K "list" rAppend (tVar i) (tCons (lift B te) tNil)))) : PS X st (liftS B (dApp i te)) :=
  ps_imp h fun D σ H ⟨G, F, env, τ, Dd, s, z, E⟩ => by
    unfold dApp at z
    split at z
    · rename_i xs ee
      obtain ⟨p, e1, w⟩ := at_slot s ee
      obtain ⟨vs, e2, a2⟩ := w.at'
      refine ⟨_, e1, .inl ⟨rfl, _, .of e2⟩, G, F, env, τ, _, s, z, fun r τ1 G1 F1 H1 v f1 r1 q => ?_⟩
      obtain ⟨y, ey, hz, q⟩ := opt_of q
      obtain ⟨G2, f2, sm, r2⟩ := r1.dat f1 ey
      have s2 := s.fin f2
      obtain ⟨vs2, e3, a3⟩ := (w.step f2.s).at'
      have s3 := s2.mut ee (by rw [e1]; rfl) (a3.append (.cons r2 .nil))
      exact ⟨p, vs2, v, rfl, rfl, e3, by rw [a3.length]; exact hz, E.nx G2 F1 σ _ _ τ1 f2.s.g s3 q⟩
    · exact z.elim
end
end Z

namespace Z
open PySem L2

/-! ### more readings of data -/
def SV.seqd? : SV → Option (List D)
  | .d (.list xs) => some xs
  | .d (.tuple xs) => some xs
  | .ol xs => some xs
  | .vw xs => some xs
  | _ => none
/-- as data, a list of one's own as it is now -/
def SV.now? : SV → Option D
  | .d x => some x
  | .ol xs => some (.list xs)
  | .vw xs => some (.list xs)
  | _ => none
theorem Res.seqd {K : PySem.W.Frag} {Ha G F H v} (sm : Same G H) {s : SV} {xs : List D} (r : Res K Ha G F H s v) (e : s.seqd? = some xs) : ∃ p vs, v = .ref p ∧ (SqL K H p vs ∨ SqT K H p vs) ∧ RpAll K G vs xs := by
  have viaL : s.lst? = some xs → ∃ p vs, v = .ref p ∧ (SqL K H p vs ∨ SqT K H p vs) ∧ RpAll K G vs xs := fun e => by
    obtain ⟨p, vs, e1, h, a⟩ := r.sql sm e
    exact ⟨p, vs, e1, .inl h.sql, a⟩
  cases s with
  | no => exact r.elim
  | raw v => cases e
  | ol ys => exact viaL e
  | vw ys => exact viaL e
  | d x =>
    cases x with
    | list ys => exact viaL e
    | tuple ys =>
      cases e
      obtain ⟨p, vs, e1, h, a⟩ := rtup r
      exact ⟨p, vs, e1, .inr (same_seqT sm h), a⟩
    | _ => cases e
theorem Res.now {K : PySem.W.Frag} {Ha G F H v} (sm : Same G H) {s : SV} {x : D} (r : Res K Ha G F H s v) (e : s.now? = some x) : x.canLay0 = true → Dp K H v x := fun c => by
  have viaL : ∀ xs, x = .list xs → s.lst? = some xs → Dp K H v x := fun xs ex el => by
    obtain ⟨p, vs, e1, h, a⟩ := r.sql sm el
    subst ex
    subst e1
    rw [PyData.canLay0] at c
    exact .lst h.sql ((a.mono sm).dp c)
  cases s with
  | no => exact r.elim
  | raw v => cases e
  | ol ys => cases e; exact viaL _ rfl rfl
  | vw ys => cases e; exact viaL _ rfl rfl
  | d y => cases e; exact (Rp.mono sm r).dp c

/-! ### == and != -/
def scalD : D → D → Bool
  | .none, .none => true | .none, .int _ => true | .int _, .none => true | .none, .bool _ => true | .bool _, .none => true | .none, .str _ => true | .str _, .none => true
  | .int _, .int _ => true | .bool _, .bool _ => true | .str _, .str _ => true | .int _, .str _ => true | .str _, .int _ => true | .bool _, .str _ => true | .str _, .bool _ => true
  | _, _ => false
def eqOk (a b : D) : Bool := scalD a b || (SeqAt.shaped a && SeqAt.shaped b)
def gEq (x y : SV) (Q : SV → Prop) : Prop := opt x.now? fun a => opt y.now? fun b => eqOk a b = true ∧ Q (.d (.bool (PyData.eqv a b)))
def gNe (x y : SV) (Q : SV → Prop) : Prop := opt x.now? fun a => opt y.now? fun b => eqOk a b = true ∧ Q (.d (.bool (!PyData.eqv a b)))
theorem scal_eqv {K : PySem.W.Frag} {G : Hp} : ∀ {a b : D} {v w : V}, scalD a b = true → Rp K G v a → Rp K G w b → scal v w = true ∧ decide (v = w) = PyData.eqv a b
  | .none, .none, _, _, _, .non, .non => ⟨rfl, by simp [PyData.eqv]⟩
  | .none, .int _, _, _, _, .non, .int _ => ⟨rfl, by simp [PyData.eqv]⟩
  | .int _, .none, _, _, _, .int _, .non => ⟨rfl, by simp [PyData.eqv]⟩
  | .none, .bool _, _, _, _, .non, .bl _ => ⟨rfl, by simp [PyData.eqv]⟩
  | .bool _, .none, _, _, _, .bl _, .non => ⟨rfl, by simp [PyData.eqv]⟩
  | .none, .str _, _, _, _, .non, .str _ => ⟨rfl, by simp [PyData.eqv]⟩
  | .str _, .none, _, _, _, .str _, .non => ⟨rfl, by simp [PyData.eqv]⟩
  | .int _, .int _, _, _, _, .int _, .int _ => ⟨rfl, by rw [dec_int, PyData.eqv]⟩
  | .bool _, .bool _, _, _, _, .bl _, .bl _ => ⟨rfl, by rw [dec_bl, PyData.eqv]⟩
  | .str _, .str _, _, _, _, .str _, .str _ => ⟨rfl, by rw [dec_str, PyData.eqv]⟩
  | .int _, .str _, _, _, _, .int _, .str _ => ⟨rfl, by simp [PyData.eqv]⟩
  | .str _, .int _, _, _, _, .str _, .int _ => ⟨rfl, by simp [PyData.eqv]⟩
  | .bool _, .str _, _, _, _, .bl _, .str _ => ⟨rfl, by simp [PyData.eqv]⟩
  | .str _, .bool _, _, _, _, .str _, .bl _ => ⟨rfl, by simp [PyData.eqv]⟩
theorem scal_d : ∀ {a b : D} {x : SV}, scalD a b = true → x.now? = some a → x = .d a := fun {a b x} h e => by
  cases x with
  | d y => cases e; rfl
  | ol ys => cases e; cases b <;> cases h
  | vw ys => cases e; cases b <;> cases h
  | no => cases e
  | raw _ => cases e
theorem scal_d2 : ∀ {a b : D} {x : SV}, scalD a b = true → x.now? = some b → x = .d b := fun {a b x} h e => by
  cases x with
  | d y => cases e; rfl
  | ol ys => cases e; cases a <;> cases h
  | vw ys => cases e; cases a <;> cases h
  | no => cases e
  | raw _ => cases e
section
variable {X : Cx} {B : Bk}
def rEqA (K : PySem.W.Frag) : R2 := fun x y H Q => rEq x y H Q ∨ rEqD K x y H Q
def rNeA (K : PySem.W.Frag) : R2 := fun x y H Q => rNe x y H Q ∨ rNeD K x y H Q
theorem op_eqA (hu : X.A.units + 64 < cLine) : OpR X (compareOp .Eq) (rEqA X.K) := op_eq.or (op_eqD hu)
theorem op_neA (hu : X.A.units + 64 < cLine) : OpR X (compareOp .NotEq) (rNeA X.K) := op_ne.or (op_neD hu)
theorem od_eq (hK : X.K = B.K) : OpD B (rEqA X.K) gEq := fun x y vx vy Ha Hb G F H τ Qv Q k rx ry h fin => by
  rw [hK]
  obtain ⟨a, ea, h⟩ := opt_of h
  obtain ⟨b, eb, hk, hq⟩ := opt_of h
  unfold eqOk at hk
  rw [Bool.or_eq_true] at hk
  rcases hk with hk | hk
  · have e1 := scal_d hk ea
    have e2 := scal_d2 hk eb
    subst e1 e2
    obtain ⟨h1, h2⟩ := scal_eqv hk rx ry
    exact .inl ⟨h1, by rw [h2]; exact fin.d k (.bl _) hq⟩
  · rw [Bool.and_eq_true] at hk
    exact .inr ⟨a, b, rx.now k.same ea (SeqAt.canLay_of_shaped hk.1), ry.now k.same eb (SeqAt.canLay_of_shaped hk.2), hk.1, hk.2, fin.d k (.bl _) hq⟩
theorem od_ne (hK : X.K = B.K) : OpD B (rNeA X.K) gNe := fun x y vx vy Ha Hb G F H τ Qv Q k rx ry h fin => by
  rw [hK]
  obtain ⟨a, ea, h⟩ := opt_of h
  obtain ⟨b, eb, hk, hq⟩ := opt_of h
  unfold eqOk at hk
  rw [Bool.or_eq_true] at hk
  rcases hk with hk | hk
  · have e1 := scal_d hk ea
    have e2 := scal_d2 hk eb
    subst e1 e2
    obtain ⟨h1, h2⟩ := scal_eqv hk rx ry
    exact .inl ⟨h1, by rw [h2]; exact fin.d k (.bl _) hq⟩
  · rw [Bool.and_eq_true] at hk
    exact .inr ⟨a, b, rx.now k.same ea (SeqAt.canLay_of_shaped hk.1), ry.now k.same eb (SeqAt.canLay_of_shaped hk.2), hk.1, hk.2, fin.d k (.bl _) hq⟩

/-! ### <, <= of ints and texts -/
def strLt (a b : Str) : Bool := decide (a.cps.toList < b.cps.toList)
def gCmp (f : Int → Int → Bool) (g : Str → Str → Bool) (x y : SV) (Q : SV → Prop) : Prop := match x, y with
  | .d (.int i), .d (.int j) => Q (.d (.bool (f i j)))
  | .d (.str a), .d (.str b) => Q (.d (.bool (g a b)))
  | _, _ => False
def rCmpA (f : Int → Int → Bool) (g : Str → Str → Bool) : R2 := fun x y H Q => (rI0 fun i j => .bl (f i j)) x y H Q ∨ ∃ i j, x = .str i ∧ y = .str j ∧ Q (.bl (g i j)) H
theorem od_cmp {f : Int → Int → Bool} {g : Str → Str → Bool} : OpD B (rCmpA f g) (gCmp f g) := fun x y vx vy Ha Hb G F H τ Qv Q k rx ry h fin => by
  unfold gCmp at h
  split at h
  · exact .inl ⟨_, _, rint rx, rint ry, fin.d k (.bl _) h⟩
  · exact .inr ⟨_, _, rstr rx, rstr ry, fin.d k (.bl _) h⟩
  · exact h.elim
abbrev gLt := gCmp (fun i j => decide (i < j)) strLt
abbrev gLe := gCmp (fun i j => decide (i ≤ j)) (fun a b => !strLt b a)
abbrev gGt := gCmp (fun i j => decide (j < i)) (fun a b => strLt b a)
abbrev gGe := gCmp (fun i j => decide (j ≤ i)) (fun a b => !strLt a b)
theorem op_ltA : OpR X (compareOp .Lt) (rCmpA (fun i j => decide (i < j)) strLt) := op_lt.or op_lt_str
theorem op_leA : OpR X (compareOp .LtE) (rCmpA (fun i j => decide (i ≤ j)) fun a b => !strLt b a) := op_le.or op_le_str
theorem op_gtA : OpR X (compareOp .Gt) (rCmpA (fun i j => decide (j < i)) fun a b => strLt b a) := op_gt.or op_gt_str
theorem op_geA : OpR X (compareOp .GtE) (rCmpA (fun i j => decide (j ≤ i)) fun a b => !strLt a b) := op_ge.or op_ge_str

/-! ### is None -/
def SV.isN : SV → Option Bool
  | .d .none => some true
  | .no => none
  | _ => some false
def gIs (neg : Bool) (x y : SV) (Q : SV → Prop) : Prop := y = .d .none ∧ opt x.isN fun b => Q (.d (.bool (if neg then !b else b)))
theorem isN_ok {K : PySem.W.Frag} {Ha G F H v b} : ∀ {x : SV}, Res K Ha G F H x v → (∀ u, x = .raw u → u ≠ .non) → x.isN = some b → decide (v = .non) = b
  | .d .none, .non, _, e => by cases e; rfl
  | .d (.bool _), .bl _, _, e => by cases e; rfl
  | .d (.int _), .int _, _, e => by cases e; rfl
  | .d (.str _), .str _, _, e => by cases e; rfl
  | .d (.list _), .lst _ _, _, e => by cases e; rfl
  | .d (.tuple _), .tup _ _, _, e => by cases e; rfl
  | .d (.dict _), .emp _, _, e => by cases e; rfl
  | .ol _, ⟨p, e1, _⟩, _, e => by cases e; subst e1; rfl
  | .vw _, ⟨p, _, e1, _⟩, _, e => by cases e; subst e1; rfl
  | .raw u, h, n, e => by
    cases e
    have h : v = u := h
    subst h
    exact decide_eq_false (n _ rfl)
  | .no, h, _, _ => h.elim
def gIsN (x y : SV) (Q : SV → Prop) : Prop := (∀ u, x = .raw u → u ≠ .non) ∧ y = .d .none ∧ opt x.isN fun b => Q (.d (.bool b))
def gNotN (x y : SV) (Q : SV → Prop) : Prop := (∀ u, x = .raw u → u ≠ .non) ∧ y = .d .none ∧ opt x.isN fun b => Q (.d (.bool (!b)))
theorem od_isN : OpD B (fun x y H Q => y = .non ∧ Q (.bl (decide (x = .non))) H) gIsN := fun x y vx vy Ha Hb G F H τ Qv Q k rx ry h fin => by
  obtain ⟨hn, ey, h⟩ := h
  obtain ⟨b, eb, h⟩ := opt_of h
  subst ey
  exact ⟨rnon ry, by rw [isN_ok rx hn eb]; exact fin.d k (.bl _) h⟩
theorem od_notN : OpD B (fun x y H Q => y = .non ∧ Q (.bl (!decide (x = .non))) H) gNotN := fun x y vx vy Ha Hb G F H τ Qv Q k rx ry h fin => by
  obtain ⟨hn, ey, h⟩ := h
  obtain ⟨b, eb, h⟩ := opt_of h
  subst ey
  exact ⟨rnon ry, by rw [isN_ok rx hn eb]; exact fin.d k (.bl _) h⟩

/-! ### in, not in -/
def flatD : D → Bool
  | .none => true
  | .bool _ => true
  | .int _ => true
  | .str _ => true
  | _ => false
theorem flat_ok {K : PySem.W.Frag} {G : Hp} : ∀ {a : D} {v : V}, flatD a = true → Rp K G v a → flatV v = true
  | .none, _, _, .non => rfl
  | .bool _, _, _, .bl _ => rfl
  | .int _, _, _, .int _ => rfl
  | .str _, _, _, .str _ => rfl
theorem flat_eqV {K : PySem.W.Frag} {G : Hp} : ∀ {a b : D} {v w : V}, flatD a = true → flatD b = true → Rp K G v a → Rp K G w b → eqV v w = PyData.eqv a b
  | .none, .none, _, _, _, _, .non, .non => by simp [PyData.eqv, eqV]
  | .none, .int _, _, _, _, _, .non, .int _ => by simp [PyData.eqv, eqV]
  | .none, .bool _, _, _, _, _, .non, .bl _ => by simp [PyData.eqv, eqV]
  | .none, .str _, _, _, _, _, .non, .str _ => by simp [PyData.eqv, eqV]
  | .bool _, .none, _, _, _, _, .bl _, .non => by simp [PyData.eqv, eqV]
  | .bool _, .int _, _, _, _, _, .bl _, .int _ => by simp [PyData.eqv, eqV]
  | .bool _, .bool _, _, _, _, _, .bl _, .bl _ => by simp [PyData.eqv, eqV]
  | .bool _, .str _, _, _, _, _, .bl _, .str _ => by simp [PyData.eqv, eqV]
  | .int _, .none, _, _, _, _, .int _, .non => by simp [PyData.eqv, eqV]
  | .int _, .int _, _, _, _, _, .int _, .int _ => by simp [PyData.eqv, eqV]
  | .int _, .bool _, _, _, _, _, .int _, .bl _ => by simp [PyData.eqv, eqV]
  | .int _, .str _, _, _, _, _, .int _, .str _ => by simp [PyData.eqv, eqV]
  | .str _, .none, _, _, _, _, .str _, .non => by simp [PyData.eqv, eqV]
  | .str _, .int _, _, _, _, _, .str _, .int _ => by simp [PyData.eqv, eqV]
  | .str _, .bool _, _, _, _, _, .str _, .bl _ => by simp [PyData.eqv, eqV]
  | .str _, .str _, _, _, _, _, .str _, .str _ => by simp [PyData.eqv, eqV]
theorem flat_all {K : PySem.W.Frag} {G : Hp} : ∀ {xs : List D} {vs : List V}, xs.all flatD = true → RpAll K G vs xs → vs.all flatV = true
  | [], _, _, .nil => rfl
  | x :: xs, _, h, .cons r a => by
    rw [List.all_cons, Bool.and_eq_true] at h ⊢
    exact ⟨flat_ok h.1 r, flat_all h.2 a⟩
theorem flat_any {K : PySem.W.Frag} {G : Hp} {b : D} {w : V} (hb : flatD b = true) (rb : Rp K G w b) : ∀ {xs : List D} {vs : List V}, xs.all flatD = true → RpAll K G vs xs → inV w vs = xs.any fun y => PyData.eqv y b
  | [], _, _, .nil => rfl
  | x :: xs, _, h, .cons r a => by
    rw [List.all_cons, Bool.and_eq_true] at h
    unfold inV
    rw [List.any_cons, List.any_cons, flat_eqV h.1 hb r rb]
    exact congrArg _ (flat_any hb rb h.2 a)
def gIn (neg : Bool) (x y : SV) (Q : SV → Prop) : Prop := (∃ c z, x = .d (.str ⟨#[c]⟩) ∧ y = .d (.str z) ∧ Q (.d (.bool (if neg then !decide (c ∈ z.cps.toList) else decide (c ∈ z.cps.toList))))) ∨
  ∃ a xs, x = .d a ∧ y.seqd? = some xs ∧ flatD a = true ∧ xs.all flatD = true ∧ Q (.d (.bool (if neg then !(xs.any fun y => PyData.eqv y a) else xs.any fun y => PyData.eqv y a)))
def rInA (K : PySem.W.Frag) (neg : Bool) : R2 := fun x y H Q => (∃ (c : Nat) (z : Str), x = .str ⟨#[c]⟩ ∧ y = .str z ∧ Q (.bl (if neg then !decide (c ∈ z.cps.toList) else decide (c ∈ z.cps.toList))) H) ∨ rIn K neg x y H Q
theorem op_inA : OpR X (compareOp .In) (rInA X.K false) := op_in_sign.or op_in_seq
theorem op_notInA : OpR X (compareOp .NotIn) (rInA X.K true) := op_notIn_sign.or op_notIn_seq
theorem od_in (hK : X.K = B.K) {neg : Bool} : OpD B (rInA X.K neg) (gIn neg) := fun x y vx vy Ha Hb G F H τ Qv Q k rx ry h fin => by
  rw [hK]
  rcases h with ⟨c, z, ex, ey, h⟩ | ⟨a, xs, ex, ey, fa, fs, h⟩
  · subst ex ey
    exact .inl ⟨c, z, rstr rx, rstr ry, fin.d k (.bl _) h⟩
  · subst ex
    obtain ⟨p, vs, e1, hs, r⟩ := ry.seqd k.same ey
    refine .inr ⟨p, vs, e1, hs, flat_ok fa rx, flat_all fs r, ?_⟩
    rw [flat_any fa rx fs r]
    exact fin.d k (.bl _) h
end
end Z

namespace Z
open PySem L2

/-! ### items and slices -/
def gIx (x y : SV) (Q : SV → Prop) : Prop := ∃ i, y = .d (.int i) ∧ match x with
  | .d (.str z) => z.length ≤ sizeLine ∧ opt (atI z.cps.toList i) fun c => Q (.d (sg c))
  | x => opt x.seqd? fun xs => opt (atI xs i) fun d => Q (.d d)
theorem atI_rp {K : PySem.W.Frag} {G : Hp} {vs : List V} {xs : List D} {i : Int} {d : D} (a : RpAll K G vs xs) (e : atI xs i = some d) : ∃ v, atI vs i = some v ∧ Rp K G v d := by
  unfold atI at e ⊢
  rw [a.length]
  cases q : ixN xs.length i with
  | none => rw [q] at e; cases e
  | some j =>
    rw [q] at e
    exact a.getD e
section
variable {X : Cx} {B : Bk} {a b e : Expr} {pos : Pos} {ta tb te : W B.T} {r : R2} {g : SV → SV → (SV → Prop) → Prop}
theorem IxR.or {r r' : R2} (h : IxR X r) (h' : IxR X r') : IxR X (fun x y H Q => r x y H Q ∨ r' x y H Q) := fun value slice pins s σ H x y v u Q I rx ry q hs =>
  q.elim (fun q => h value slice pins s σ H x y v u Q I rx ry q hs) fun q => h' value slice pins s σ H x y v u Q I rx ry q hs
def rIxA (K : PySem.W.Frag) : R2 := fun x y H Q => rIxL K x y H Q ∨ rIxT K x y H Q ∨ rIxS x y H Q
theorem ix_A : IxR X (rIxA X.K) := IxR.or ix_list (IxR.or ix_tup ix_str)
theorem od_ix (hK : X.K = B.K) : OpD B (rIxA X.K) gIx := fun x y vx vy Ha Hb G F H τ Qv Q k rx ry h fin => by
  rw [hK]
  obtain ⟨i, ey, h⟩ := h
  subst ey
  have go : opt x.seqd? (fun xs => opt (atI xs i) fun d => Qv (.d d)) → rIxA B.K vx vy H Q := fun h => by
    obtain ⟨xs, ex, h⟩ := opt_of h
    obtain ⟨d, ed, h⟩ := opt_of h
    obtain ⟨p, vs, e1, hs, ra⟩ := rx.seqd k.same ex
    obtain ⟨w, ew, rw'⟩ := atI_rp ra ed
    rcases hs with hs | hs
    · exact .inl ⟨p, vs, i, w, e1, rint ry, hs, ew, fin.d k rw' h⟩
    · exact .inr (.inl ⟨p, vs, i, w, e1, rint ry, hs, ew, fin.d k rw' h⟩)
  split at h
  · obtain ⟨hz, h⟩ := h
    obtain ⟨c, ec, h⟩ := opt_of h
    exact .inr (.inr ⟨_, i, c, rstr rx, rint ry, hz, ec, fin.d k (.str _) h⟩)
  · exact go h
theorem de_ix (hr : IxR X r) (hd : OpD B r g) (ha : PE X a (lift B ta)) (hb : PE X b (lift B tb)) (hs : PlainIx b) : PE X (.Subscript a b pos) (lift B (dOp g ta tb)) := pe_imp (pe_ix hr ha hb hs) (lift_op hd)

abbrev WO (T : Type) := List SV → T → (Option Int → T → Prop) → Prop
def liftO (B : Bk) (t : WO B.T) : TO := fun σ H Q => ∃ G F env τ Qd, StR B G F σ H env τ ∧ t env τ Qd ∧ ∀ o τ' G' F' H', Fin B G F H τ' G' F' H' → Qd o τ' → Q o H'
def dNoPart {T : Type} : WO T := fun _ τ Q => Q none τ
def dPart {T : Type} (te : W T) : WO T := fun env τ Q => te env τ fun r τ1 => ∃ i, r = .d (.int i) ∧ Q (some i) τ1
theorem po_imp {e : Option Expr} {t t' : TO} (h : PO X e t) (i : ∀ σ H Q, t' σ H Q → t σ H Q) : PO X e t' := ⟨fun pins s σ H Q I z => h.run pins s σ H Q I (i σ H Q z)⟩
theorem do_none : PO X none (liftO B dNoPart) := po_imp po_none fun σ H Q ⟨G, F, env, τ, Qd, s, t, k⟩ => k none τ G F H s.refl t
theorem do_some (h : PE X e (lift B te)) : PO X (some e) (liftO B (dPart te)) := po_imp (po_some h) fun σ H Q ⟨G, F, env, τ, Qd, s, t, k⟩ => ⟨G, F, env, τ, _, s, t, fun r τ1 G1 F1 H1 v f1 r1 ⟨i, e, q⟩ => by
  subst e
  exact ⟨i, rint r1, k _ τ1 G1 F1 H1 f1 q⟩⟩
def cutL {α : Type} (xs : List α) (lo hi : Option Int) : List α := (xs.drop (HT.sIx xs.length 0 lo)).take (HT.sIx xs.length xs.length hi - HT.sIx xs.length 0 lo)
theorem RpAll.cut {K : PySem.W.Frag} {G : Hp} {vs : List V} {xs : List D} (a : RpAll K G vs xs) (lo hi : Option Int) : RpAll K G (cutV vs lo hi) (cutL xs lo hi) := by
  unfold cutV cutL
  rw [a.length]
  exact (a.drop _).take _
def gSl (x : SV) (lo hi : Option Int) (Q : SV → Prop) : Prop := match x with
  | .d (.str z) => z.length ≤ sizeLine ∧ Q (.d (.str (cutS z lo hi)))
  | .d (.tuple xs) => Q (.d (.tuple (cutL xs lo hi)))
  | x => opt x.lst? fun xs => Q (.ol (cutL xs lo hi))
def dSl {T : Type} (te : W T) (tl th : WO T) : W T := fun env τ Q => te env τ fun x τ1 => tl env τ1 fun lo τ2 => th env τ2 fun hi τ3 => gSl x lo hi fun z => Q z τ3
def rSlAll (K : PySem.W.Frag) : V → Option Int → Option Int → Hp → VK → Prop := fun x lo hi H Q => rSlS x lo hi H Q ∨ rSlA K x lo hi H Q ∨ rSlL K x lo hi H Q
theorem sl_A : SlR X (rSlAll X.K) := SlR.or sl_str (SlR.or sl_tupA sl_list)
theorem cut_whole {α : Type} {xs : List α} {lo hi : Option Int} (h : HT.sIx xs.length 0 lo = 0 ∧ HT.sIx xs.length xs.length hi = xs.length) : cutL xs lo hi = xs := by
  unfold cutL
  rw [h.1, h.2, List.drop_zero, Nat.sub_zero, List.take_length]
theorem de_slice {lo hi : Option Expr} {tl th : WO B.T} {p2 : Pos} (hK : X.K = B.K) (he : PE X e (lift B te)) (hl : PO X lo (liftO B tl)) (hu : PO X hi (liftO B th)) : PE X (.Subscript e (.Slice lo hi none p2) pos) (lift B (dSl te tl th)) :=
  pe_imp (pe_slice sl_A he hl hu) fun σ H Q ⟨G, F, env, τ, Qd, s, t, k⟩ => ⟨G, F, env, τ, _, s, t, fun x τ1 G1 F1 H1 v f1 r1 q1 => ⟨G1, F1, env, τ1, _, s.fin f1, q1, fun l τ2 G2 F2 H2 f2 q2 =>
    ⟨G2, F2, env, τ2, _, s.fin (f1.trans f2), q2, fun u τ3 G3 F3 H3 f3 q3 => by
      have f13 := f1.trans (f2.trans f3)
      have r3 := r1.step (f2.trans f3).s
      have fin := FinT.trans k f13
      show rSlAll X.K v l u H3 Q
      rw [hK]
      unfold gSl at q3
      split at q3
      · exact .inl ⟨_, rstr r3, q3.1, fin.d f13.k (.str _) q3.2⟩
      · obtain ⟨p, vs, e1, h, a⟩ := rtup r3
        refine .inr (.inl ⟨p, vs, e1, same_seqT f13.k.same h, fun w => ?_, fun w p' hp => ?_⟩)
        · rw [a.length] at w
          rw [cut_whole w] at q3
          exact fin.d f13.k (.tup h a) q3
        · exact fin.tup f13.k hp (a.cut l u) q3
      · obtain ⟨xs, ex, q3⟩ := opt_of q3
        obtain ⟨p, vs, e1, h, a⟩ := r3.sql f13.k.same ex
        exact .inr (.inr ⟨p, vs, e1, h.sql, fun p' hp => fin.ol f13.k hp (a.cut l u) q3⟩)⟩⟩⟩
end

/-! ### built-ins -/
section
variable {X : Cx} {B : Bk}
theorem ResAll.one {K : PySem.W.Frag} {Ha G F H} {x : SV} {vs : List V} (r : ResAll K Ha G F H [x] vs) : ∃ v, vs = [v] ∧ Res K Ha G F H x v := by
  cases r with
  | cons r t =>
    cases t
    exact ⟨_, rfl, r⟩
theorem ResAll.two {K : PySem.W.Frag} {Ha G F H} {x y : SV} {vs : List V} (r : ResAll K Ha G F H [x, y] vs) : ∃ v w, vs = [v, w] ∧ Res K Ha G F H x v ∧ Res K Ha G F H y w := by
  cases r with
  | cons r t =>
    cases t with
    | cons r2 t =>
      cases t
      exact ⟨_, _, rfl, r, r2⟩
def SV.size? : SV → Option Nat
  | .d (.str z) => if z.length ≤ sizeLine then some z.length else none
  | x => x.seqd?.map List.length
def gLen (rs : List SV) (Q : SV → Prop) : Prop := match rs with
  | [x] => opt x.size? fun n => Q (.d (.int n))
  | _ => False
theorem cd_len (hK : X.K = B.K) : CallD B (fun xs H Q => ∃ x n, xs = [x] ∧ LenV X.K x H n ∧ Q (.int n) H) gLen := fun rs vs Ha G F H τ Qv Q k r h fin => by
  unfold gLen at h
  split at h
  · rename_i x
    obtain ⟨n, en, h⟩ := opt_of h
    obtain ⟨v, rfl, rx⟩ := r.one
    refine ⟨v, n, rfl, ?_, fin.d k (.int _) h⟩
    rw [hK]
    have viaS : x.seqd?.map List.length = some n → LenV B.K v H n := fun e => by
      cases q : x.seqd? with
      | none => rw [q] at e; cases e
      | some xs =>
        rw [q] at e
        cases e
        obtain ⟨p, ws, e1, hs, a⟩ := rx.seqd k.same q
        subst e1
        rcases hs with hs | hs
        · exact .inl ⟨ws, hs, a.length.symm⟩
        · exact .inr ⟨ws, hs, a.length.symm⟩
    unfold SV.size? at en
    split at en
    · rename_i z
      rw [rstr rx]
      split at en
      · rename_i hz
        cases en
        exact ⟨hz, rfl⟩
      · cases en
    · exact viaS en
  · exact h.elim

/-- the type of data -/
def tyN : D → String
  | .none => "NoneType"
  | .bool _ => "bool"
  | .int _ => "int"
  | .str _ => "str"
  | .list _ => "list"
  | .tuple _ => "tuple"
  | .dict _ => "dict"
def isT (a c : String) : Bool := a == c || (a == "bool" && c == "int")
def SV.tyN : SV → Option String
  | .d x => some (Z.tyN x)
  | .ol _ => some "list"
  | .vw _ => some "list"
  | _ => none
def tyNames : List String := ["NoneType", "bool", "int", "str", "list", "tuple", "dict"]
theorem tyX_ok {K : PySem.W.Frag} {Ha G F H v n} (sm : Same G H) : ∀ {x : SV}, Res K Ha G F H x v → x.tyN = some n → n ∈ tyNames ∧ TyX K H v (.type n)
  | .d .none, .non, e => by cases e; exact ⟨by simp [Z.tyN, tyNames], .base .non⟩
  | .d (.bool _), .bl _, e => by cases e; exact ⟨by simp [Z.tyN, tyNames], .base (.bl _)⟩
  | .d (.int _), .int _, e => by cases e; exact ⟨by simp [Z.tyN, tyNames], .base (.int _)⟩
  | .d (.str _), .str _, e => by cases e; exact ⟨by simp [Z.tyN, tyNames], .base (.str _)⟩
  | .d (.list _), .lst h _, e => by
    cases e
    refine ⟨by simp [Z.tyN, tyNames], ?_⟩
    rcases same_sqp sm h with (h | ⟨o, h⟩) | ⟨its, h, _⟩
    · exact .base (.lst h)
    · exact .base (.frz h)
    · exact .kList h rfl
  | .d (.tuple _), .tup h _, e => by
    cases e
    refine ⟨by simp [Z.tyN, tyNames], ?_⟩
    rcases same_seqT sm h with (h | ⟨o, h⟩) | ⟨o, its, n, h, hc, _⟩
    · exact .base (.tup h)
    · exact .fTuple h
    · exact .kTuple h hc
  | .d (.dict _), .emp h, e => by cases e; exact ⟨by simp [Z.tyN, tyNames], .base (.dK (sm _ _ h))⟩
  | .ol _, ⟨p, e1, w⟩, e => by
    cases e
    subst e1
    obtain ⟨vs, e2, _⟩ := w.at'
    exact ⟨by simp [Z.tyN, tyNames], .base (.lst e2)⟩
  | .vw _, ⟨p, vs, e1, e2, _⟩, e => by
    cases e
    subst e1
    exact ⟨by simp [Z.tyN, tyNames], .base (.lst e2)⟩
  | .no, h, _ => h.elim
  | .raw _, _, e => by cases e
theorem kit_all : (tyNames.all fun a => tyNames.all fun c => decide (kitB a c = some (isT a c))) = true := by decide +kernel
def gIsi (rs : List SV) (Q : SV → Prop) : Prop := match rs with
  | [x, .raw (.ty c)] => tyNames.contains c = true ∧ opt x.tyN fun n => Q (.d (.bool (isT n c)))
  | _ => False
theorem cd_isi (hK : X.K = B.K) : CallD B (rIsi X.K) gIsi := fun rs vs Ha G F H τ Qv Q k r h fin => by
  unfold gIsi at h
  split at h
  · obtain ⟨hc, h⟩ := h
    obtain ⟨n, en, h⟩ := opt_of h
    obtain ⟨v, w, rfl, rx, ry⟩ := r.two
    have ry : w = .ty _ := ry
    subst ry
    obtain ⟨hn, ty⟩ := tyX_ok k.same rx en
    have z := List.all_eq_true.mp (List.all_eq_true.mp kit_all n hn) _ (List.contains_iff_mem.mp hc)
    rw [hK]
    exact ⟨v, _, _, _, _, rfl, .ty _, ty, kit_ty (of_decide_eq_true z), fin.d k (.bl _) h⟩
  · exact h.elim

/-- data that are truths -/
def bools? : List D → Option (List Bool)
  | [] => some []
  | .bool b :: r => (bools? r).map (b :: ·)
  | _ :: _ => none
theorem bools_ok {K : PySem.W.Frag} {G : Hp} : ∀ {xs : List D} {vs : List V} {bs : List Bool}, RpAll K G vs xs → bools? xs = some bs → vs = bs.map V.bl
  | [], _, _, .nil, e => by cases e; rfl
  | .bool b :: r, _, _, .cons (.bl _) a, e => by
    cases q : bools? r with
    | none => rw [bools?, q] at e; cases e
    | some cs => rw [bools?, q] at e; cases e; rw [bools_ok a q]; rfl
  | .none :: _, _, _, _, e => by cases e
  | .int _ :: _, _, _, _, e => by cases e
  | .str _ :: _, _, _, _, e => by cases e
  | .list _ :: _, _, _, _, e => by cases e
  | .tuple _ :: _, _, _, _, e => by cases e
  | .dict _ :: _, _, _, _, e => by cases e
def ints? : List D → Option (List Int)
  | [] => some []
  | .int b :: r => (ints? r).map (b :: ·)
  | _ :: _ => none
theorem ints_ok {K : PySem.W.Frag} {G : Hp} : ∀ {xs : List D} {vs : List V} {bs : List Int}, RpAll K G vs xs → ints? xs = some bs → vs = bs.map V.int
  | [], _, _, .nil, e => by cases e; rfl
  | .int b :: r, _, _, .cons (.int _) a, e => by
    cases q : ints? r with
    | none => rw [ints?, q] at e; cases e
    | some cs => rw [ints?, q] at e; cases e; rw [ints_ok a q]; rfl
  | .none :: _, _, _, _, e => by cases e
  | .bool _ :: _, _, _, _, e => by cases e
  | .str _ :: _, _, _, _, e => by cases e
  | .list _ :: _, _, _, _, e => by cases e
  | .tuple _ :: _, _, _, _, e => by cases e
  | .dict _ :: _, _, _, _, e => by cases e
def strs? : List D → Option (List Str)
  | [] => some []
  | .str b :: r => (strs? r).map (b :: ·)
  | _ :: _ => none
theorem strs_ok {K : PySem.W.Frag} {G : Hp} : ∀ {xs : List D} {vs : List V} {bs : List Str}, RpAll K G vs xs → strs? xs = some bs → vs = bs.map V.str
  | [], _, _, .nil, e => by cases e; rfl
  | .str b :: r, _, _, .cons (.str _) a, e => by
    cases q : strs? r with
    | none => rw [strs?, q] at e; cases e
    | some cs => rw [strs?, q] at e; cases e; rw [strs_ok a q]; rfl
  | .none :: _, _, _, _, e => by cases e
  | .bool _ :: _, _, _, _, e => by cases e
  | .int _ :: _, _, _, _, e => by cases e
  | .list _ :: _, _, _, _, e => by cases e
  | .tuple _ :: _, _, _, _, e => by cases e
  | .dict _ :: _, _, _, _, e => by cases e
theorem bools_map (bs : List Bool) : bools? (bs.map PyData.bool) = some bs := by
  induction bs with
  | nil => rfl
  | cons b r ih => rw [List.map_cons, bools?, ih]; rfl
theorem ints_map (bs : List Int) : ints? (bs.map PyData.int) = some bs := by
  induction bs with
  | nil => rfl
  | cons b r ih => rw [List.map_cons, ints?, ih]; rfl
theorem strs_map (bs : List Str) : strs? (bs.map PyData.str) = some bs := by
  induction bs with
  | nil => rfl
  | cons b r ih => rw [List.map_cons, strs?, ih]; rfl
def gAll (rs : List SV) (Q : SV → Prop) : Prop := match rs with
  | [x] => opt (x.lst?.bind bools?) fun bs => Q (.d (.bool (bs.all id)))
  | _ => False
def gAny (rs : List SV) (Q : SV → Prop) : Prop := match rs with
  | [x] => opt (x.lst?.bind bools?) fun bs => Q (.d (.bool (bs.any id)))
  | _ => False
theorem bind_of {α β : Type} {o : Option α} {f : α → Option β} {b : β} (h : o.bind f = some b) : ∃ a, o = some a ∧ f a = some b := by
  cases o with
  | none => cases h
  | some a => exact ⟨a, rfl, h⟩
theorem cd_all (hK : X.K = B.K) : CallD B (rAll X.K) gAll := fun rs vs Ha G F H τ Qv Q k r h fin => by
  unfold gAll at h
  split at h
  · obtain ⟨bs, eb, h⟩ := opt_of h
    obtain ⟨xs, ex, eb⟩ := bind_of eb
    obtain ⟨v, rfl, rx⟩ := r.one
    obtain ⟨p, ws, e1, hs, a⟩ := rx.sql k.same ex
    have e2 := bools_ok a eb
    subst e2
    rw [hK]
    exact ⟨p, bs, by rw [e1], hs.sql, fin.d k (.bl _) h⟩
  · exact h.elim
theorem cd_any (hK : X.K = B.K) : CallD B (rAny X.K) gAny := fun rs vs Ha G F H τ Qv Q k r h fin => by
  unfold gAny at h
  split at h
  · obtain ⟨bs, eb, h⟩ := opt_of h
    obtain ⟨xs, ex, eb⟩ := bind_of eb
    obtain ⟨v, rfl, rx⟩ := r.one
    obtain ⟨p, ws, e1, hs, a⟩ := rx.sql k.same ex
    have e2 := bools_ok a eb
    subst e2
    rw [hK]
    exact ⟨p, bs, by rw [e1], hs.sql, fin.d k (.bl _) h⟩
  · exact h.elim
/-- int(x) of an int, a truth, a text that is a number -/
theorem CallR.or {f : Value} {r r' : List V → Hp → VK → Prop} (h : CallR X f r) (h' : CallR X f r') : CallR X f (fun xs H Q => r xs H Q ∨ r' xs H Q) := fun pins s σ H xs us Q I rr q =>
  q.elim (fun q => h pins s σ H xs us Q I rr q) fun q => h' pins s σ H xs us Q I rr q
def rInt : List V → Hp → VK → Prop := fun xs H Q => ((∃ i, xs = [.int i] ∧ Q (.int i) H) ∨ ∃ k, xs = [.bl k] ∧ Q (.int (if k then 1 else 0)) H) ∨ ∃ a n, xs = [.str a] ∧ PySem.intText? a = some n ∧ a.length ≤ 640 ∧ Q (.int n) H
theorem call_intA : CallR X (.type "int") rInt := CallR.or call_int1 call_int_str
def gInt (rs : List SV) (Q : SV → Prop) : Prop := match rs with
  | [.d (.int i)] => Q (.d (.int i))
  | [.d (.bool k)] => Q (.d (.int (if k then 1 else 0)))
  | [.d (.str a)] => ∃ n, PySem.intText? a = some n ∧ a.length ≤ 640 ∧ Q (.d (.int n))
  | _ => False
theorem cd_int : CallD B rInt gInt := fun rs vs Ha G F H τ Qv Q k r h fin => by
  unfold gInt at h
  split at h
  · obtain ⟨v, rfl, rx⟩ := r.one
    exact .inl (.inl ⟨_, by rw [rint rx], fin.d k (.int _) h⟩)
  · obtain ⟨v, rfl, rx⟩ := r.one
    exact .inl (.inr ⟨_, by rw [rbl rx], fin.d k (.int _) h⟩)
  · obtain ⟨n, e1, e2, h⟩ := h
    obtain ⟨v, rfl, rx⟩ := r.one
    exact .inr ⟨_, n, by rw [rstr rx], e1, e2, fin.d k (.int _) h⟩
  · exact h.elim
def gII (f : Int → Int → Int) (rs : List SV) (Q : SV → Prop) : Prop := match rs with
  | [.d (.int i), .d (.int j)] => Q (.d (.int (f i j)))
  | _ => False
theorem cd_II {f : Int → Int → Int} : CallD B (fun xs H Q => ∃ i j, xs = [.int i, .int j] ∧ Q (.int (f i j)) H) (gII f) := fun rs vs Ha G F H τ Qv Q k r h fin => by
  unfold gII at h
  split at h
  · obtain ⟨v, w, rfl, rx, ry⟩ := r.two
    exact ⟨_, _, by rw [rint rx, rint ry], fin.d k (.int _) h⟩
  · exact h.elim
end
end Z

namespace Z
open PySem L2

/-! ### known defs -/
structure Known (P : Program) (w : World) (K : PySem.W.Frag) (mg : Str → Option Value) (base : Heap) (S : Sto) (x : Str) (ps : List Str) (k : Nat) (FF : FW S.T) : Prop where
  ex : ∃ f fd, FnOk P w K mg base CX0 k f fd ps (spD S K FF) ∧ mg x = some (.ref f) ∧ PySem.W.keepIn K (.ref f) = true ∧ Binds K fd ps []
section
variable {X : Cx} {B : Bk} {e : Expr} {es : List Expr} {pos p : Pos} {ta : WA B.T} {FF : FW B.S.T} {ps : List Str} {k : Nat} {x : Str} {te : W B.T}
theorem de_callK (hK : X.K = B.K) (h : Known X.prog X.w X.K X.mg X.base B.S x ps k FF) (hr : Room k X.A) (hg : Gl X x)
    (ha : PA X (e :: es) (liftA B ta)) (hdb : (x == ("__debug__" : Str)) = false := by decide) (he : starEach (e :: es) X.env = (false, eval e X.env) :: starEach es X.env := by rfl) (hpl : (backTo pos (starEach es X.env)).any (·.1) = false := by rfl) :
    PE X (.Call (.Name x p) (e :: es) [] pos) (lift B (dCall FF ta)) := by
  obtain ⟨f, fd, F, hm, hk, hb⟩ := h.ex
  rw [hK] at F
  exact de_call hK (by rw [hK]; exact F) hr hg hm hk hb ha hdb he hpl
theorem de_callK0 (hK : X.K = B.K) (h : Known X.prog X.w X.K X.mg X.base B.S x ps k FF) (hr : Room k X.A) (hg : Gl X x) (hdb : (x == ("__debug__" : Str)) = false := by decide) :
    PE X (.Call (.Name x p) [] [] pos) (lift B (dCall FF dNil)) := by
  obtain ⟨f, fd, F, hm, hk, hb⟩ := h.ex
  rw [hK] at F
  exact de_call0 hK (by rw [hK]; exact F) hr hg hm hk hb hdb
/-- a built-in type as a value -/
theorem de_ty {n : String} (hg : Gl X x) (hm : X.mg x = none) (hv : bootBuiltins x = some (.type n)) (hn : x ≠ "__name__" := by decide) (hd : (x == ("__debug__" : Str)) = false := by decide) : PE X (.Name x p) (lift B (dRaw (.ty n))) :=
  de_raw (pe_bltn hg hm hv rfl hn hd)
/-- a constant of the module -/
theorem de_gint {i : Int} (hg : Gl X x) (hm : ∃ t, X.mg x = some (.int i t)) (hd : (x == ("__debug__" : Str)) = false := by decide) : PE X (.Name x p) (lift B (dC (.int i))) := by
  obtain ⟨t, hm⟩ := hm
  exact de_c (pe_glob (v := .int i) hg hm ⟨t, rfl⟩ hd) fun _ => .int i
theorem de_gstr {z : Str} (hg : Gl X x) (hm : ∃ t, X.mg x = some (.str z t)) (hd : (x == ("__debug__" : Str)) = false := by decide) : PE X (.Name x p) (lift B (dC (.str z))) := by
  obtain ⟨t, hm⟩ := hm
  exact de_c (pe_glob (v := .str z) hg hm ⟨t, rfl⟩ hd) fun _ => .str z
/-- data of the module -/
def GData (mg : Str → Option Value) (K : PySem.W.Frag) (x : Str) (d : D) : Prop := ∃ v u, mg x = some u ∧ RelV v u ∧ ∀ G, Rp K G v d
theorem de_gdat {d : D} (hK : X.K = B.K) (hg : Gl X x) (hm : GData X.mg X.K x d) (hd : (x == ("__debug__" : Str)) = false := by decide) : PE X (.Name x p) (lift B (dC d)) := by
  obtain ⟨v, u, hm, r, h⟩ := hm
  rw [hK] at h
  exact de_c (pe_glob hg hm r hd) h
/-- -a -/
def gNeg (x : SV) (Q : SV → Prop) : Prop := match x with
  | .d (.int i) => Q (.d (.int (-i)))
  | _ => False
def dUn {T : Type} (g : SV → (SV → Prop) → Prop) (ta : W T) : W T := fun env τ Q => ta env τ fun x τ1 => g x fun z => Q z τ1
theorem de_neg (ha : PE X e (lift B te)) : PE X (.UnaryOp .USub e pos) (lift B (dUn gNeg te)) := pe_imp (pe_un un_neg ha) fun σ H Q ⟨G, F, env, τ, Qd, s, t, k⟩ => ⟨G, F, env, τ, _, s, t, fun x τ1 G1 F1 H1 v f1 r1 q => by
  unfold gNeg at q
  split at q
  · exact ⟨_, rint r1, (FinT.trans k f1).d f1.k (.int _) q⟩
  · exact q.elim⟩
/-- {} -/
def dEmp {T : Type} : W T := fun _ τ Q => Q (.d (.dict [])) τ
theorem de_emp : PE X (.Dict [] [] pos) (lift B dEmp) := pe_imp pe_dnewK fun σ H Q ⟨G, F, env, τ, Qd, s, t, k⟩ => fun d hd =>
  k (.d (.dict [])) τ (upd G d (.dK [])) F (upd H d (.dK [])) (.ref d) ⟨Step.new hd s.k.same s.k.fh, s.k.new hd⟩ (Rp.emp upd_same) t
/-- sep.join(texts) -/
def gJoin (x y : SV) (Q : SV → Prop) : Prop := ∃ a, x = .d (.str a) ∧ opt (y.seqd?.bind strs?) fun ys => (ys.map (·.length)).sum + ys.length * a.length ≤ 16777216 ∧ Q (.d (.str (Txt.join a ys)))
def dM1 {T : Type} (g : SV → SV → (SV → Prop) → Prop) (to te : W T) : W T := fun env τ Q => to env τ fun x τ1 => (∃ a, x = .d (.str a)) ∧ te env τ1 fun y τ2 => g x y fun z => Q z τ2
theorem de_m1 {r : V → List V → Hp → VK → Prop} {g : SV → SV → (SV → Prop) → Prop} {to : W B.T} (h : PE X e (tM1 r (lift B to) (lift B te))) (hd : OpD B (fun x y H Q => r x [y] H Q) g) : PE X e (lift B (dM1 g to te)) :=
  pe_imp h fun σ H Q ⟨G, F, env, τ, Qd, s, t, k⟩ => ⟨G, F, env, τ, _, s, t, fun x τ1 G1 F1 H1 vx f1 r1 ⟨⟨a, ea⟩, q1⟩ => ⟨by
      subst ea
      exact ⟨a, rstr r1⟩, G1, F1, env, τ1, _, s.fin f1, q1, fun y τ2 G2 F2 H2 vy f2 r2 q2 =>
      hd x y vx vy _ _ G2 F2 H2 τ2 _ _ f2.k (r1.step f2.s) r2 q2 fun z G3 F3 H3 v f3 r3 q3 => k z τ2 G3 F3 H3 v (f1.trans (f2.trans f3)) (r3.back (dead (f1.trans f2).s.dom)) q3⟩⟩
theorem od_join (hK : X.K = B.K) : OpD B (fun x y H Q => ∃ a p, ∃ ys : List Str, x = .str a ∧ [y] = [.ref p] ∧ (SqL X.K H p (ys.map V.str) ∨ SqT X.K H p (ys.map V.str)) ∧ (ys.map (·.length)).sum + ys.length * a.length ≤ 16777216 ∧ Q (.str (Txt.join a ys)) H) gJoin :=
  fun x y vx vy Ha Hb G F H τ Qv Q k rx ry h fin => by
    obtain ⟨a, ex, h⟩ := h
    obtain ⟨ys, ey, hz, h⟩ := opt_of h
    obtain ⟨xs, e1, e2⟩ := bind_of ey
    subst ex
    obtain ⟨p, vs, e3, hs, ra⟩ := ry.seqd k.same e1
    have e4 := strs_ok ra e2
    subst e4
    rw [hK]
    exact ⟨a, p, ys, rstr rx, by rw [e3], hs, hz, fin.d k (.str _) h⟩
/-- text.index(sign) -/
def gSIndex (x y : SV) (Q : SV → Prop) : Prop := ∃ a b i rest, x = .d (.str a) ∧ y = .d (.str b) ∧ Builtin.Str.occurrences a b 0 a.length 1 = i :: rest ∧ Q (.d (.int (i : Nat)))
theorem od_sindex : OpD B (fun x y H Q => ∃ a b i rest, x = .str a ∧ [y] = [.str b] ∧ Builtin.Str.occurrences a b 0 a.length 1 = i :: rest ∧ Q (.int (i : Nat)) H) gSIndex :=
  fun x y vx vy Ha Hb G F H τ Qv Q k rx ry h fin => by
    obtain ⟨a, b, i, rest, ex, ey, e, h⟩ := h
    subst ex ey
    exact ⟨a, b, i, rest, rstr rx, by rw [rstr ry], e, fin.d k (.int _) h⟩
/-- text * n, n from 2 on -/
def strRep (x : Str) (n : Nat) : Str := ⟨(List.replicate n x.cps).foldl (· ++ ·) #[]⟩
def gMulS (x y : SV) (Q : SV → Prop) : Prop := ∃ a n, x = .d (.str a) ∧ y = .d (.int n) ∧ (2 ≤ n ∧ n ≤ 100000 ∧ 0 < a.length ∧ a.length ≤ 100) ∧ (strRep a n.toNat).length ≤ sizeLine ∧ Q (.d (.str (strRep a n.toNat)))
def rMulS : R2 := fun x y H Q => ∃ a n, x = .str a ∧ y = .int n ∧ (2 ≤ n ∧ n ≤ 100000 ∧ 0 < a.length ∧ a.length ≤ 100) ∧ (strRep a n.toNat).length ≤ sizeLine ∧ Q (.str (strRep a n.toNat)) H
theorem op_mulS : OpR X (binaryOp .Mult) rMulS := by
  intro pins s σ H x y v u Q I rx ry h
  obtain ⟨a, n, rfl, rfl, ⟨h1, h2, h3, h4⟩, h5, q⟩ := h
  obtain ⟨t, rfl⟩ := rx
  obtain ⟨t', rfl⟩ := ry
  have hn : ¬ n < 1 := by omega
  have hb : (n == 1 || a.length == 0) = false := by
    rw [Bool.or_eq_false_iff]
    exact ⟨beq_eq_false_iff_ne.mpr (by omega), beq_eq_false_iff_ne.mpr (by omega)⟩
  refine PySem.P.mul_str ?_ (fun _ _ => ?_) (fun _ _ => ?_) ?_
  · rw [decide_eq_false (by omega), decide_eq_false (by omega)]
    rfl
  · have : (100 : Int) ≤ (2 ^ 63 - 1) / n := by
      refine Int.le_ediv_of_mul_le (by omega) ?_
      omega
    omega
  · unfold Builtin.Str.tooLong
    have : a.length * n.toNat ≤ 100 * 100000 := Nat.mul_le_mul h4 (by omega)
    have hl : sizeLine = 16777216 := sizeLine_eq
    exact decide_eq_false (by omega)
  · rw [if_neg hn, hb]
    exact ⟨h5, .str _, H, I.tok _, ⟨_, rfl⟩, q⟩
theorem od_mulS : OpD B rMulS gMulS := fun x y vx vy Ha Hb G F H τ Qv Q k rx ry h fin => by
  obtain ⟨a, n, ex, ey, h1, h2, h⟩ := h
  subst ex ey
  exact ⟨a, n, rstr rx, rint ry, h1, h2, fin.d k (.str _) h⟩
def gMul (x y : SV) (Q : SV → Prop) : Prop := gI CMul (fun i j => .int (i * j)) x y Q ∨ gMulS x y Q
theorem op_mulA : OpR X (binaryOp .Mult) (fun x y H Q => (rI CMul fun i j => .int (i * j)) x y H Q ∨ rMulS x y H Q) := op_mul.or op_mulS
theorem od_mul : OpD B (fun x y H Q => (rI CMul fun i j => .int (i * j)) x y H Q ∨ rMulS x y H Q) gMul := od_I.or od_mulS
end
end Z

namespace Z
open PySem L2

/-! ### what is drawn by: a dict that the law's own defs share -/
inductive DrT where
  | off
  | on (a : Addr) (b : Nat)
def drK (c : Addr) (i l u : Int) : List (Key × V) := [(Sum.inr ("cells" : Str), V.ref c), (Sum.inr ("at" : Str), V.int i), (Sum.inr ("left" : Str), V.int l), (Sum.inr ("used" : Str), V.int u)]
structure DrAt (K : PySem.W.Frag) (G H : Hp) (a : Addr) (b : Nat) : Prop where
  ex : ∃ (c : Addr) (cs : List Int) (i l u : Int), H a = some (.dK (drK c i l u)) ∧ SqP K G c (cs.map V.int) ∧ cs ≠ [] ∧ (0 ≤ i ∧ 0 ≤ u ∧ i + b ≤ 1152921504606846976 ∧ u + b ≤ 1152921504606846976)
def drR (K : PySem.W.Frag) (t : DrT) (G : Hp) (F : Addr → Prop) (H : Hp) : Prop := match t with
  | .off => ∀ a, ¬ F a
  | .on a b => (∀ p, F p ↔ p = a) ∧ DrAt K G H a b
def theS : Sto where
  T := DrT
  R := drR
  st := fun {K t G G' F H H'} r sm e => by
    cases t with
    | off => exact r
    | on a b =>
      obtain ⟨hF, c, cs, i, l, u, h1, h2, h3, h4⟩ := r
      exact ⟨hF, ⟨c, cs, i, l, u, by rw [e a ((hF a).mpr rfl)]; exact h1, same_sqp sm h2, h3, h4⟩⟩
theorem kne1 : ¬ ("cells" : Str) = "at" := by decide +kernel
theorem kne2 : ¬ ("cells" : Str) = "left" := by decide +kernel
theorem kne3 : ¬ ("cells" : Str) = "used" := by decide +kernel
theorem kne4 : ¬ ("at" : Str) = "left" := by decide +kernel
theorem kne5 : ¬ ("at" : Str) = "used" := by decide +kernel
theorem kne6 : ¬ ("left" : Str) = "used" := by decide +kernel
section
variable {c : Addr} {i l u z : Int} {v : V}
theorem dr_cells : valV (drK c i l u) (Sum.inr ("cells" : Str)) = some (.ref c) := by simp [drK, valV]
theorem dr_at : valV (drK c i l u) (Sum.inr ("at" : Str)) = some (.int i) := by simp [drK, valV, kne1]
theorem dr_left : valV (drK c i l u) (Sum.inr ("left" : Str)) = some (.int l) := by simp [drK, valV, kne2, kne4]
theorem dr_used : valV (drK c i l u) (Sum.inr ("used" : Str)) = some (.int u) := by simp [drK, valV, kne3, kne5, kne6]
theorem dr_pat : putK (drK c i l u) (Sum.inr ("at" : Str)) (.int z) = drK c z l u := by simp [drK, putK, kne1, Ne.symm kne4, Ne.symm kne5]
theorem dr_pleft : putK (drK c i l u) (Sum.inr ("left" : Str)) (.int z) = drK c i z u := by simp [drK, putK, kne2, kne4, Ne.symm kne6]
theorem dr_pused : putK (drK c i l u) (Sum.inr ("used" : Str)) (.int z) = drK c i l z := by simp [drK, putK, kne3, kne5, kne6]
theorem dr_new : mergeK [] (drK c i l u) = drK c i l u := by
  simp [drK, mergeK, putK, kne1, kne2, kne3, kne4, kne5, kne6]
theorem dr_len : (drK c i l u).length = 4 := rfl
end
def FF__law_begin : FW DrT := fun rs τ Q => ∃ ns : List Int, rs = [.d (.list (ns.map PyData.int))] ∧ ns.length ≤ 63 ∧ τ = .off ∧ ∀ a, Q (.raw (.ref a)) (.on a 1152921504606846976)
def FF__law_mixed : FW DrT := fun rs τ Q => ∃ c k : Int, rs = [.d (.int c), .d (.int k)] ∧ (0 ≤ k ∧ k ≤ 1152921504606846976) ∧ ∀ r : Int, 0 ≤ r → Q (.d (.int r)) τ
def FF__law_next : FW DrT := fun rs τ Q => ∃ (a : Addr) (b : Nat) (n : Int), rs = [.raw (.ref a), .d (.int n)] ∧ τ = .on a (b + 1) ∧ (0 < n ∧ n < 1073741824) ∧ ∀ r : Int, 0 ≤ r → r < n → Q (.d (.int r)) (.on a b)
/-- a state of what is drawn by is another one -/
theorem dr_ok {K : PySem.W.Frag} {a c : Addr} {b b' : Nat} {G H : Hp} {F : Addr → Prop} {cs : List Int} {i' l' u' : Int} (k : Ok theS K (.on a b) G F H) (h1 : SqP K G c (cs.map V.int)) (h2 : cs ≠ [])
    (h3 : 0 ≤ i' ∧ 0 ≤ u' ∧ i' + b' ≤ 1152921504606846976 ∧ u' + b' ≤ 1152921504606846976) : Ok theS K (.on a b') G F (upd H a (.dK (drK c i' l' u'))) ∧ Step G F H G F (upd H a (.dK (drK c i' l' u'))) := by
  have hF : ∀ p, F p ↔ p = a := k.r.1
  have fa : F a := (hF a).mpr rfl
  refine ⟨⟨fun p o e => ?_, k.gf, fun p e => ?_, hF, c, cs, i', l', u', upd_same, h1, h2, h3⟩, Same.refl G, fun p o nf e => ?_, fun p o e => .inl e, fun p e => .inl e, fun p e => e, fun p e => ?_⟩
  · have : p ≠ a := fun z => by
      subst z
      rw [k.gf _ fa] at e
      cases e
    rw [upd_ne this]
    exact k.same p o e
  · have := (hF p).mp e
    subst this
    rw [upd_same]
    exact fun z => by cases z
  · have : p ≠ a := fun z => nf ((hF p).mpr z)
    rw [upd_ne this]
    exact e
  · by_cases z : p = a
    · subst z
      rw [upd_same]
      exact fun z => by cases z
    · rw [upd_ne z]
      exact e
theorem Ok.less {K : PySem.W.Frag} {a : Addr} {b b' : Nat} {G H : Hp} {F : Addr → Prop} (k : Ok theS K (.on a b) G F H) (h : b' ≤ b) : Ok theS K (.on a b') G F H := by
  obtain ⟨hF, c, cs, i, l, u, h1, h2, h3, h4⟩ := k.r
  exact ⟨k.same, k.gf, k.fh, hF, c, cs, i, l, u, h1, h2, h3, by omega⟩
end Z

namespace Z
open PySem L2

section
variable {T : Type} {t : Tg} {tt : WT T} {te : W T} {tb : WS T}
/-- a comprehension whose turns say what each item gives, and change nothing else -/
theorem lcW_fm {Q : List D → T → Prop} {env : List SV} {τ : T} (f : D → Option D) : ∀ (xs acc : List D),
    (∀ x ∈ xs, ∀ (kc : D → T → Prop) (k0 : T → Prop), (match f x with | some y => kc y τ | none => k0 τ) → opt (tgE t x env) fun env' => tt env' τ fun b τ1 => if b = true then te env' τ1 fun r τ2 => opt r.dat? fun y => kc y τ2 else k0 τ1) →
    acc.length + xs.length ≤ sizeLine → Q (acc ++ xs.filterMap f) τ → lcW t tt te Q xs acc env τ
  | [], acc, _, _, q => by
    rw [List.filterMap_nil, List.append_nil] at q
    exact q
  | x :: xs, acc, h, hl, q => by
    rw [List.length_cons] at hl
    refine h x (by simp) _ _ ?_
    cases e : f x with
    | none =>
      rw [List.filterMap_cons, e] at q
      exact lcW_fm f xs acc (fun y hy => h y (by simp [hy])) (by omega) q
    | some y =>
      rw [List.filterMap_cons, e] at q
      refine ⟨by omega, lcW_fm f xs (acc ++ [y]) (fun y hy => h y (by simp [hy])) (by rw [List.length_append, List.length_singleton]; omega) ?_⟩
      rw [List.append_assoc]
      exact q
theorem lcW_map {Q : List D → T → Prop} {env : List SV} {τ : T} (f : D → D) (xs : List D)
    (h : ∀ x ∈ xs, ∀ (kc : D → T → Prop) (k0 : T → Prop), kc (f x) τ → opt (tgE t x env) fun env' => tt env' τ fun b τ1 => if b = true then te env' τ1 fun r τ2 => opt r.dat? fun y => kc y τ2 else k0 τ1)
    (hl : xs.length ≤ sizeLine) (q : Q (xs.map f) τ) : lcW t tt te Q xs [] env τ :=
  lcW_fm (fun x => some (f x)) xs [] (fun x hx kc k0 z => h x hx kc k0 z) (by simpa using hl) (by
    rw [List.nil_append, show (fun x => some (f x)) = some ∘ f from rfl, List.filterMap_eq_map]
    exact q)
/-- by what holds behind each turn -/
theorem lcW_inv {Q : List D → T → Prop} {env : List SV} (P : Nat → List D → T → Prop) : ∀ (xs : List D) (i : Nat) (acc : List D) (τ : T), P i acc τ →
    (∀ j x acc τ, xs[j]? = some x → P (i + j) acc τ → acc.length ≤ i + j → ∀ (kc : D → T → Prop) (k0 : T → Prop), (∀ y τ', P (i + j + 1) (acc ++ [y]) τ' → kc y τ') → (∀ τ', P (i + j + 1) acc τ' → k0 τ') →
      opt (tgE t x env) fun env' => tt env' τ fun b τ1 => if b = true then te env' τ1 fun r τ2 => opt r.dat? fun y => kc y τ2 else k0 τ1) →
    acc.length ≤ i → i + xs.length ≤ sizeLine → (∀ acc τ, P (i + xs.length) acc τ → Q acc τ) → lcW t tt te Q xs acc env τ
  | [], i, acc, τ, p, _, _, _, q => q acc τ p
  | x :: xs, i, acc, τ, p, h, ha, hl, q => by
    rw [List.length_cons] at hl
    have h' : ∀ (j : Nat) (y : D) (acc : List D) (τ : T), xs[j]? = some y → P (i + 1 + j) acc τ → acc.length ≤ i + 1 + j → ∀ (kc : D → T → Prop) (k0 : T → Prop), (∀ y τ', P (i + 1 + j + 1) (acc ++ [y]) τ' → kc y τ') → (∀ τ', P (i + 1 + j + 1) acc τ' → k0 τ') →
        opt (tgE t y env) fun env' => tt env' τ fun b τ1 => if b = true then te env' τ1 fun r τ2 => opt r.dat? fun y => kc y τ2 else k0 τ1 := fun j y acc τ e p => by
      have z := h (j + 1) y acc τ (by simpa using e)
      rw [show i + (j + 1) = i + 1 + j by omega] at z
      exact z p
    have q' : ∀ acc τ, P (i + 1 + xs.length) acc τ → Q acc τ := fun acc τ p => q acc τ (by rw [List.length_cons, show i + (xs.length + 1) = i + 1 + xs.length by omega]; exact p)
    refine h 0 x acc τ rfl p ha _ _ (fun y τ' p' => ⟨by omega, ?_⟩) fun τ' p' => ?_
    · exact lcW_inv P xs (i + 1) _ τ' p' h' (by rw [List.length_append, List.length_singleton]; omega) (by omega) q'
    · exact lcW_inv P xs (i + 1) _ τ' p' h' (by omega) (by omega) q'
theorem forW_inv {D : DEnds T} (P : Nat → List SV → T → Prop) : ∀ (xs : List Z.D) (i : Nat) (env : List SV) (τ : T), P i env τ →
    (∀ j x env τ, xs[j]? = some x → P (i + j) env τ → ∀ kn : List SV → T → Prop, (∀ env' τ', P (i + j + 1) env' τ' → kn env' τ') → opt (tgE t x env) fun env' => tb { D with nx := kn, ct := kn, bk := D.nx } env' τ) →
    (∀ env τ, P (i + xs.length) env τ → D.nx env τ) → forW t tb D xs env τ
  | [], i, env, τ, p, _, q => q env τ p
  | x :: xs, i, env, τ, p, h, q => by
    refine h 0 x env τ rfl p _ fun env' τ' p' => ?_
    refine forW_inv P xs (i + 1) env' τ' p' (fun j y env τ e p => ?_) fun env τ p => q env τ (by rw [List.length_cons, show i + (xs.length + 1) = i + 1 + xs.length by omega]; exact p)
    have z := h (j + 1) y env τ (by simpa using e)
    rw [show i + (j + 1) = i + 1 + j by omega] at z
    exact z p
end
end Z

namespace Z
open PySem L2
/-! ### texts as lists of signs -/
abbrev cs (z : Str) : List Nat := z.cps.toList
def mkS (l : List Nat) : Str := ⟨l.toArray⟩
theorem cs_mk (l : List Nat) : cs (mkS l) = l := rfl
theorem mk_cs (z : Str) : mkS (cs z) = z := by cases z; rfl
theorem str_ext {a b : Str} (h : cs a = cs b) : a = b := by rw [← mk_cs a, ← mk_cs b, h]
theorem str_len (z : Str) : z.length = (cs z).length := by
  show z.cps.size = z.cps.toList.length
  rw [Array.length_toList]
theorem mk_inj {a b : List Nat} : mkS a = mkS b ↔ a = b := ⟨fun h => by
  have := congrArg cs h
  exact this, fun h => by rw [h]⟩
theorem beq_cs (a b : Str) : (a == b) = decide (cs a = cs b) := by
  rw [Bool.eq_iff_iff, beq_iff_eq, decide_eq_true_iff]
  exact ⟨fun h => by rw [h], str_ext⟩
theorem cs_append (a b : Str) : cs (a ++ b) = cs a ++ cs b := TL.tl_append a b
theorem cs_ofString (s : String) : cs (Str.ofString s) = s.toList.map Char.toNat := TL.tl_ofString s
theorem cs_pre (z : Str) (k : Nat) : cs (cutS z none (some (k : Int))) = (cs z).take k := by
  unfold cutS
  show ((z.cps.toList.drop (HT.sIx z.length 0 none)).take (HT.sIx z.length z.length (some (k : Int)) - HT.sIx z.length 0 none)) = (cs z).take k
  rw [HT.sIx_none, HT.sIx_nat, List.drop_zero, Nat.sub_zero, str_len]
  rw [List.take_eq_take_iff]
  show min (min k (cs z).length) (cs z).length = min k (cs z).length
  omega
theorem cs_post (z : Str) (k : Nat) : cs (cutS z (some (k : Int)) none) = (cs z).drop k := by
  unfold cutS
  show ((z.cps.toList.drop (HT.sIx z.length 0 (some (k : Int)))).take (HT.sIx z.length z.length none - HT.sIx z.length 0 (some (k : Int)))) = (cs z).drop k
  rw [HT.sIx_none, HT.sIx_nat, str_len]
  by_cases h : k ≤ (cs z).length
  · rw [Nat.min_eq_left h, List.take_of_length_le (by rw [List.length_drop]; exact Nat.le_refl _)]
  · rw [Nat.min_eq_right (by omega), List.drop_eq_nil_of_le (Nat.le_refl _), List.drop_eq_nil_of_le (by omega)]
    exact List.take_nil
end Z

namespace Z
open PySem L2
/-! ### in use -/
theorem ixN_ok {n : Nat} {i : Int} (h0 : 0 ≤ i) (h1 : i < n) : ixN n i = some i.toNat := by
  unfold ixN
  rw [if_pos h0, if_pos h1]
theorem atI_all {α : Type} {xs : List α} {i : Int} {Q : α → Prop} (h0 : 0 ≤ i) (h1 : i < (xs.length : Int)) (h : ∀ x ∈ xs, Q x) : opt (atI xs i) Q := by
  unfold atI
  rw [ixN_ok h0 h1]
  have hi : i.toNat < xs.length := by omega
  show opt xs[i.toNat]? Q
  rw [List.getElem?_eq_getElem hi]
  exact h _ (List.getElem_mem hi)
theorem atI_some {α : Type} {xs : List α} {i : Int} (h0 : 0 ≤ i) (h1 : i < (xs.length : Int)) : ∃ x, atI xs i = some x ∧ xs[i.toNat]? = some x ∧ x ∈ xs := by
  have hi : i.toNat < xs.length := by omega
  refine ⟨xs[i.toNat], ?_, List.getElem?_eq_getElem hi, List.getElem_mem hi⟩
  unfold atI
  rw [ixN_ok h0 h1]
  exact List.getElem?_eq_getElem hi
theorem next_use {a : Addr} {b : Nat} {n : Int} {Q : SV → DrT → Prop} (hb : 1 ≤ b) (h0 : 0 < n) (h1 : n < 1073741824) (h : ∀ r : Int, 0 ≤ r → r < n → Q (.d (.int r)) (.on a (b - 1))) : FF__law_next [.raw (.ref a), .d (.int n)] (.on a b) Q :=
  ⟨a, b - 1, n, rfl, by rw [Nat.sub_add_cancel hb], ⟨h0, h1⟩, h⟩
/-- a text of no great length, of signs -/
def okS (s : Str) : Prop := s.length ≤ 100000 ∧ ∀ c ∈ cs s, c < 1114112
theorem okS.sz {s : Str} (h : okS s) : s.length ≤ sizeLine := by
  rw [sizeLine_eq]
  have := h.1
  omega
theorem okS.lay {s : Str} (h : okS s) : (PyData.str s).canLay0 = true := by
  rw [PyData.canLay0]
  unfold PyData.strOk
  rw [← Array.all_toList, List.all_eq_true]
  exact fun c hc => decide_eq_true (h.2 c hc)
theorem okS.of {l : List Nat} (h1 : l.length ≤ 100000) (h2 : ∀ c ∈ l, c < 1114112) : okS (mkS l) := ⟨by rw [str_len]; exact h1, h2⟩
theorem canAll {xs : List D} (h : ∀ x ∈ xs, x.canLay0 = true) : PyData.canLayAll0 xs = true := by
  induction xs with
  | nil => rfl
  | cons x xs ih =>
    rw [PyData.canLayAll0, h x (by simp), ih fun y hy => h y (by simp [hy])]
    rfl
theorem depAll {xs : List D} {n : Nat} (h : ∀ x ∈ xs, x.depth ≤ n) : PyData.depthAll xs ≤ n := by
  induction xs with
  | nil => rw [PyData.depthAll]; omega
  | cons x xs ih =>
    rw [PyData.depthAll]
    exact Nat.max_le.mpr ⟨h x (by simp), ih fun y hy => h y (by simp [hy])⟩
theorem shaped_of {x : D} (h1 : x.canLay0 = true) (h2 : x.depth ≤ 64) : SeqAt.shaped x = true := by
  unfold SeqAt.shaped
  rw [h1, decide_eq_true h2]
  rfl
theorem shaped_list {xs : List D} (h : ∀ x ∈ xs, x.canLay0 = true ∧ x.depth ≤ 63) : SeqAt.shaped (.list xs) = true := by
  refine shaped_of ?_ ?_
  · rw [PyData.canLay0]
    exact canAll fun x hx => (h x hx).1
  · rw [PyData.depth]
    have := depAll fun x hx => (h x hx).2
    omega
theorem shaped_tuple {xs : List D} (h : ∀ x ∈ xs, x.canLay0 = true ∧ x.depth ≤ 63) : SeqAt.shaped (.tuple xs) = true := by
  refine shaped_of ?_ ?_
  · rw [PyData.canLay0]
    exact canAll fun x hx => (h x hx).1
  · rw [PyData.depth]
    have := depAll fun x hx => (h x hx).2
    omega
theorem eqv_nil (xs : List D) : PyData.eqv (.list xs) (.list []) = xs.isEmpty := by
  cases xs <;> simp [PyData.eqv, PyData.eqvAll]
theorem shaped_nil : SeqAt.shaped (.list []) = true := by decide +kernel
theorem sg_lay {c : Nat} (h : c < 1114112) : (sg c).canLay0 = true ∧ (sg c).depth ≤ 63 := by
  constructor
  · exact okS.lay (s := ⟨#[c]⟩) ⟨by show 1 ≤ 100000; decide, fun d hd => by
      have : d ∈ [c] := hd
      rw [List.mem_singleton] at this
      omega⟩
  · show (PyData.str _).depth ≤ 63
    rw [PyData.depth]
    omega
/-- texts put together -/
theorem cs_join0 (ys : List Str) : cs (Txt.join (Str.ofString "") ys) = (ys.map cs).flatten := by
  rw [TL.join_eq]
  show TL.tl _ = _
  rw [TL.tl_join]
  have e : TL.tl (Str.ofString "") = [] := by decide +kernel
  rw [e]
  show TL.joinL [] (ys.map cs) = _
  generalize ys.map cs = ls
  induction ls with
  | nil => rfl
  | cons a r ih =>
    cases r with
    | nil => simp [TL.joinL]
    | cons b r' =>
      rw [TL.joinL, List.nil_append, ih, List.flatten_cons, List.flatten_cons, List.flatten_cons]
theorem strs_sg (l : List Nat) : strs? (l.map sg) = some (l.map fun c => (⟨#[c]⟩ : Str)) := by
  have : l.map sg = (l.map fun c => (⟨#[c]⟩ : Str)).map PyData.str := by
    rw [List.map_map]
    rfl
  rw [this, strs_map]
theorem join_sg (l : List Nat) : Txt.join (Str.ofString "") (l.map fun c => (⟨#[c]⟩ : Str)) = mkS l := by
  apply str_ext
  rw [cs_join0, List.map_map, cs_mk]
  induction l with
  | nil => rfl
  | cons a r ih => rw [List.map_cons, List.flatten_cons, ih]; rfl
theorem sum_sg (l : List Nat) : ((l.map fun c => (⟨#[c]⟩ : Str)).map (·.length)).sum = l.length := by
  induction l with
  | nil => rfl
  | cons a r ih =>
    rw [List.map_cons, List.map_cons, List.sum_cons, ih, List.length_cons]
    show 1 + r.length = r.length + 1
    omega
theorem rgI_len (lo : Int) (n : Nat) : (rgI lo n).length = n := by
  unfold rgI
  rw [List.length_map, List.length_range]
theorem rgI_get {lo : Int} {n i : Nat} {x : D} (h : (rgI lo n)[i]? = some x) : i < n ∧ x = .int (lo + (i : Nat)) := by
  unfold rgI at h
  rw [List.getElem?_map] at h
  by_cases hi : i < n
  · rw [List.getElem?_range hi] at h
    exact ⟨hi, (Option.some.inj h).symm⟩
  · rw [List.getElem?_eq_none (by rw [List.length_range]; omega)] at h
    cases h
theorem len4 {a b : Nat} {c : Int} (h : a = b) (h2 : (b : Int) = c) : (a : Int) = c := by omega
end Z

namespace Z
open PySem L2
/-! ### signs of texts, in comprehensions -/
theorem eqv_str (a b : Str) : PyData.eqv (.str a) (.str b) = decide (cs a = cs b) := by
  rw [← beq_cs, PyData.eqv]
theorem all_map (f : Nat → Bool) (l : List Nat) : (l.map f).all id = l.all f := by
  rw [List.all_map]
  rfl
section
variable {T : Type} {t : Tg} {tt : WT T} {te : W T}
theorem dVar_self {i : Nat} {env : List SV} {x : D} {τ : T} {Q : SV → T → Prop} (hi : i < env.length) : dVar i (env.set i (.d x)) τ Q = Q (.d x) τ := by
  unfold dVar
  rw [List.getElem?_set_self hi]
theorem lc_filter' {Q : List D → T → Prop} {env : List SV} {τ : T} (p : Nat → Bool) : ∀ (l : List Nat) (acc : List D),
    (∀ c ∈ l, ∀ (kc : D → T → Prop) (k0 : T → Prop), (if p c = true then kc (sg c) τ else k0 τ) → opt (tgE t (sg c) env) fun env' => tt env' τ fun b τ1 => if b = true then te env' τ1 fun r τ2 => opt r.dat? fun y => kc y τ2 else k0 τ1) →
    acc.length + l.length ≤ sizeLine → Q (acc ++ (l.filter p).map sg) τ → lcW t tt te Q (l.map sg) acc env τ
  | [], acc, _, _, q => by
    rw [List.filter_nil, List.map_nil, List.append_nil] at q
    exact q
  | c :: l, acc, h, hl, q => by
    rw [List.length_cons] at hl
    refine h c (by simp) _ _ ?_
    cases e : p c with
    | false =>
      rw [List.filter_cons, e] at q
      exact iteF (lc_filter' p l acc (fun y hy => h y (by simp [hy])) (by omega) q)
    | true =>
      rw [List.filter_cons, e] at q
      refine iteT ⟨by omega, lc_filter' p l (acc ++ [sg c]) (fun y hy => h y (by simp [hy])) (by rw [List.length_append, List.length_singleton]; omega) ?_⟩
      rw [List.append_assoc]
      exact q
theorem lc_filter {Q : List D → T → Prop} {env : List SV} {τ : T} (p : Nat → Bool) (l : List Nat)
    (h : ∀ c ∈ l, ∀ (kc : D → T → Prop) (k0 : T → Prop), (if p c = true then kc (sg c) τ else k0 τ) → opt (tgE t (sg c) env) fun env' => tt env' τ fun b τ1 => if b = true then te env' τ1 fun r τ2 => opt r.dat? fun y => kc y τ2 else k0 τ1)
    (hl : l.length ≤ sizeLine) (q : Q ((l.filter p).map sg) τ) : lcW t tt te Q (l.map sg) [] env τ :=
  lc_filter' p l [] h (by simpa using hl) q
theorem lc_sgs' {Q : List D → T → Prop} {env : List SV} {τ : T} {β : Type} (f : Nat → β) (g : β → D) : ∀ (l : List Nat) (acc : List D),
    (∀ c ∈ l, ∀ (kc : D → T → Prop) (k0 : T → Prop), kc (g (f c)) τ → opt (tgE t (sg c) env) fun env' => tt env' τ fun b τ1 => if b = true then te env' τ1 fun r τ2 => opt r.dat? fun y => kc y τ2 else k0 τ1) →
    acc.length + l.length ≤ sizeLine → Q (acc ++ (l.map f).map g) τ → lcW t tt te Q (l.map sg) acc env τ
  | [], acc, _, _, q => by
    rw [List.map_nil, List.map_nil, List.append_nil] at q
    exact q
  | c :: l, acc, h, hl, q => by
    rw [List.length_cons] at hl
    refine h c (by simp) _ _ ⟨by omega, lc_sgs' f g l (acc ++ [g (f c)]) (fun y hy => h y (by simp [hy])) (by rw [List.length_append, List.length_singleton]; omega) ?_⟩
    rw [List.append_assoc]
    exact q
theorem lc_alls {Q : List D → T → Prop} {env : List SV} {τ : T} {i : Nat} {st : Str} {f : Nat → Bool} (hf : ∀ c, decide (c ∈ st.cps.toList) = f c) (l : List Nat) (hi : i < env.length) (hl : l.length ≤ sizeLine)
    (q : Q ((l.map f).map PyData.bool) τ) : lcW (.nm i) dYes (dOp (gIn false) (dVar i) (dC (.str st))) Q (l.map sg) [] env τ := by
  refine lc_sgs' f PyData.bool l [] (fun c hc kc k0 hk => ?_) (by simpa using hl) q
  rw [← hf] at hk
  rw [tgE, opt_some]
  unfold dYes dOp
  refine iteT ?_
  rw [dVar_self hi]
  exact .inl ⟨c, _, rfl, rfl, hk⟩
theorem lc_bad {Q : List D → T → Prop} {env : List SV} {τ : T} {i : Nat} {st : Str} {f : Nat → Bool} (hf : ∀ c, decide (c ∈ st.cps.toList) = f c) (l : List Nat) (hi : i < env.length) (hl : l.length ≤ sizeLine)
    (q : Q ((l.filter fun c => !f c).map sg) τ) : lcW (.nm i) (dT (dOp (gIn true) (dVar i) (dC (.str st)))) (dVar i) Q (l.map sg) [] env τ := by
  refine lc_filter (fun c => !f c) l (fun c hc kc k0 z => ?_) hl q
  rw [tgE, opt_some]
  unfold dT dOp
  rw [dVar_self hi]
  refine .inl ⟨c, _, rfl, rfl, _, rfl, ?_⟩
  show (if (!decide (c ∈ st.cps.toList)) = true then dVar i _ τ _ else _)
  rw [hf, dVar_self hi]
  exact z
end
end Z

namespace Z
open PySem L2
/-! ### the readings, by named continuations -/
theorem opt_e {α : Type} {o : Option α} {P : α → Prop} {k : Option α → Prop} (h1 : ∀ a, P a = k (some a)) (h2 : k none = False) : opt o P = k o := by
  cases o with
  | none => exact h2.symm
  | some a => exact h1 a
theorem ex_e {α : Type} {o : Option α} {P : α → Prop} {k : Option α → Prop} (h1 : ∀ a, P a = k (some a)) (h2 : k none = False) : (∃ b, o = some b ∧ P b) = k o := by
  cases o with
  | none => rw [h2]; simp
  | some a => rw [← h1]; simp
section
variable {T : Type}
def kG (Q : SV → T → Prop) (τ : T) (z : SV) : Prop := Q z τ
def kV (Q : SV → T → Prop) (τ : T) : Option SV → Prop
  | some (.d x) => Q (.d x) τ
  | some (.ol xs) => Q (.vw xs) τ
  | some (.raw v) => Q (.raw v) τ
  | _ => False
theorem dVar_k (i : Nat) (env : List SV) (τ : T) (Q : SV → T → Prop) : dVar i env τ Q = kV Q τ env[i]? := by
  unfold dVar
  generalize env[i]? = o
  match o with
  | some (.ol xs) => rfl
  | some (.d _) => rfl
  | some (.vw _) => rfl
  | some (.raw _) => rfl
  | some .no => rfl
  | none => rfl
theorem dC_k (x : D) (env : List SV) (τ : T) (Q : SV → T → Prop) : dC x env τ Q = Q (.d x) τ := rfl
theorem dRaw_k (x : V) (env : List SV) (τ : T) (Q : SV → T → Prop) : dRaw x env τ Q = Q (.raw x) τ := rfl
def kOp2 (g : SV → SV → (SV → Prop) → Prop) (x : SV) (Q : SV → T → Prop) (y : SV) (τ : T) : Prop := g x y (kG Q τ)
def kOp1 (tb : W T) (env : List SV) (g : SV → SV → (SV → Prop) → Prop) (Q : SV → T → Prop) (x : SV) (τ : T) : Prop := tb env τ (kOp2 g x Q)
theorem dOp_k (g : SV → SV → (SV → Prop) → Prop) (ta tb : W T) (env : List SV) (τ : T) (Q : SV → T → Prop) : dOp g ta tb env τ Q = ta env τ (kOp1 tb env g Q) := rfl
def kTb (Q : Bool → T → Prop) (τ : T) : Option Bool → Prop
  | some b => Q b τ
  | none => False
def SV.bl? : SV → Option Bool
  | .d (.bool b) => some b
  | _ => none
def kT (Q : Bool → T → Prop) (x : SV) (τ : T) : Prop := kTb Q τ x.bl?
theorem bl_e {x : SV} {P : Bool → Prop} {k : Option Bool → Prop} (h1 : ∀ a, P a = k (some a)) (h2 : k none = False) : (∃ b, x = .d (.bool b) ∧ P b) = k x.bl? := by
  refine propext ⟨?_, fun h => ?_⟩
  · rintro ⟨b, rfl, h⟩
    rw [h1] at h
    exact h
  · unfold SV.bl? at h
    split at h
    · exact ⟨_, rfl, by rw [h1]; exact h⟩
    · rw [h2] at h
      exact h.elim
theorem dT_k (t : W T) (env : List SV) (τ : T) (Q : Bool → T → Prop) : dT t env τ Q = t env τ (kT Q) := by
  unfold dT
  congr 1
  funext x τ1
  exact bl_e (fun _ => rfl) rfl
def kCh3 (Q : SV → T → Prop) (τ : T) (u : SV) : Prop := Q u τ
def kCh4 (g' : SV → SV → (SV → Prop) → Prop) (y : SV) (Q : SV → T → Prop) (w : SV) (τ : T) : Prop := g' y w (kG Q τ)
def kChB (tc : W T) (env : List SV) (g' : SV → SV → (SV → Prop) → Prop) (y : SV) (Q : SV → T → Prop) (b : Bool) (τ : T) : Prop := if b = true then tc env τ (kCh4 g' y Q) else Q (.d (.bool false)) τ
def kCh2 (tc : W T) (env : List SV) (g g' : SV → SV → (SV → Prop) → Prop) (Q : SV → T → Prop) (x y : SV) (τ : T) : Prop := g x y (kG (kT (kChB tc env g' y Q)) τ)
def kCh1 (tb tc : W T) (env : List SV) (g g' : SV → SV → (SV → Prop) → Prop) (Q : SV → T → Prop) (x : SV) (τ : T) : Prop := tb env τ (kCh2 tc env g g' Q x)
theorem kChB_t {tc : W T} {env : List SV} {g' : SV → SV → (SV → Prop) → Prop} {y : SV} {Q : SV → T → Prop} {τ : T} : kChB tc env g' y Q true τ = tc env τ (kCh4 g' y Q) := by simp [kChB]
theorem kChB_f {tc : W T} {env : List SV} {g' : SV → SV → (SV → Prop) → Prop} {y : SV} {Q : SV → T → Prop} {τ : T} : kChB tc env g' y Q false τ = Q (.d (.bool false)) τ := by simp [kChB]
theorem dChain_k (g g' : SV → SV → (SV → Prop) → Prop) (ta tb tc : W T) (env : List SV) (τ : T) (Q : SV → T → Prop) : dChain g g' ta tb tc env τ Q = ta env τ (kCh1 tb tc env g g' Q) := by
  unfold dChain
  congr 1
  funext x τ1
  unfold kCh1
  congr 1
  funext y τ2
  unfold kCh2
  congr 1
  funext z
  exact bl_e (k := kTb (kChB tc env g' y Q) τ2) (fun _ => rfl) rfl
def kTru (Q : Bool → T → Prop) (x : SV) (τ : T) : Prop := kTb Q τ x.truth
theorem dTru_k (t : W T) (env : List SV) (τ : T) (Q : Bool → T → Prop) : dTru t env τ Q = t env τ (kTru Q) := by
  unfold dTru
  congr 1
  funext x τ1
  exact ex_e (fun _ => rfl) rfl
def kAndT (u : WT T) (env : List SV) (Q : Bool → T → Prop) (c : Bool) (τ : T) : Prop := if c = true then u env τ Q else Q false τ
def kOrT (u : WT T) (env : List SV) (Q : Bool → T → Prop) (c : Bool) (τ : T) : Prop := if c = true then Q true τ else u env τ Q
def kNotT (Q : Bool → T → Prop) (c : Bool) (τ : T) : Prop := Q (!c) τ
theorem kAndT_t {u : WT T} {env : List SV} {Q : Bool → T → Prop} {τ : T} : kAndT u env Q true τ = u env τ Q := by simp [kAndT]
theorem kAndT_f {u : WT T} {env : List SV} {Q : Bool → T → Prop} {τ : T} : kAndT u env Q false τ = Q false τ := by simp [kAndT]
theorem kOrT_t {u : WT T} {env : List SV} {Q : Bool → T → Prop} {τ : T} : kOrT u env Q true τ = Q true τ := by simp [kOrT]
theorem kOrT_f {u : WT T} {env : List SV} {Q : Bool → T → Prop} {τ : T} : kOrT u env Q false τ = u env τ Q := by simp [kOrT]
theorem dAndT_k (t u : WT T) (env : List SV) (τ : T) (Q : Bool → T → Prop) : dAndT t u env τ Q = t env τ (kAndT u env Q) := rfl
theorem dOrT_k (t u : WT T) (env : List SV) (τ : T) (Q : Bool → T → Prop) : dOrT t u env τ Q = t env τ (kOrT u env Q) := rfl
theorem dNotT_k (t : WT T) (env : List SV) (τ : T) (Q : Bool → T → Prop) : dNotT t env τ Q = t env τ (kNotT Q) := rfl
def kAndB (tb : W T) (env : List SV) (Q : SV → T → Prop) (x : SV) (τ : T) : Option Bool → Prop
  | some true => tb env τ Q
  | some false => Q x τ
  | none => False
def kOrB (tb : W T) (env : List SV) (Q : SV → T → Prop) (x : SV) (τ : T) : Option Bool → Prop
  | some true => Q x τ
  | some false => tb env τ Q
  | none => False
def kAnd (tb : W T) (env : List SV) (Q : SV → T → Prop) (x : SV) (τ : T) : Prop := kAndB tb env Q x τ x.truth
def kOr (tb : W T) (env : List SV) (Q : SV → T → Prop) (x : SV) (τ : T) : Prop := kOrB tb env Q x τ x.truth
theorem dAnd_k (ta tb : W T) (env : List SV) (τ : T) (Q : SV → T → Prop) : dAnd ta tb env τ Q = ta env τ (kAnd tb env Q) := by
  unfold dAnd
  congr 1
  funext x τ1
  exact ex_e (k := kAndB tb env Q x τ1) (fun b => by cases b <;> simp [kAndB]) rfl
theorem dOr_k (ta tb : W T) (env : List SV) (τ : T) (Q : SV → T → Prop) : dOr ta tb env τ Q = ta env τ (kOr tb env Q) := by
  unfold dOr
  congr 1
  funext x τ1
  exact ex_e (k := kOrB tb env Q x τ1) (fun b => by cases b <;> simp [kOrB]) rfl
def kNotB (Q : SV → T → Prop) (τ : T) : Option Bool → Prop
  | some b => Q (.d (.bool (!b))) τ
  | none => False
def kNot (Q : SV → T → Prop) (x : SV) (τ : T) : Prop := kNotB Q τ x.truth
theorem dNot_k (ta : W T) (env : List SV) (τ : T) (Q : SV → T → Prop) : dNot ta env τ Q = ta env τ (kNot Q) := by
  unfold dNot
  congr 1
  funext x τ1
  exact ex_e (fun _ => rfl) rfl
def kIf (ta tb : W T) (env : List SV) (Q : SV → T → Prop) (c : Bool) (τ : T) : Prop := if c = true then ta env τ Q else tb env τ Q
theorem kIf_t {ta tb : W T} {env : List SV} {Q : SV → T → Prop} {τ : T} : kIf ta tb env Q true τ = ta env τ Q := by simp [kIf]
theorem kIf_f {ta tb : W T} {env : List SV} {Q : SV → T → Prop} {τ : T} : kIf ta tb env Q false τ = tb env τ Q := by simp [kIf]
theorem dIf_k (t : WT T) (ta tb : W T) (env : List SV) (τ : T) (Q : SV → T → Prop) : dIf t ta tb env τ Q = t env τ (kIf ta tb env Q) := rfl
/-! arguments -/
def kCo2 (Q : List SV → T → Prop) (a : SV) (rs : List SV) (τ : T) : Prop := Q (a :: rs) τ
def kCoB (ta : WA T) (env : List SV) (Q : List SV → T → Prop) (τ : T) : Option SV → Prop
  | some a => ta env τ (kCo2 Q a)
  | none => False
def kCo (ta : WA T) (env : List SV) (Q : List SV → T → Prop) (r : SV) (τ : T) : Prop := kCoB ta env Q τ r.arg
theorem dNil_k (env : List SV) (τ : T) (Q : List SV → T → Prop) : dNil env τ Q = Q [] τ := rfl
theorem dCons_k (t : W T) (ta : WA T) (env : List SV) (τ : T) (Q : List SV → T → Prop) : dCons t ta env τ Q = t env τ (kCo ta env Q) := by
  unfold dCons
  congr 1
  funext x τ1
  exact ex_e (fun _ => rfl) rfl
def kTupB (Q : SV → T → Prop) (τ : T) : Option (List D) → Prop
  | some xs => xs.length ≤ sizeLine ∧ Q (.d (.tuple xs)) τ
  | none => False
def kTup (Q : SV → T → Prop) (rs : List SV) (τ : T) : Prop := kTupB Q τ (allD rs)
theorem dTup_k (ta : WA T) (env : List SV) (τ : T) (Q : SV → T → Prop) : dTup ta env τ Q = ta env τ (kTup Q) := by
  unfold dTup
  congr 1
  funext x τ1
  exact ex_e (fun _ => rfl) rfl
def kLstB (Q : SV → T → Prop) (τ : T) : Option (List D) → Prop
  | some xs => xs.length ≤ sizeLine ∧ Q (.ol xs) τ
  | none => False
def kLst (Q : SV → T → Prop) (rs : List SV) (τ : T) : Prop := kLstB Q τ (allD rs)
theorem dLst_k (ta : WA T) (env : List SV) (τ : T) (Q : SV → T → Prop) : dLst ta env τ Q = ta env τ (kLst Q) := by
  unfold dLst
  congr 1
  funext x τ1
  exact ex_e (fun _ => rfl) rfl
def kCB (g : List SV → (SV → Prop) → Prop) (Q : SV → T → Prop) (rs : List SV) (τ : T) : Prop := g rs (kG Q τ)
theorem dCB_k (g : List SV → (SV → Prop) → Prop) (ta : WA T) (env : List SV) (τ : T) (Q : SV → T → Prop) : dCB g ta env τ Q = ta env τ (kCB g Q) := rfl
def kCall (FF : FW T) (Q : SV → T → Prop) (rs : List SV) (τ : T) : Prop := rs.all SV.dr = true ∧ FF rs τ Q
theorem dCall_k (FF : FW T) (ta : WA T) (env : List SV) (τ : T) (Q : SV → T → Prop) : dCall FF ta env τ Q = ta env τ (kCall FF Q) := rfl
/-! statements -/
def kNx (t : WS T) (D : DEnds T) (env : List SV) (τ : T) : Prop := t D env τ
theorem dNext_k (D : DEnds T) (env : List SV) (τ : T) : dNext D env τ = D.nx env τ := rfl
theorem dSeq_k (t u : WS T) (nx : List SV → T → Prop) (rt : SV → T → Prop) (bk ct : List SV → T → Prop) (env : List SV) (τ : T) : dSeq t u ⟨nx, rt, bk, ct⟩ env τ = t ⟨kNx u ⟨nx, rt, bk, ct⟩, rt, bk, ct⟩ env τ := rfl
theorem dBreak_k (D : DEnds T) (env : List SV) (τ : T) : dBreak D env τ = D.bk env τ := rfl
theorem dCont_k (D : DEnds T) (env : List SV) (τ : T) : dCont D env τ = D.ct env τ := rfl
theorem dNever_k (D : DEnds T) (env : List SV) (τ : T) : dNever D env τ = False := rfl
def kDrop (D : DEnds T) (env : List SV) (r : SV) (τ : T) : Prop := D.nx env τ
theorem dDrop_k (te : W T) (D : DEnds T) (env : List SV) (τ : T) : dDrop te D env τ = te env τ (kDrop D env) := rfl
def kRet (D : DEnds T) (r : SV) (τ : T) : Prop := r.out = true ∧ D.rt r τ
theorem dRet_k (te : W T) (D : DEnds T) (env : List SV) (τ : T) : dRet te D env τ = te env τ (kRet D) := rfl
theorem dRetN_k (D : DEnds T) (env : List SV) (τ : T) : dRetN D env τ = D.rt (.d .none) τ := rfl
def kIfS (t u : WS T) (D : DEnds T) (env : List SV) (b : Bool) (τ : T) : Prop := if b = true then t D env τ else u D env τ
theorem kIfS_t {t u : WS T} {D : DEnds T} {env : List SV} {τ : T} : kIfS t u D env true τ = t D env τ := by simp [kIfS]
theorem kIfS_f {t u : WS T} {D : DEnds T} {env : List SV} {τ : T} : kIfS t u D env false τ = u D env τ := by simp [kIfS]
theorem dIfS_k (c : WT T) (t u : WS T) (D : DEnds T) (env : List SV) (τ : T) : dIfS c t u D env τ = c env τ (kIfS t u D env) := rfl
def kStB (i : Nat) (D : DEnds T) (env : List SV) (τ : T) : Option SV → Prop
  | some a => D.nx (env.set i a) τ
  | none => False
def kSet (i : Nat) (D : DEnds T) (env : List SV) (r : SV) (τ : T) : Prop := kStB i D env τ r.sto
theorem dSet_k (i : Nat) (te : W T) (D : DEnds T) (env : List SV) (τ : T) : dSet i te D env τ = te env τ (kSet i D env) := by
  unfold dSet
  congr 1
  funext x τ1
  exact opt_e (fun _ => rfl) rfl
def kEnv (D : DEnds T) (τ : T) : Option (List SV) → Prop
  | some env => D.nx env τ
  | none => False
def kAsB (t : Tg) (D : DEnds T) (env : List SV) (τ : T) : Option Z.D → Prop
  | some x => kEnv D τ (tgE t x env)
  | none => False
def kAsg (t : Tg) (D : DEnds T) (env : List SV) (r : SV) (τ : T) : Prop := kAsB t D env τ r.dat?
theorem dAsg_k (t : Tg) (te : W T) (D : DEnds T) (env : List SV) (τ : T) : dAsg t te D env τ = te env τ (kAsg t D env) := by
  unfold dAsg
  congr 1
  funext x τ1
  exact opt_e (k := kAsB t D env τ1) (fun x => opt_e (k := kEnv D τ1) (fun _ => rfl) rfl) rfl
def kPar (i j : Nat) (D : DEnds T) (env : List SV) (rs : List SV) (τ : T) : Prop := match rs with
  | [.d x, .d y] => D.nx ((env.set i (.d x)).set j (.d y)) τ
  | _ => False
theorem dPar_k (i j : Nat) (ta : WA T) (D : DEnds T) (env : List SV) (τ : T) : dPar i j ta D env τ = ta env τ (kPar i j D env) := rfl
theorem kPar_k {i j : Nat} {D : DEnds T} {env : List SV} {x y : Z.D} {τ : T} : kPar i j D env [.d x, .d y] τ = D.nx ((env.set i (.d x)).set j (.d y)) τ := rfl
def kApD (i : Nat) (D : DEnds T) (env : List SV) (xs : List Z.D) (τ : T) : Option Z.D → Prop
  | some y => xs.length < sizeLine ∧ D.nx (env.set i (.ol (xs ++ [y]))) τ
  | none => False
def kAp (i : Nat) (D : DEnds T) (env : List SV) (xs : List Z.D) (r : SV) (τ : T) : Prop := kApD i D env xs τ r.dat?
def kApp (i : Nat) (te : W T) (D : DEnds T) (env : List SV) (τ : T) : Option SV → Prop
  | some (.ol xs) => te env τ (kAp i D env xs)
  | _ => False
theorem dApp_k (i : Nat) (te : W T) (D : DEnds T) (env : List SV) (τ : T) : dApp i te D env τ = kApp i te D env τ env[i]? := by
  unfold dApp
  generalize env[i]? = o
  match o with
  | some (.ol xs) =>
    show te env τ _ = te env τ (kAp i D env xs)
    congr 1
    funext r τ1
    exact opt_e (fun _ => rfl) rfl
  | some (.d _) => rfl
  | some (.vw _) => rfl
  | some (.raw _) => rfl
  | some .no => rfl
  | none => rfl
def kFrz (i : Nat) (t : WS T) (D : DEnds T) (env : List SV) (τ : T) : Option SV → Prop
  | some (.ol xs) => t D (env.set i (.d (.list xs))) τ
  | some (.d (.list xs)) => t D env τ
  | _ => False
theorem dFrz_k (i : Nat) (t : WS T) (D : DEnds T) (env : List SV) (τ : T) : dFrz i t D env τ = kFrz i t D env τ env[i]? := by
  unfold dFrz
  generalize env[i]? = o
  match o with
  | some (.ol xs) => rfl
  | some (.d (.list _)) => rfl
  | some (.d .none) => rfl
  | some (.d (.bool _)) => rfl
  | some (.d (.int _)) => rfl
  | some (.d (.str _)) => rfl
  | some (.d (.tuple _)) => rfl
  | some (.d (.dict _)) => rfl
  | some (.vw _) => rfl
  | some (.raw _) => rfl
  | some .no => rfl
  | none => rfl
/-! loops -/
def kSqB (Q : List D → T → Prop) (τ : T) : Option (List D) → Prop
  | some xs => Q xs τ
  | none => False
def kSq (Q : List D → T → Prop) (r : SV) (τ : T) : Prop := kSqB Q τ r.seq?
theorem dSeqI_k (te : W T) (env : List SV) (τ : T) (Q : List D → T → Prop) : dSeqI te env τ Q = te env τ (kSq Q) := by
  unfold dSeqI
  congr 1
  funext x τ1
  exact opt_e (fun _ => rfl) rfl
def kR1 (Q : List D → T → Prop) (rs : List SV) (τ : T) : Prop := ∃ j : Int, rs = [.d (.int j)] ∧ (-(2 ^ 62) ≤ j ∧ j < 2 ^ 62) ∧ Q (rgI 0 j.toNat) τ
def kR2 (Q : List D → T → Prop) (rs : List SV) (τ : T) : Prop := ∃ i j : Int, rs = [.d (.int i), .d (.int j)] ∧ (-(2 ^ 62) ≤ i ∧ i < 2 ^ 62 ∧ -(2 ^ 62) ≤ j ∧ j < 2 ^ 62) ∧ Q (rgI i (j - i).toNat) τ
theorem dRng1_k (ta : WA T) (env : List SV) (τ : T) (Q : List D → T → Prop) : dRng1 ta env τ Q = ta env τ (kR1 Q) := rfl
theorem dRng2_k (ta : WA T) (env : List SV) (τ : T) (Q : List D → T → Prop) : dRng2 ta env τ Q = ta env τ (kR2 Q) := rfl
theorem kR1_k {Q : List D → T → Prop} {j : Int} {τ : T} : kR1 Q [.d (.int j)] τ = ((-(2 ^ 62) ≤ j ∧ j < 2 ^ 62) ∧ Q (rgI 0 j.toNat) τ) := by
  simp [kR1]
theorem kR2_k {Q : List D → T → Prop} {i j : Int} {τ : T} : kR2 Q [.d (.int i), .d (.int j)] τ = ((-(2 ^ 62) ≤ i ∧ i < 2 ^ 62 ∧ -(2 ^ 62) ≤ j ∧ j < 2 ^ 62) ∧ Q (rgI i (j - i).toNat) τ) := by
  refine propext ⟨?_, fun h => ⟨i, j, rfl, h⟩⟩
  rintro ⟨a, b, e, h⟩
  cases e
  exact h
def kFor (t : Tg) (tb : WS T) (D : DEnds T) (env : List SV) (xs : List Z.D) (τ : T) : Prop := forW t tb D xs env τ
theorem dFor_k (ti : WI T) (t : Tg) (tb : WS T) (D : DEnds T) (env : List SV) (τ : T) : dFor ti t tb D env τ = ti env τ (kFor t tb D env) := rfl
def kOl (Q : SV → T → Prop) (acc : List D) (τ : T) : Prop := Q (.ol acc) τ
def kLc (t : Tg) (tt : WT T) (te : W T) (Q : SV → T → Prop) (env : List SV) (xs : List D) (τ : T) : Prop := lcW t tt te (kOl Q) xs [] env τ
theorem dLc_k (ti : WI T) (t : Tg) (tt : WT T) (te : W T) (vs : List Nat) (env : List SV) (τ : T) (Q : SV → T → Prop) : dLc ti t tt te vs env τ Q = ti env τ (kLc t tt te Q (wipeE env vs)) := rfl
theorem dYes_k (env : List SV) (τ : T) (Q : Bool → T → Prop) : dYes env τ Q = Q true τ := rfl
/-- a turn of a comprehension -/
def kDt (kc : D → T → Prop) (τ : T) : Option D → Prop
  | some y => kc y τ
  | none => False
def kDat (kc : D → T → Prop) (r : SV) (τ : T) : Prop := kDt kc τ r.dat?
def kTurn (te : W T) (env : List SV) (kc : D → T → Prop) (k0 : T → Prop) (b : Bool) (τ : T) : Prop := if b = true then te env τ (kDat kc) else k0 τ
theorem kTurn_t {te : W T} {env : List SV} {kc : D → T → Prop} {k0 : T → Prop} {τ : T} : kTurn te env kc k0 true τ = te env τ (kDat kc) := by simp [kTurn]
theorem kTurn_f {te : W T} {env : List SV} {kc : D → T → Prop} {k0 : T → Prop} {τ : T} : kTurn te env kc k0 false τ = k0 τ := by simp [kTurn]
def kTgB (tt : WT T) (te : W T) (kc : D → T → Prop) (k0 : T → Prop) (τ : T) : Option (List SV) → Prop
  | some env => tt env τ (kTurn te env kc k0)
  | none => False
theorem turn_k {t : Tg} {x : D} {env : List SV} {tt : WT T} {te : W T} {kc : D → T → Prop} {k0 : T → Prop} {τ : T} (h : kTgB tt te kc k0 τ (tgE t x env)) :
    opt (tgE t x env) fun env' => tt env' τ fun b τ1 => if b = true then te env' τ1 fun r τ2 => opt r.dat? fun y => kc y τ2 else k0 τ1 := by
  cases e : tgE t x env with
  | none => rw [e] at h; exact h.elim
  | some a =>
    rw [e] at h
    show tt a τ _
    have e : (fun (b : Bool) (τ1 : T) => if b = true then te a τ1 fun r τ2 => opt r.dat? fun y => kc y τ2 else k0 τ1) = kTurn te a kc k0 := by
      funext b τ1
      unfold kTurn
      congr 1
      congr 1
      funext r τ2
      exact opt_e (fun _ => rfl) rfl
    rw [e]
    exact h
/-- a turn of a for -/
def kFtB (tb : WS T) (D : DEnds T) (τ : T) : Option (List SV) → Prop
  | some env => tb D env τ
  | none => False
theorem fturn_k {t : Tg} {x : Z.D} {env : List SV} {tb : WS T} {D : DEnds T} {kn : List SV → T → Prop} {τ : T} (h : kFtB tb ⟨kn, D.rt, D.nx, kn⟩ τ (tgE t x env)) :
    opt (tgE t x env) fun env' => tb { D with nx := kn, ct := kn, bk := D.nx } env' τ := by
  cases e : tgE t x env with
  | none => rw [e] at h; exact h.elim
  | some a => rw [e] at h; exact h
/-! the rules, with turns said so -/
theorem lc_fm {t : Tg} {tt : WT T} {te : W T} {Q : List D → T → Prop} {env : List SV} {τ : T} (f : D → Option D) (xs : List D)
    (h : ∀ x ∈ xs, ∀ (kc : D → T → Prop) (k0 : T → Prop), (match f x with | some y => kc y τ | none => k0 τ) → kTgB tt te kc k0 τ (tgE t x env))
    (hl : xs.length ≤ sizeLine) (q : Q (xs.filterMap f) τ) : lcW t tt te Q xs [] env τ :=
  lcW_fm f xs [] (fun x hx kc k0 z => turn_k (h x hx kc k0 z)) (by simpa using hl) q
theorem lc_map {t : Tg} {tt : WT T} {te : W T} {Q : List D → T → Prop} {env : List SV} {τ : T} (f : D → D) (xs : List D)
    (h : ∀ x ∈ xs, ∀ (kc : D → T → Prop) (k0 : T → Prop), kc (f x) τ → kTgB tt te kc k0 τ (tgE t x env))
    (hl : xs.length ≤ sizeLine) (q : Q (xs.map f) τ) : lcW t tt te Q xs [] env τ :=
  lcW_map f xs (fun x hx kc k0 z => turn_k (h x hx kc k0 z)) hl q
theorem lc_inv {t : Tg} {tt : WT T} {te : W T} {Q : List D → T → Prop} {env : List SV} (P : Nat → List D → T → Prop) (xs : List D) (τ : T) (h0 : P 0 [] τ)
    (h : ∀ j x acc τ, xs[j]? = some x → P j acc τ → acc.length ≤ j → ∀ (kc : D → T → Prop) (k0 : T → Prop), (∀ y τ', P (j + 1) (acc ++ [y]) τ' → kc y τ') → (∀ τ', P (j + 1) acc τ' → k0 τ') → kTgB tt te kc k0 τ (tgE t x env))
    (hl : xs.length ≤ sizeLine) (q : ∀ acc τ, P xs.length acc τ → Q acc τ) : lcW t tt te Q xs [] env τ :=
  lcW_inv P xs 0 [] τ h0 (fun j x acc τ e p hl kc k0 h1 h2 => by
    rw [Nat.zero_add] at *
    exact turn_k (h j x acc τ e p hl kc k0 h1 h2)) (Nat.le_refl 0) (by omega) (by rw [Nat.zero_add]; exact q)
theorem for_inv {t : Tg} {tb : WS T} {D : DEnds T} (P : Nat → List SV → T → Prop) (xs : List Z.D) (env : List SV) (τ : T) (h0 : P 0 env τ)
    (h : ∀ j x env τ, xs[j]? = some x → P j env τ → ∀ kn : List SV → T → Prop, (∀ env' τ', P (j + 1) env' τ' → kn env' τ') → kFtB tb ⟨kn, D.rt, D.nx, kn⟩ τ (tgE t x env))
    (q : ∀ env τ, P xs.length env τ → D.nx env τ) : forW t tb D xs env τ :=
  forW_inv P xs 0 env τ h0 (fun j x env τ e p kn h1 => by
    rw [Nat.zero_add] at *
    exact fturn_k (h j x env τ e p kn h1)) (by rw [Nat.zero_add]; exact q)
/-! slices and more -/
def kSl3 (x : SV) (lo : Option Int) (Q : SV → T → Prop) (hi : Option Int) (τ : T) : Prop := gSl x lo hi (kG Q τ)
def kSl2 (th : WO T) (env : List SV) (x : SV) (Q : SV → T → Prop) (lo : Option Int) (τ : T) : Prop := th env τ (kSl3 x lo Q)
def kSl1 (tl th : WO T) (env : List SV) (Q : SV → T → Prop) (x : SV) (τ : T) : Prop := tl env τ (kSl2 th env x Q)
theorem dSl_k (te : W T) (tl th : WO T) (env : List SV) (τ : T) (Q : SV → T → Prop) : dSl te tl th env τ Q = te env τ (kSl1 tl th env Q) := rfl
theorem dNoPart_k (env : List SV) (τ : T) (Q : Option Int → T → Prop) : dNoPart env τ Q = Q none τ := rfl
def SV.int? : SV → Option Int
  | .d (.int i) => some i
  | _ => none
def kPtB (Q : Option Int → T → Prop) (τ : T) : Option Int → Prop
  | some i => Q (some i) τ
  | none => False
def kPt (Q : Option Int → T → Prop) (x : SV) (τ : T) : Prop := kPtB Q τ x.int?
theorem dPart_k (te : W T) (env : List SV) (τ : T) (Q : Option Int → T → Prop) : dPart te env τ Q = te env τ (kPt Q) := by
  unfold dPart
  congr 1
  funext x τ1
  refine propext ⟨?_, fun h => ?_⟩
  · rintro ⟨i, rfl, h⟩
    exact h
  · unfold kPt SV.int? at h
    split at h
    · exact ⟨_, rfl, h⟩
    · exact h.elim
def kUn (g : SV → (SV → Prop) → Prop) (Q : SV → T → Prop) (x : SV) (τ : T) : Prop := g x (kG Q τ)
theorem dUn_k (g : SV → (SV → Prop) → Prop) (ta : W T) (env : List SV) (τ : T) (Q : SV → T → Prop) : dUn g ta env τ Q = ta env τ (kUn g Q) := rfl
theorem dEmp_k (env : List SV) (τ : T) (Q : SV → T → Prop) : dEmp env τ Q = Q (.d (.dict [])) τ := rfl
def kM2 (g : SV → SV → (SV → Prop) → Prop) (x : SV) (Q : SV → T → Prop) (y : SV) (τ : T) : Prop := g x y (kG Q τ)
def kM1 (te : W T) (env : List SV) (g : SV → SV → (SV → Prop) → Prop) (Q : SV → T → Prop) (x : SV) (τ : T) : Prop := (∃ a, x = .d (.str a)) ∧ te env τ (kM2 g x Q)
theorem dM1_k (g : SV → SV → (SV → Prop) → Prop) (to te : W T) (env : List SV) (τ : T) (Q : SV → T → Prop) : dM1 g to te env τ Q = to env τ (kM1 te env g Q) := rfl
theorem kM1_k {te : W T} {env : List SV} {g : SV → SV → (SV → Prop) → Prop} {Q : SV → T → Prop} {a : Str} {τ : T} : kM1 te env g Q (.d (.str a)) τ = te env τ (kM2 g (.d (.str a)) Q) := by
  unfold kM1
  simp
end
/-! ### operators on what is known -/
theorem gI_n {f : Int → Int → D} {i j : Int} {Q : SV → Prop} : gI noC f (.d (.int i)) (.d (.int j)) Q = Q (.d (f i j)) := by
  unfold gI noC
  simp
theorem gI_k {C : Int → Int → Prop} {f : Int → Int → D} {i j : Int} {Q : SV → Prop} : gI C f (.d (.int i)) (.d (.int j)) Q = (C i j ∧ Q (.d (f i j))) := by
  unfold gI
  simp
theorem gAdd_i {i j : Int} {Q : SV → Prop} : gAdd (.d (.int i)) (.d (.int j)) Q = Q (.d (.int (i + j))) := rfl
theorem gAdd_s {i j : Str} {Q : SV → Prop} : gAdd (.d (.str i)) (.d (.str j)) Q = (i.length + j.length ≤ sizeLine ∧ Q (.d (.str (i ++ j)))) := rfl
theorem gAdd_t {i j : List D} {Q : SV → Prop} : gAdd (.d (.tuple i)) (.d (.tuple j)) Q = (i.length + j.length ≤ sizeLine ∧ Q (.d (.tuple (i ++ j)))) := rfl
theorem gAdd_ll {i j : List D} {Q : SV → Prop} : gAdd (.d (.list i)) (.d (.list j)) Q = (i.length + j.length ≤ sizeLine ∧ Q (.ol (i ++ j))) := by simp [gAdd, SV.lst?]
theorem gAdd_lo {i j : List D} {Q : SV → Prop} : gAdd (.d (.list i)) (.ol j) Q = (i.length + j.length ≤ sizeLine ∧ Q (.ol (i ++ j))) := by simp [gAdd, SV.lst?]
theorem gAdd_ol {i j : List D} {Q : SV → Prop} : gAdd (.ol i) (.d (.list j)) Q = (i.length + j.length ≤ sizeLine ∧ Q (.ol (i ++ j))) := by simp [gAdd, SV.lst?]
theorem gAdd_oo {i j : List D} {Q : SV → Prop} : gAdd (.ol i) (.ol j) Q = (i.length + j.length ≤ sizeLine ∧ Q (.ol (i ++ j))) := by simp [gAdd, SV.lst?]
theorem gAdd_vo {i j : List D} {Q : SV → Prop} : gAdd (.vw i) (.ol j) Q = (i.length + j.length ≤ sizeLine ∧ Q (.ol (i ++ j))) := by simp [gAdd, SV.lst?]
theorem gAdd_ov {i j : List D} {Q : SV → Prop} : gAdd (.ol i) (.vw j) Q = (i.length + j.length ≤ sizeLine ∧ Q (.ol (i ++ j))) := by simp [gAdd, SV.lst?]
theorem gAdd_vv {i j : List D} {Q : SV → Prop} : gAdd (.vw i) (.vw j) Q = (i.length + j.length ≤ sizeLine ∧ Q (.ol (i ++ j))) := by simp [gAdd, SV.lst?]
def kEq2 (neg : Bool) (a : D) (Q : SV → Prop) : Option D → Prop
  | some b => eqOk a b = true ∧ Q (.d (.bool (neg ^^ PyData.eqv a b)))
  | none => False
def kEq1 (neg : Bool) (y : SV) (Q : SV → Prop) : Option D → Prop
  | some a => kEq2 neg a Q y.now?
  | none => False
theorem gEq_k (x y : SV) (Q : SV → Prop) : gEq x y Q = kEq1 false y Q x.now? := by
  unfold gEq
  exact opt_e (k := kEq1 false y Q) (fun a => opt_e (k := kEq2 false a Q) (fun b => by simp [kEq2]) rfl) rfl
theorem gNe_k (x y : SV) (Q : SV → Prop) : gNe x y Q = kEq1 true y Q x.now? := by
  unfold gNe
  exact opt_e (k := kEq1 true y Q) (fun a => opt_e (k := kEq2 true a Q) (fun b => by simp [kEq2]) rfl) rfl
theorem gCmp_i {f : Int → Int → Bool} {g : Str → Str → Bool} {i j : Int} {Q : SV → Prop} : gCmp f g (.d (.int i)) (.d (.int j)) Q = Q (.d (.bool (f i j))) := rfl
theorem gCmp_s {f : Int → Int → Bool} {g : Str → Str → Bool} {i j : Str} {Q : SV → Prop} : gCmp f g (.d (.str i)) (.d (.str j)) Q = Q (.d (.bool (g i j))) := rfl
def kIsB (neg : Bool) (Q : SV → Prop) : Option Bool → Prop
  | some b => Q (.d (.bool (neg ^^ b)))
  | none => False
theorem gIsN_d {x : D} {Q : SV → Prop} : gIsN (.d x) (.d .none) Q = kIsB false Q (SV.isN (.d x)) := by
  cases x <;> simp [gIsN, opt, kIsB, SV.isN]
theorem gNotN_d {x : D} {Q : SV → Prop} : gNotN (.d x) (.d .none) Q = kIsB true Q (SV.isN (.d x)) := by
  cases x <;> simp [gNotN, opt, kIsB, SV.isN]
theorem gIsN_ol {x : List D} {Q : SV → Prop} : gIsN (.ol x) (.d .none) Q = kIsB false Q (some false) := by
  simp [gIsN, opt, kIsB, SV.isN]
theorem gNotN_ol {x : List D} {Q : SV → Prop} : gNotN (.ol x) (.d .none) Q = kIsB true Q (some false) := by
  simp [gNotN, opt, kIsB, SV.isN]
theorem gIsN_vw {x : List D} {Q : SV → Prop} : gIsN (.vw x) (.d .none) Q = kIsB false Q (some false) := by
  simp [gIsN, opt, kIsB, SV.isN]
theorem gNotN_vw {x : List D} {Q : SV → Prop} : gNotN (.vw x) (.d .none) Q = kIsB true Q (some false) := by
  simp [gNotN, opt, kIsB, SV.isN]
def kAtS (Q : SV → Prop) : Option Nat → Prop
  | some c => Q (.d (sg c))
  | none => False
def kAt (Q : SV → Prop) : Option D → Prop
  | some c => Q (.d c)
  | none => False
theorem gIx_s {z : Str} {i : Int} {Q : SV → Prop} : gIx (.d (.str z)) (.d (.int i)) Q = (z.length ≤ sizeLine ∧ kAtS Q (atI z.cps.toList i)) := by
  unfold gIx
  simp only [SV.d.injEq, PyData.int.injEq, exists_eq_left']
  rw [show (opt (atI z.cps.toList i) fun c => Q (SV.d (sg c))) = kAtS Q (atI z.cps.toList i) from opt_e (fun _ => rfl) rfl]
theorem gIx_t {z : List D} {i : Int} {Q : SV → Prop} : gIx (.d (.tuple z)) (.d (.int i)) Q = kAt Q (atI z i) := by
  unfold gIx
  simp only [SV.d.injEq, PyData.int.injEq, exists_eq_left']
  exact opt_e (k := kAt Q) (fun _ => rfl) rfl
theorem gIx_l {z : List D} {i : Int} {Q : SV → Prop} : gIx (.d (.list z)) (.d (.int i)) Q = kAt Q (atI z i) := by
  unfold gIx
  simp only [SV.d.injEq, PyData.int.injEq, exists_eq_left']
  exact opt_e (k := kAt Q) (fun _ => rfl) rfl
theorem gIx_ol {z : List D} {i : Int} {Q : SV → Prop} : gIx (.ol z) (.d (.int i)) Q = kAt Q (atI z i) := by
  unfold gIx
  simp only [SV.d.injEq, PyData.int.injEq, exists_eq_left']
  exact opt_e (k := kAt Q) (fun _ => rfl) rfl
theorem gIx_vw {z : List D} {i : Int} {Q : SV → Prop} : gIx (.vw z) (.d (.int i)) Q = kAt Q (atI z i) := by
  unfold gIx
  simp only [SV.d.injEq, PyData.int.injEq, exists_eq_left']
  exact opt_e (k := kAt Q) (fun _ => rfl) rfl
theorem gSl_s {z : Str} {lo hi : Option Int} {Q : SV → Prop} : gSl (.d (.str z)) lo hi Q = (z.length ≤ sizeLine ∧ Q (.d (.str (cutS z lo hi)))) := rfl
theorem gSl_t {z : List D} {lo hi : Option Int} {Q : SV → Prop} : gSl (.d (.tuple z)) lo hi Q = Q (.d (.tuple (cutL z lo hi))) := rfl
theorem gSl_l {z : List D} {lo hi : Option Int} {Q : SV → Prop} : gSl (.d (.list z)) lo hi Q = Q (.ol (cutL z lo hi)) := rfl
theorem gSl_ol {z : List D} {lo hi : Option Int} {Q : SV → Prop} : gSl (.ol z) lo hi Q = Q (.ol (cutL z lo hi)) := rfl
theorem gSl_vw {z : List D} {lo hi : Option Int} {Q : SV → Prop} : gSl (.vw z) lo hi Q = Q (.ol (cutL z lo hi)) := rfl
theorem gLen_s {z : Str} {Q : SV → Prop} : gLen [.d (.str z)] Q = (z.length ≤ sizeLine ∧ Q (.d (.int z.length))) := by
  unfold gLen opt SV.size?
  by_cases h : z.length ≤ sizeLine
  · simp [h]
  · simp [h]
theorem gLen_t {z : List D} {Q : SV → Prop} : gLen [.d (.tuple z)] Q = Q (.d (.int z.length)) := rfl
theorem gLen_l {z : List D} {Q : SV → Prop} : gLen [.d (.list z)] Q = Q (.d (.int z.length)) := rfl
theorem gLen_ol {z : List D} {Q : SV → Prop} : gLen [.ol z] Q = Q (.d (.int z.length)) := rfl
theorem gLen_vw {z : List D} {Q : SV → Prop} : gLen [.vw z] Q = Q (.d (.int z.length)) := rfl
def kTy (c : String) (Q : SV → Prop) : Option String → Prop
  | some n => Q (.d (.bool (isT n c)))
  | none => False
theorem gIsi_k {x : SV} {c : String} {Q : SV → Prop} : gIsi [x, .raw (.ty c)] Q = (tyNames.contains c = true ∧ kTy c Q x.tyN) := by
  show (_ ∧ (opt x.tyN fun n => Q (SV.d (PyData.bool (isT n c))))) = _
  rw [show (opt x.tyN fun n => Q (SV.d (PyData.bool (isT n c)))) = kTy c Q x.tyN from opt_e (fun _ => rfl) rfl]
def kBls (f : List Bool → Bool) (Q : SV → Prop) : Option (List Bool) → Prop
  | some bs => Q (.d (.bool (f bs)))
  | none => False
theorem gAll_d {xs : List D} {Q : SV → Prop} : gAll [.d (.list xs)] Q = kBls (·.all id) Q (bools? xs) := opt_e (fun _ => rfl) rfl
theorem gAll_ol {xs : List D} {Q : SV → Prop} : gAll [.ol xs] Q = kBls (·.all id) Q (bools? xs) := opt_e (fun _ => rfl) rfl
theorem gAny_d {xs : List D} {Q : SV → Prop} : gAny [.d (.list xs)] Q = kBls (·.any id) Q (bools? xs) := opt_e (fun _ => rfl) rfl
theorem gAny_ol {xs : List D} {Q : SV → Prop} : gAny [.ol xs] Q = kBls (·.any id) Q (bools? xs) := opt_e (fun _ => rfl) rfl
theorem gInt_i {i : Int} {Q : SV → Prop} : gInt [.d (.int i)] Q = Q (.d (.int i)) := rfl
theorem gInt_b {i : Bool} {Q : SV → Prop} : gInt [.d (.bool i)] Q = Q (.d (.int (if i then 1 else 0))) := rfl
theorem gInt_s {i : Str} {Q : SV → Prop} : gInt [.d (.str i)] Q = ∃ n, PySem.intText? i = some n ∧ i.length ≤ 640 ∧ Q (.d (.int n)) := rfl
theorem gII_k {f : Int → Int → Int} {i j : Int} {Q : SV → Prop} : gII f [.d (.int i), .d (.int j)] Q = Q (.d (.int (f i j))) := rfl
theorem gNeg_k {i : Int} {Q : SV → Prop} : gNeg (.d (.int i)) Q = Q (.d (.int (-i))) := rfl
def kJn (a : Str) (Q : SV → Prop) : Option (List Str) → Prop
  | some ys => (ys.map (·.length)).sum + ys.length * a.length ≤ 16777216 ∧ Q (.d (.str (Txt.join a ys)))
  | none => False
theorem gJoin_ol {a : Str} {xs : List D} {Q : SV → Prop} : gJoin (.d (.str a)) (.ol xs) Q = kJn a Q (strs? xs) := by
  unfold gJoin
  simp only [SV.d.injEq, PyData.str.injEq, exists_eq_left']
  exact opt_e (fun _ => rfl) rfl
theorem gJoin_l {a : Str} {xs : List D} {Q : SV → Prop} : gJoin (.d (.str a)) (.d (.list xs)) Q = kJn a Q (strs? xs) := by
  unfold gJoin
  simp only [SV.d.injEq, PyData.str.injEq, exists_eq_left']
  exact opt_e (fun _ => rfl) rfl
theorem gJoin_t {a : Str} {xs : List D} {Q : SV → Prop} : gJoin (.d (.str a)) (.d (.tuple xs)) Q = kJn a Q (strs? xs) := by
  unfold gJoin
  simp only [SV.d.injEq, PyData.str.injEq, exists_eq_left']
  exact opt_e (fun _ => rfl) rfl
theorem gJoin_vw {a : Str} {xs : List D} {Q : SV → Prop} : gJoin (.d (.str a)) (.vw xs) Q = kJn a Q (strs? xs) := by
  unfold gJoin
  simp only [SV.d.injEq, PyData.str.injEq, exists_eq_left']
  exact opt_e (fun _ => rfl) rfl
theorem gMul_i {i j : Int} {Q : SV → Prop} : gMul (.d (.int i)) (.d (.int j)) Q = (CMul i j ∧ Q (.d (.int (i * j)))) := by
  unfold gMul gMulS
  rw [gI_k]
  simp
theorem gMul_s {i : Str} {j : Int} {Q : SV → Prop} : gMul (.d (.str i)) (.d (.int j)) Q = ((2 ≤ j ∧ j ≤ 100000 ∧ 0 < i.length ∧ i.length ≤ 100) ∧ (strRep i j.toNat).length ≤ sizeLine ∧ Q (.d (.str (strRep i j.toNat)))) := by
  unfold gMul gMulS gI
  simp
theorem kV_1 {T : Type} {Q : SV → T → Prop} {τ : T} {x : _} : kV Q τ (some (.d x)) = (Q (.d x) τ) := rfl
theorem kV_2 {T : Type} {Q : SV → T → Prop} {τ : T} {xs : _} : kV Q τ (some (.ol xs)) = (Q (.vw xs) τ) := rfl
theorem kV_3 {T : Type} {Q : SV → T → Prop} {τ : T} {v : _} : kV Q τ (some (.raw v)) = (Q (.raw v) τ) := rfl
theorem kTb_1 {T : Type} {Q : Bool → T → Prop} {τ : T} {b : _} : kTb Q τ (some b) = (Q b τ) := rfl
theorem kTb_2 {T : Type} {Q : Bool → T → Prop} {τ : T}  : kTb Q τ (none) = (False) := rfl
theorem kAndB_1 {T : Type} {tb : W T} {env : List SV} {Q : SV → T → Prop} {x : SV} {τ : T}  : kAndB tb env Q x τ (some true) = (tb env τ Q) := rfl
theorem kAndB_2 {T : Type} {tb : W T} {env : List SV} {Q : SV → T → Prop} {x : SV} {τ : T}  : kAndB tb env Q x τ (some false) = (Q x τ) := rfl
theorem kAndB_3 {T : Type} {tb : W T} {env : List SV} {Q : SV → T → Prop} {x : SV} {τ : T}  : kAndB tb env Q x τ (none) = (False) := rfl
theorem kOrB_1 {T : Type} {tb : W T} {env : List SV} {Q : SV → T → Prop} {x : SV} {τ : T}  : kOrB tb env Q x τ (some true) = (Q x τ) := rfl
theorem kOrB_2 {T : Type} {tb : W T} {env : List SV} {Q : SV → T → Prop} {x : SV} {τ : T}  : kOrB tb env Q x τ (some false) = (tb env τ Q) := rfl
theorem kOrB_3 {T : Type} {tb : W T} {env : List SV} {Q : SV → T → Prop} {x : SV} {τ : T}  : kOrB tb env Q x τ (none) = (False) := rfl
theorem kNotB_1 {T : Type} {Q : SV → T → Prop} {τ : T} {b : _} : kNotB Q τ (some b) = (Q (.d (.bool (!b))) τ) := rfl
theorem kNotB_2 {T : Type} {Q : SV → T → Prop} {τ : T}  : kNotB Q τ (none) = (False) := rfl
theorem kCoB_1 {T : Type} {ta : WA T} {env : List SV} {Q : List SV → T → Prop} {τ : T} {a : _} : kCoB ta env Q τ (some a) = (ta env τ (kCo2 Q a)) := rfl
theorem kCoB_2 {T : Type} {ta : WA T} {env : List SV} {Q : List SV → T → Prop} {τ : T}  : kCoB ta env Q τ (none) = (False) := rfl
theorem kTupB_1 {T : Type} {Q : SV → T → Prop} {τ : T} {xs : _} : kTupB Q τ (some xs) = (xs.length ≤ sizeLine ∧ Q (.d (.tuple xs)) τ) := rfl
theorem kTupB_2 {T : Type} {Q : SV → T → Prop} {τ : T}  : kTupB Q τ (none) = (False) := rfl
theorem kLstB_1 {T : Type} {Q : SV → T → Prop} {τ : T} {xs : _} : kLstB Q τ (some xs) = (xs.length ≤ sizeLine ∧ Q (.ol xs) τ) := rfl
theorem kLstB_2 {T : Type} {Q : SV → T → Prop} {τ : T}  : kLstB Q τ (none) = (False) := rfl
theorem kStB_1 {T : Type} {i : Nat} {D : DEnds T} {env : List SV} {τ : T} {a : _} : kStB i D env τ (some a) = (D.nx (env.set i a) τ) := rfl
theorem kStB_2 {T : Type} {i : Nat} {D : DEnds T} {env : List SV} {τ : T}  : kStB i D env τ (none) = (False) := rfl
theorem kEnv_1 {T : Type} {D : DEnds T} {τ : T} {env : _} : kEnv D τ (some env) = (D.nx env τ) := rfl
theorem kEnv_2 {T : Type} {D : DEnds T} {τ : T}  : kEnv D τ (none) = (False) := rfl
theorem kAsB_1 {T : Type} {t : Tg} {D : DEnds T} {env : List SV} {τ : T} {x : _} : kAsB t D env τ (some x) = (kEnv D τ (tgE t x env)) := rfl
theorem kAsB_2 {T : Type} {t : Tg} {D : DEnds T} {env : List SV} {τ : T}  : kAsB t D env τ (none) = (False) := rfl
theorem kApD_1 {T : Type} {i : Nat} {D : DEnds T} {env : List SV} {xs : List Z.D} {τ : T} {y : _} : kApD i D env xs τ (some y) = (xs.length < sizeLine ∧ D.nx (env.set i (.ol (xs ++ [y]))) τ) := rfl
theorem kApD_2 {T : Type} {i : Nat} {D : DEnds T} {env : List SV} {xs : List Z.D} {τ : T}  : kApD i D env xs τ (none) = (False) := rfl
theorem kApp_1 {T : Type} {i : Nat} {te : W T} {D : DEnds T} {env : List SV} {τ : T} {xs : _} : kApp i te D env τ (some (.ol xs)) = (te env τ (kAp i D env xs)) := rfl
theorem kFrz_1 {T : Type} {i : Nat} {t : WS T} {D : DEnds T} {env : List SV} {τ : T} {xs : _} : kFrz i t D env τ (some (.ol xs)) = (t D (env.set i (.d (.list xs))) τ) := rfl
theorem kFrz_2 {T : Type} {i : Nat} {t : WS T} {D : DEnds T} {env : List SV} {τ : T} {xs : _} : kFrz i t D env τ (some (.d (.list xs))) = (t D env τ) := rfl
theorem kSqB_1 {T : Type} {Q : List D → T → Prop} {τ : T} {xs : _} : kSqB Q τ (some xs) = (Q xs τ) := rfl
theorem kSqB_2 {T : Type} {Q : List D → T → Prop} {τ : T}  : kSqB Q τ (none) = (False) := rfl
theorem kDt_1 {T : Type} {kc : D → T → Prop} {τ : T} {y : _} : kDt kc τ (some y) = (kc y τ) := rfl
theorem kDt_2 {T : Type} {kc : D → T → Prop} {τ : T}  : kDt kc τ (none) = (False) := rfl
theorem kTgB_1 {T : Type} {tt : WT T} {te : W T} {kc : D → T → Prop} {k0 : T → Prop} {τ : T} {env : _} : kTgB tt te kc k0 τ (some env) = (tt env τ (kTurn te env kc k0)) := rfl
theorem kTgB_2 {T : Type} {tt : WT T} {te : W T} {kc : D → T → Prop} {k0 : T → Prop} {τ : T}  : kTgB tt te kc k0 τ (none) = (False) := rfl
theorem kFtB_1 {T : Type} {tb : WS T} {D : DEnds T} {τ : T} {env : _} : kFtB tb D τ (some env) = (tb D env τ) := rfl
theorem kFtB_2 {T : Type} {tb : WS T} {D : DEnds T} {τ : T}  : kFtB tb D τ (none) = (False) := rfl
theorem kPtB_1 {T : Type} {Q : Option Int → T → Prop} {τ : T} {i : _} : kPtB Q τ (some i) = (Q (some i) τ) := rfl
theorem kPtB_2 {T : Type} {Q : Option Int → T → Prop} {τ : T}  : kPtB Q τ (none) = (False) := rfl
theorem kEq2_1  {neg : Bool} {a : D} {Q : SV → Prop} {b : _} : kEq2 neg a Q (some b) = (eqOk a b = true ∧ Q (.d (.bool (neg ^^ PyData.eqv a b)))) := rfl
theorem kEq2_2  {neg : Bool} {a : D} {Q : SV → Prop}  : kEq2 neg a Q (none) = (False) := rfl
theorem kEq1_1  {neg : Bool} {y : SV} {Q : SV → Prop} {a : _} : kEq1 neg y Q (some a) = (kEq2 neg a Q y.now?) := rfl
theorem kEq1_2  {neg : Bool} {y : SV} {Q : SV → Prop}  : kEq1 neg y Q (none) = (False) := rfl
theorem kIsB_1  {neg : Bool} {Q : SV → Prop} {b : _} : kIsB neg Q (some b) = (Q (.d (.bool (neg ^^ b)))) := rfl
theorem kIsB_2  {neg : Bool} {Q : SV → Prop}  : kIsB neg Q (none) = (False) := rfl
theorem kAtS_1  {Q : SV → Prop} {c : _} : kAtS Q (some c) = (Q (.d (sg c))) := rfl
theorem kAtS_2  {Q : SV → Prop}  : kAtS Q (none) = (False) := rfl
theorem kAt_1  {Q : SV → Prop} {c : _} : kAt Q (some c) = (Q (.d c)) := rfl
theorem kAt_2  {Q : SV → Prop}  : kAt Q (none) = (False) := rfl
theorem kTy_1  {c : String} {Q : SV → Prop} {n : _} : kTy c Q (some n) = (Q (.d (.bool (isT n c)))) := rfl
theorem kTy_2  {c : String} {Q : SV → Prop}  : kTy c Q (none) = (False) := rfl
theorem kBls_1  {f : List Bool → Bool} {Q : SV → Prop} {bs : _} : kBls f Q (some bs) = (Q (.d (.bool (f bs)))) := rfl
theorem kBls_2  {f : List Bool → Bool} {Q : SV → Prop}  : kBls f Q (none) = (False) := rfl
theorem kJn_1  {a : Str} {Q : SV → Prop} {ys : _} : kJn a Q (some ys) = ((ys.map (·.length)).sum + ys.length * a.length ≤ 16777216 ∧ Q (.d (.str (Txt.join a ys)))) := rfl
theorem kJn_2  {a : Str} {Q : SV → Prop}  : kJn a Q (none) = (False) := rfl
/-! ### by cases -/
section
variable {T : Type}
theorem kIfS_of {t u : WS T} {D : DEnds T} {env : List SV} {b : Bool} {τ : T} (h1 : b = true → t D env τ) (h2 : b = false → u D env τ) : kIfS t u D env b τ := by
  cases b with
  | true => rw [kIfS_t]; exact h1 rfl
  | false => rw [kIfS_f]; exact h2 rfl
theorem kIf_of {t u : W T} {Q : SV → T → Prop} {env : List SV} {b : Bool} {τ : T} (h1 : b = true → t env τ Q) (h2 : b = false → u env τ Q) : kIf t u env Q b τ := by
  cases b with
  | true => rw [kIf_t]; exact h1 rfl
  | false => rw [kIf_f]; exact h2 rfl
theorem kAndT_of {u : WT T} {Q : Bool → T → Prop} {env : List SV} {b : Bool} {τ : T} (h1 : b = true → u env τ Q) (h2 : b = false → Q false τ) : kAndT u env Q b τ := by
  cases b with
  | true => rw [kAndT_t]; exact h1 rfl
  | false => rw [kAndT_f]; exact h2 rfl
theorem kOrT_of {u : WT T} {Q : Bool → T → Prop} {env : List SV} {b : Bool} {τ : T} (h1 : b = true → Q true τ) (h2 : b = false → u env τ Q) : kOrT u env Q b τ := by
  cases b with
  | true => rw [kOrT_t]; exact h1 rfl
  | false => rw [kOrT_f]; exact h2 rfl
theorem kAndB_of {u : W T} {Q : SV → T → Prop} {env : List SV} {x : SV} {b : Bool} {τ : T} (h1 : b = true → u env τ Q) (h2 : b = false → Q x τ) : kAndB u env Q x τ (some b) := by
  cases b with
  | true => exact h1 rfl
  | false => exact h2 rfl
theorem kOrB_of {u : W T} {Q : SV → T → Prop} {env : List SV} {x : SV} {b : Bool} {τ : T} (h1 : b = true → Q x τ) (h2 : b = false → u env τ Q) : kOrB u env Q x τ (some b) := by
  cases b with
  | true => exact h1 rfl
  | false => exact h2 rfl
theorem kChB_of {tc : W T} {env : List SV} {g' : SV → SV → (SV → Prop) → Prop} {y : SV} {Q : SV → T → Prop} {b : Bool} {τ : T} (h1 : b = true → tc env τ (kCh4 g' y Q)) (h2 : b = false → Q (.d (.bool false)) τ) : kChB tc env g' y Q b τ := by
  cases b with
  | true => rw [kChB_t]; exact h1 rfl
  | false => rw [kChB_f]; exact h2 rfl
theorem kTurn_of {te : W T} {env : List SV} {kc : D → T → Prop} {k0 : T → Prop} {b : Bool} {τ : T} (h1 : b = true → te env τ (kDat kc)) (h2 : b = false → k0 τ) : kTurn te env kc k0 b τ := by
  cases b with
  | true => rw [kTurn_t]; exact h1 rfl
  | false => rw [kTurn_f]; exact h2 rfl
theorem kAt_of {Q : SV → Prop} {xs : List D} {i : Int} (h0 : 0 ≤ i) (h1 : i < (xs.length : Int)) (h : ∀ x, xs[i.toNat]? = some x → x ∈ xs → Q (.d x)) : kAt Q (atI xs i) := by
  obtain ⟨x, e, e2, hx⟩ := atI_some h0 h1
  rw [e]
  exact h x e2 hx
theorem kAtS_of {Q : SV → Prop} {xs : List Nat} {i : Int} (h0 : 0 ≤ i) (h1 : i < (xs.length : Int)) (h : ∀ x, xs[i.toNat]? = some x → x ∈ xs → Q (.d (sg x))) : kAtS Q (atI xs i) := by
  obtain ⟨x, e, e2, hx⟩ := atI_some h0 h1
  rw [e]
  exact h x e2 hx
end
/-- a text of no more than n signs -/
def okN (n : Nat) (s : Str) : Prop := s.length ≤ n ∧ ∀ c ∈ cs s, c < 1114112
def okNb (n : Nat) (s : Str) : Bool := decide (s.length ≤ n) && (cs s).all fun c => decide (c < 1114112)
theorem okN_b {n : Nat} {s : Str} (h : okNb n s = true) : okN n s := by
  unfold okNb at h
  rw [Bool.and_eq_true, List.all_eq_true] at h
  exact ⟨of_decide_eq_true h.1, fun c hc => of_decide_eq_true (h.2 c hc)⟩
theorem okN.ok {n : Nat} {s : Str} (h : okN n s) (hn : n ≤ 100000) : okS s := ⟨Nat.le_trans h.1 hn, h.2⟩
theorem okN.le {n m : Nat} {s : Str} (h : okN n s) (hn : n ≤ m) : okN m s := ⟨Nat.le_trans h.1 hn, h.2⟩
theorem okN.add {n m : Nat} {s t : Str} (h : okN n s) (h' : okN m t) : okN (n + m) (s ++ t) := by
  constructor
  · rw [str_len, cs_append, List.length_append, ← str_len, ← str_len]
    exact Nat.add_le_add h.1 h'.1
  · rw [cs_append]
    intro c hc
    rcases List.mem_append.mp hc with hc | hc
    · exact h.2 c hc
    · exact h'.2 c hc
theorem cs_cut (s : Str) (lo hi : Option Int) : ∃ a b, cs (cutS s lo hi) = ((cs s).drop a).take b := ⟨_, _, rfl⟩
theorem okN.cut {n : Nat} {s : Str} (h : okN n s) (lo hi : Option Int) : okN n (cutS s lo hi) := by
  obtain ⟨a, b, e⟩ := cs_cut s lo hi
  have h1 := h.1
  rw [str_len] at h1
  constructor
  · rw [str_len, e, List.length_take, List.length_drop]
    omega
  · rw [e]
    exact fun c hc => h.2 c (List.mem_of_mem_drop (List.mem_of_mem_take hc))
theorem okN.sg {c : Nat} (h : c < 1114112) : okN 1 ⟨#[c]⟩ := ⟨Nat.le_refl 1, fun d hd => by
  have : d ∈ [c] := hd
  rw [List.mem_singleton] at this
  omega⟩
theorem okN.mk {l : List Nat} {n : Nat} (h1 : l.length ≤ n) (h : ∀ c ∈ l, c < 1114112) : okN n (mkS l) := ⟨by rw [str_len]; exact h1, h⟩
theorem okN.sum {n m : Nat} {s t : Str} (h : okN n s) (h' : okN m t) (hn : n + m ≤ 100000) : s.length + t.length ≤ sizeLine := by
  have := h.1
  have := h'.1
  rw [sizeLine_eq]
  omega
theorem okN.sz {n : Nat} {s : Str} (h : okN n s) (hn : n ≤ 100000) : s.length ≤ sizeLine := (h.ok hn).sz
def okDb (n : Nat) (x : D) : Bool := match x with
  | .str s => okNb n s
  | _ => false
theorem okD_b {n : Nat} {xs : List D} (h : xs.all (okDb n) = true) : ∀ x ∈ xs, ∃ s, x = .str s ∧ okN n s := fun x hx => by
  have := List.all_eq_true.mp h x hx
  cases x with
  | str s => exact ⟨s, rfl, okN_b this⟩
  | _ => cases this
theorem kAt_lit {Q : SV → Prop} {xs : List D} {i : Int} (P : D → Prop) (hall : ∀ x ∈ xs, P x) (h0 : 0 ≤ i) (h1 : i < (xs.length : Int)) (h : ∀ x, P x → Q (.d x)) : kAt Q (atI xs i) :=
  kAt_of h0 h1 fun x _ hx => h x (hall x hx)
theorem kAtS_lit {Q : SV → Prop} {z : Str} {i : Int} (n : Nat) (hn : z.cps.toList.length = n) (hall : okNb n z = true) (h0 : 0 ≤ i) (h1 : i < (n : Int)) (h : ∀ c, c < 1114112 → Q (.d (sg c))) : kAtS Q (atI z.cps.toList i) :=
  kAtS_of h0 (by rw [hn]; exact h1) fun c _ hc => h c ((okN_b hall).2 c hc)
theorem noC_t (i j : Int) : noC i j = True := rfl
theorem rep_cs (x : Array Nat) : ∀ (n : Nat) (acc : Array Nat), ((List.replicate n x).foldl (· ++ ·) acc).toList = acc.toList ++ (List.replicate n x.toList).flatten
  | 0, acc => by simp
  | n + 1, acc => by
    rw [List.replicate_succ, List.foldl_cons, rep_cs x n, List.replicate_succ, List.flatten_cons, Array.toList_append, List.append_assoc]
theorem cs_rep (a : Str) (n : Nat) : cs (strRep a n) = (List.replicate n (cs a)).flatten := by
  show ((List.replicate n a.cps).foldl (· ++ ·) #[]).toList = _
  rw [rep_cs]
  rfl
theorem okN.rep {m : Nat} {a : Str} (h : okN m a) (k : Nat) : okN (k * m) (strRep a k) := by
  constructor
  · rw [str_len, cs_rep, List.length_flatten, List.map_replicate, List.sum_replicate_nat, ← str_len]
    exact Nat.mul_le_mul_left k h.1
  · rw [cs_rep]
    intro c hc
    obtain ⟨l, hl, hc⟩ := List.mem_flatten.mp hc
    rw [List.mem_replicate] at hl
    rw [hl.2] at hc
    exact h.2 c hc
theorem strs_of {n : Nat} {a : Str} {P : D → Prop} (h : okN n a) (hp : ∀ s, okN n s → P (.str s)) : P (.str a) := hp a h
theorem szs : 1 ≤ sizeLine ∧ 2 ≤ sizeLine ∧ 3 ≤ sizeLine ∧ 4 ≤ sizeLine ∧ 5 ≤ sizeLine ∧ 6 ≤ sizeLine ∧ 7 ≤ sizeLine ∧ 8 ≤ sizeLine ∧ 9 ≤ sizeLine ∧ 10 ≤ sizeLine ∧ 11 ≤ sizeLine ∧ 12 ≤ sizeLine ∧ 13 ≤ sizeLine ∧ 14 ≤ sizeLine ∧ 15 ≤ sizeLine ∧ 16 ≤ sizeLine ∧ 17 ≤ sizeLine ∧ 18 ≤ sizeLine ∧ 19 ≤ sizeLine ∧ 20 ≤ sizeLine ∧ 21 ≤ sizeLine ∧ 22 ≤ sizeLine ∧ 23 ≤ sizeLine ∧ 24 ≤ sizeLine ∧ 25 ≤ sizeLine ∧ 26 ≤ sizeLine ∧ 27 ≤ sizeLine ∧ 28 ≤ sizeLine ∧ 29 ≤ sizeLine ∧ 30 ≤ sizeLine ∧ 31 ≤ sizeLine ∧ 32 ≤ sizeLine ∧ 33 ≤ sizeLine ∧ 34 ≤ sizeLine ∧ 35 ≤ sizeLine ∧ 36 ≤ sizeLine ∧ 37 ≤ sizeLine ∧ 38 ≤ sizeLine ∧ 39 ≤ sizeLine ∧ 40 ≤ sizeLine ∧ 41 ≤ sizeLine ∧ 42 ≤ sizeLine ∧ 43 ≤ sizeLine ∧ 44 ≤ sizeLine ∧ 45 ≤ sizeLine ∧ 46 ≤ sizeLine ∧ 47 ≤ sizeLine ∧ 48 ≤ sizeLine ∧ 49 ≤ sizeLine ∧ 50 ≤ sizeLine ∧ 51 ≤ sizeLine ∧ 52 ≤ sizeLine ∧ 53 ≤ sizeLine ∧ 54 ≤ sizeLine ∧ 55 ≤ sizeLine ∧ 56 ≤ sizeLine ∧ 57 ≤ sizeLine ∧ 58 ≤ sizeLine ∧ 59 ≤ sizeLine ∧ 60 ≤ sizeLine ∧ 61 ≤ sizeLine ∧ 62 ≤ sizeLine ∧ 63 ≤ sizeLine ∧ 64 ≤ sizeLine := by
  rw [sizeLine_eq]
  decide
/-- the rule for a def, at the store of draws -/
theorem okDr {P : Program} {w : World} {K : PySem.W.Frag} {mg : Str → Option Value} {base : Heap} {x qual : Str} {st : Stmt} {f : Addr} {fd : FuncData} {N ps : List Str} {k : Nat} {FF : FW DrT} (F : Fun K x qual st f fd) (Sc : FnScope N ps (defScope st)) (len : ∀ rs τ Q, FF rs τ Q → rs.length = ps.length) (hl : ps.length ≤ N.length)
    (hbody : ∀ (cdv : Value) (A : Around) (outer : List Env) (s : Shared) (H : Hp) (E : XK) (G : Hp) (Fp : Addr → Prop), Room k (A.deeper (PyProof.Rows.envOfC qual (defScope st) s.heap.objs.size f cdv)) →
      ∃ t : WS DrT, PSs (cxOf CX0 P w K mg base N qual (defScope st) f cdv A outer s H E).nox (defBody st) (liftS ⟨theS, K, G, Fp, H⟩ t) ∧ ∀ (rs : List SV) (τ : DrT) (Qd : SV → DrT → Prop), FF rs τ Qd → t ⟨fun _ τ' => Qd (.d .none) τ', Qd, fun _ _ => False, fun _ _ => False⟩ (rs ++ List.replicate (N.length - rs.length) .no) τ) :
    FnOk P w K mg base CX0 (k + 1) f fd ps (spD theS K FF) := okD (S := theS) F Sc len hl hbody
/-! ### == on what is known -/
theorem eqOks_none_none   : eqOk .none .none = true := rfl
theorem eqOks_none_int  (b : Int) : eqOk .none (.int b) = true := rfl
theorem eqOks_int_none (a : Int)  : eqOk (.int a) .none = true := rfl
theorem eqOks_none_bool  (b : Bool) : eqOk .none (.bool b) = true := rfl
theorem eqOks_bool_none (a : Bool)  : eqOk (.bool a) .none = true := rfl
theorem eqOks_none_str  (b : Str) : eqOk .none (.str b) = true := rfl
theorem eqOks_str_none (a : Str)  : eqOk (.str a) .none = true := rfl
theorem eqOks_int_int (a : Int) (b : Int) : eqOk (.int a) (.int b) = true := rfl
theorem eqOks_bool_bool (a : Bool) (b : Bool) : eqOk (.bool a) (.bool b) = true := rfl
theorem eqOks_str_str (a : Str) (b : Str) : eqOk (.str a) (.str b) = true := rfl
theorem eqOks_int_str (a : Int) (b : Str) : eqOk (.int a) (.str b) = true := rfl
theorem eqOks_str_int (a : Str) (b : Int) : eqOk (.str a) (.int b) = true := rfl
theorem eqOks_bool_str (a : Bool) (b : Str) : eqOk (.bool a) (.str b) = true := rfl
theorem eqOks_str_bool (a : Str) (b : Bool) : eqOk (.str a) (.bool b) = true := rfl
theorem eqv_int (i j : Int) : PyData.eqv (.int i) (.int j) = decide (i = j) := by
  rw [PyData.eqv]
  rfl
theorem eqv_bool (i j : Bool) : PyData.eqv (.bool i) (.bool j) = (i == j) := by rw [PyData.eqv]
theorem eqv_none_none   : PyData.eqv .none .none = true := by simp [PyData.eqv]
theorem eqv_none_bool  (b : Bool) : PyData.eqv .none (.bool b) = false := by simp [PyData.eqv]
theorem eqv_none_int  (b : Int) : PyData.eqv .none (.int b) = false := by simp [PyData.eqv]
theorem eqv_none_str  (b : Str) : PyData.eqv .none (.str b) = false := by simp [PyData.eqv]
theorem eqv_none_list  (b : List D) : PyData.eqv .none (.list b) = false := by simp [PyData.eqv]
theorem eqv_none_tuple  (b : List D) : PyData.eqv .none (.tuple b) = false := by simp [PyData.eqv]
theorem eqv_bool_none (a : Bool)  : PyData.eqv (.bool a) .none = false := by simp [PyData.eqv]
theorem eqv_bool_str (a : Bool) (b : Str) : PyData.eqv (.bool a) (.str b) = false := by simp [PyData.eqv]
theorem eqv_bool_list (a : Bool) (b : List D) : PyData.eqv (.bool a) (.list b) = false := by simp [PyData.eqv]
theorem eqv_bool_tuple (a : Bool) (b : List D) : PyData.eqv (.bool a) (.tuple b) = false := by simp [PyData.eqv]
theorem eqv_int_none (a : Int)  : PyData.eqv (.int a) .none = false := by simp [PyData.eqv]
theorem eqv_int_str (a : Int) (b : Str) : PyData.eqv (.int a) (.str b) = false := by simp [PyData.eqv]
theorem eqv_int_list (a : Int) (b : List D) : PyData.eqv (.int a) (.list b) = false := by simp [PyData.eqv]
theorem eqv_int_tuple (a : Int) (b : List D) : PyData.eqv (.int a) (.tuple b) = false := by simp [PyData.eqv]
theorem eqv_str_none (a : Str)  : PyData.eqv (.str a) .none = false := by simp [PyData.eqv]
theorem eqv_str_bool (a : Str) (b : Bool) : PyData.eqv (.str a) (.bool b) = false := by simp [PyData.eqv]
theorem eqv_str_int (a : Str) (b : Int) : PyData.eqv (.str a) (.int b) = false := by simp [PyData.eqv]
theorem eqv_str_list (a : Str) (b : List D) : PyData.eqv (.str a) (.list b) = false := by simp [PyData.eqv]
theorem eqv_str_tuple (a : Str) (b : List D) : PyData.eqv (.str a) (.tuple b) = false := by simp [PyData.eqv]
theorem eqv_list_none (a : List D)  : PyData.eqv (.list a) .none = false := by simp [PyData.eqv]
theorem eqv_list_bool (a : List D) (b : Bool) : PyData.eqv (.list a) (.bool b) = false := by simp [PyData.eqv]
theorem eqv_list_int (a : List D) (b : Int) : PyData.eqv (.list a) (.int b) = false := by simp [PyData.eqv]
theorem eqv_list_str (a : List D) (b : Str) : PyData.eqv (.list a) (.str b) = false := by simp [PyData.eqv]
theorem eqv_list_tuple (a : List D) (b : List D) : PyData.eqv (.list a) (.tuple b) = false := by simp [PyData.eqv]
theorem eqv_tuple_none (a : List D)  : PyData.eqv (.tuple a) .none = false := by simp [PyData.eqv]
theorem eqv_tuple_bool (a : List D) (b : Bool) : PyData.eqv (.tuple a) (.bool b) = false := by simp [PyData.eqv]
theorem eqv_tuple_int (a : List D) (b : Int) : PyData.eqv (.tuple a) (.int b) = false := by simp [PyData.eqv]
theorem eqv_tuple_str (a : List D) (b : Str) : PyData.eqv (.tuple a) (.str b) = false := by simp [PyData.eqv]
theorem eqv_tuple_list (a : List D) (b : List D) : PyData.eqv (.tuple a) (.list b) = false := by simp [PyData.eqv]
theorem isTs : isT "NoneType" "NoneType" = true ∧ isT "NoneType" "bool" = false ∧ isT "NoneType" "int" = false ∧ isT "NoneType" "str" = false ∧ isT "NoneType" "list" = false ∧ isT "NoneType" "tuple" = false ∧ isT "NoneType" "dict" = false ∧ isT "bool" "NoneType" = false ∧ isT "bool" "bool" = true ∧ isT "bool" "int" = true ∧ isT "bool" "str" = false ∧ isT "bool" "list" = false ∧ isT "bool" "tuple" = false ∧ isT "bool" "dict" = false ∧ isT "int" "NoneType" = false ∧ isT "int" "bool" = false ∧ isT "int" "int" = true ∧ isT "int" "str" = false ∧ isT "int" "list" = false ∧ isT "int" "tuple" = false ∧ isT "int" "dict" = false ∧ isT "str" "NoneType" = false ∧ isT "str" "bool" = false ∧ isT "str" "int" = false ∧ isT "str" "str" = true ∧ isT "str" "list" = false ∧ isT "str" "tuple" = false ∧ isT "str" "dict" = false ∧ isT "list" "NoneType" = false ∧ isT "list" "bool" = false ∧ isT "list" "int" = false ∧ isT "list" "str" = false ∧ isT "list" "list" = true ∧ isT "list" "tuple" = false ∧ isT "list" "dict" = false ∧ isT "tuple" "NoneType" = false ∧ isT "tuple" "bool" = false ∧ isT "tuple" "int" = false ∧ isT "tuple" "str" = false ∧ isT "tuple" "list" = false ∧ isT "tuple" "tuple" = true ∧ isT "tuple" "dict" = false ∧ isT "dict" "NoneType" = false ∧ isT "dict" "bool" = false ∧ isT "dict" "int" = false ∧ isT "dict" "str" = false ∧ isT "dict" "list" = false ∧ isT "dict" "tuple" = false ∧ isT "dict" "dict" = true := by decide
theorem tyCs : tyNames.contains "NoneType" = true ∧ tyNames.contains "bool" = true ∧ tyNames.contains "int" = true ∧ tyNames.contains "str" = true ∧ tyNames.contains "list" = true ∧ tyNames.contains "tuple" = true ∧ tyNames.contains "dict" = true := by decide
theorem tyNs_none  : tyN .none = "NoneType" := rfl
theorem tyNs_bool (a : Bool) : tyN (.bool a) = "bool" := rfl
theorem tyNs_int (a : Int) : tyN (.int a) = "int" := rfl
theorem tyNs_str (a : Str) : tyN (.str a) = "str" := rfl
theorem tyNs_list (a : List D) : tyN (.list a) = "list" := rfl
theorem tyNs_tuple (a : List D) : tyN (.tuple a) = "tuple" := rfl
theorem tyNs_dict (a : List (D × D)) : tyN (.dict a) = "dict" := rfl
end Z

namespace Z
open PySem L2
/-! ### the law's promise, and the end -/
def FF_law : FW DrT := fun rs τ Q => ∃ ns : List Int, rs = [.d (.list (ns.map PyData.int))] ∧ ns.length ≤ 63 ∧ τ = .off ∧ ∀ τ', Q (.d (.bool true)) τ'
theorem rp_ints {K : PySem.W.Frag} {G : Hp} : ∀ ns : List Int, RpAll K G (ns.map V.int) (ns.map PyData.int)
  | [] => .nil
  | i :: r => .cons (.int i) (rp_ints r)
theorem law_start {K : PySem.W.Frag} {H : Hp} {a : Addr} {ns : List Int} (hl : ns.length ≤ 63) (h : SqP K H a (ns.map V.int)) : spD theS K FF_law [.ref a] H (fun v _ => v = .bl true) fun _ _ _ => False := by
  refine ⟨H, fun _ => False, .off, [.d (.list (ns.map PyData.int))], fun r _ => r = .d (.bool true), H, ⟨Same.refl H, fun _ h => h.elim, fun _ h => h.elim, fun _ h => h⟩, .cons (.lst h (rp_ints ns)) .nil, rfl, ⟨ns, rfl, hl, rfl, fun _ => rfl⟩, ?_⟩
  rintro r τ' G' F' H' v _ _ res rfl
  exact rbl res
theorem walk_ofZ {l : PySem.W.OpenLaw} {k : Nat} {q : Program} {loose : List Str} {XP : (Str → Option Value) → Heap → Prop} {YP : World → Heap → Prop} {d : DefRec} {K : Params → PySem.W.Frag} {x : Str}
    (hn : l.most = some 63) (hdf : d.params.defaults = []) (hr : Room k callerA)
    (hY : ∀ (w : World) (h : Heap), YP w h → (K w.params).In h)
    (F : ∀ (w : World) (mg : Str → Option Value) (fa : Addr) (h : Heap), (K w.params).In h → h.Ns mainGlobals mg → mg d.name = some (.ref fa) →
      ∃ fd : FuncData, (∀ (s : Shared) (u : Value), BindsTo s fd ⟨[u], []⟩ [(x, u)]) ∧
        ∀ base : Heap, (K w.params).In base → base.Ns mainGlobals mg → FnOk l.prog w (K w.params) mg base CX0 k fa fd [x] (spD theS (K w.params) FF_law))
    : PySem.W.WalkO q loose XP YP l.row.toRowW d [] (fun f vs => PySem.call f vs) := by
  refine Att.attach_call hn hdf fun w s₀ s₁ mg mb fa o pm cd doc a vs ns G Y ho hd hcd hmg hobj hints hlen hg => ?_
  have KX := hY w _ Y
  obtain ⟨fd, hb, hF⟩ := F w mg fa _ KX G.T.g hmg
  have h63 : 63 ≤ sizeLine := by rw [sizeLine_eq]; decide
  refine law_call KX G.T.g G.T.b G.T.builtins G.T.nolimit hg hobj hints (Nat.le_trans hlen h63) hr hF hb (fun H hO hS => law_start hlen ?_) fun H e s' h => h
  rcases hS with h | ⟨o, its, n, hk, _⟩
  · exact .inl h
  · have e := KX a o hk
    rw [hobj] at e
    cases e
    exact .inr ⟨vs, hk, by rw [List.length_map]; exact Nat.le_trans hlen h63, vals_ints hints⟩
end Z

namespace Z
open PySem L2

/-! ### what is given back may be a list of one's own -/
def liftR (B : Bk) (t : W B.T) : TE := fun σ H Q => ∃ G F env τ Qd, StR B G F σ H env τ ∧ t env τ Qd ∧
  ∀ r τ' G' F' H' v, Fin B B.G B.F B.H τ' G' F' H' → Res B.K B.H G' F' H' r v → Qd r τ' → Q v H'
def dOwn {T : Type} (i : Nat) : W T := fun env τ Q => match env[i]? with
  | some (.d x) => Q (.d x) τ
  | some (.ol xs) => Q (.ol xs) τ
  | some (.raw v) => Q (.raw v) τ
  | _ => False
section
variable {X : Cx} {B : Bk} {a b c e : Expr} {pos : Pos} {ta tb te : W B.T} {tA : WT B.T} {i : Nat}
theorem dr_e (h : PE X e (lift B te)) : PE X e (liftR B te) := pe_imp h fun σ H Q ⟨G, F, env, τ, Qd, s, t, k⟩ =>
  ⟨G, F, env, τ, Qd, s, t, fun r τ' G' F' H' v f res q => k r τ' G' F' H' v (s.out.trans f) (res.back (dead s.s.dom)) q⟩
theorem dr_own (h : PE X e (tVar i)) : PE X e (liftR B (dOwn i)) := by
  refine pe_imp h fun σ H Q ⟨G, F, env, τ, Qd, s, t, k⟩ => ?_
  unfold dOwn at t
  cases q : env[i]? with
  | none => rw [q] at t; exact t.elim
  | some sv =>
    rw [q] at t
    have r := s.e.at' i sv q
    have up : ∀ {v : V}, σ[i]?.join = some v → σ[i]? = some (some v) := fun {v} e1 => by
      cases z : σ[i]? with
      | none => rw [z] at e1; cases e1
      | some o => rw [z] at e1; exact congrArg some e1
    cases sv with
    | no => exact t.elim
    | vw _ => exact t.elim
    | d x =>
      obtain ⟨v, e1, r⟩ := r
      exact ⟨v, up e1, k (.d x) _ _ _ _ _ s.out r t⟩
    | ol xs =>
      obtain ⟨p, e1, w⟩ := r
      exact ⟨_, up e1, k (.ol xs) _ _ _ _ _ s.out ⟨p, rfl, w⟩ t⟩
    | raw v => exact ⟨v, up r, k (.raw v) _ _ _ _ _ s.out rfl t⟩
theorem dr_if (hc : PT X c (liftT B tA)) (ha : PE X a (liftR B ta)) (hb : PE X b (liftR B tb)) : PE X (.IfExp c a b pos) (liftR B (dIf tA ta tb)) :=
  pe_imp (pe_ifExp hc ha hb) fun σ H Q ⟨G, F, env, τ, Qd, s, t, k⟩ => ⟨G, F, env, τ, _, s, t, fun c τ1 G1 F1 H1 f1 q => by
    cases c with
    | true => exact iteT ⟨G1, F1, env, τ1, _, s.fin f1, q, k⟩
    | false => exact iteF ⟨G1, F1, env, τ1, _, s.fin f1, q, k⟩⟩
theorem ds_retR (he : PE X e (liftR B te)) : PS X (.Return (some e) pos) (liftS B (dRet te)) :=
  ps_imp (ps_ret he) fun D σ H ⟨G, F, env, τ, Dd, s, h, E⟩ => ⟨G, F, env, τ, _, s, h, fun r τ1 G1 F1 H1 v f1 r1 ⟨_, q⟩ => E.rt r τ1 G1 F1 H1 v f1 r1 q⟩
end

/-! ### more of own lists -/
theorem RpAll.setA {K : PySem.W.Frag} {G : Hp} : ∀ {vs : List V} {xs : List D} (_ : RpAll K G vs xs) (j : Nat) {v : V} {x : D}, Rp K G v x → RpAll K G (vs.set j v) (xs.set j x)
  | _, _, .nil, _, _, _, _ => .nil
  | _, _, .cons _ t, 0, _, _, r => .cons r t
  | _, _, .cons h t, j + 1, _, _, r => .cons h (t.setA j r)
section
variable {X : Cx} {B : Bk} {pos : Pos} {te ti : W B.T} {i : Nat}
/-- x.extend(e), e a new list -/
def dExt {T : Type} (i : Nat) (te : W T) : WS T := fun D env τ => match env[i]? with
  | some (.ol xs) => te env τ fun r τ1 => ∃ zs, r = .ol zs ∧ xs.length + zs.length ≤ sizeLine ∧ D.nx (env.set i (.ol (xs ++ zs))) τ1
  | _ => False
theorem RpAll.app {K : PySem.W.Frag} {G : Hp} : ∀ {vs : List V} {xs : List D} {ws : List V} {ys : List D}, RpAll K G vs xs → RpAll K G ws ys → RpAll K G (vs ++ ws) (xs ++ ys)
  | _, _, _, _, .nil, r => r
  | _, _, _, _, .cons h t, r => .cons h (t.app r)
theorem ds_ext {st : Stmt} (h : PS X st (tDrop (tBM X.K "list" rExtend (tVar i) (tCons (lift B te) tNil)))) : PS X st (liftS B (dExt i te)) :=
  ps_imp h fun D σ H ⟨G, F, env, τ, Dd, s, z, E⟩ => by
    unfold dExt at z
    split at z
    · rename_i xs ee
      obtain ⟨p, e1, w⟩ := at_slot s ee
      obtain ⟨vs, e2, a2⟩ := w.at'
      refine ⟨_, e1, .inl ⟨rfl, _, .of e2⟩, G, F, env, τ, _, s, z, fun r τ1 G1 F1 H1 v f1 r1 ⟨zs, ez, hz, q⟩ => ?_⟩
      subst ez
      obtain ⟨b, ev, wb⟩ := r1
      subst ev
      obtain ⟨ws, eb, ab⟩ := wb.at'
      have s2 := s.fin f1
      obtain ⟨vs2, e3, a3⟩ := (w.step f1.s).at'
      have s3 := s2.mut ee (by rw [e1]; rfl) (a3.app ab)
      exact ⟨p, b, vs2, ws, rfl, rfl, e3, eb, by rw [a3.length, ab.length]; exact hz, E.nx G1 F1 σ _ _ τ1 f1.s.g s3 q⟩
    · exact z.elim
/-- x[k] = e -/
def dSetI {T : Type} (i : Nat) (te ti : W T) : WS T := fun D env τ => match env[i]? with
  | some (.ol xs) => te env τ fun r τ1 => opt r.dat? fun y => ti env τ1 fun z τ2 => ∃ k, z = .d (.int k) ∧ opt (ixN xs.length k) fun j => D.nx (env.set i (.ol (xs.set j y))) τ2
  | _ => False
theorem ds_seti {st : Stmt} (h : PS X st (tAsg (lift B te) (gSub (tVar i) (lift B ti) rSetL))) : PS X st (liftS B (dSetI i te ti)) :=
  ps_imp h fun D σ H ⟨G, F, env, τ, Dd, s, z, E⟩ => by
    unfold dSetI at z
    split at z
    · rename_i xs ee
      obtain ⟨p, e1, w⟩ := at_slot s ee
      refine ⟨G, F, env, τ, _, s, z, fun r τ1 G1 F1 H1 v f1 r1 q => ?_⟩
      obtain ⟨y, ey, q⟩ := opt_of q
      obtain ⟨G2, f2, sm, r2⟩ := r1.dat f1 ey
      have s2 := s.fin f2
      refine ⟨_, e1, G2, F1, env, τ1, _, s2, q, fun z τ3 G3 F3 H3 iv f3 r3 ⟨k, ez, q3⟩ => ?_⟩
      subst ez
      obtain ⟨j, ej, q3⟩ := opt_of q3
      have f23 := f2.trans f3
      have s3 := s.fin f23
      obtain ⟨vs3, e3, a3⟩ := (w.step f23.s).at'
      have r4 : Rp B.K G3 v y := Rp.mono f3.s.g r2
      have s4 := s3.mut ee (by rw [e1]; rfl) (a3.setA j r4)
      exact ⟨p, vs3, k, j, rfl, rint r3, e3, by rw [a3.length]; exact ej, E.nx G3 F3 σ _ _ τ3 f23.s.g s4 q3⟩
    · exact z.elim
end

/-! ### many times a list, a tuple -/
theorem RpAll.flat {K : PySem.W.Frag} {G : Hp} {vs : List V} {xs : List D} (a : RpAll K G vs xs) : ∀ n : Nat, RpAll K G (List.replicate n vs).flatten (List.replicate n xs).flatten
  | 0 => .nil
  | n + 1 => by
    rw [List.replicate_succ, List.replicate_succ, List.flatten_cons, List.flatten_cons]
    exact a.app (a.flat n)
def gMulL (x y : SV) (Q : SV → Prop) : Prop := ∃ xs k, (x = .ol xs ∨ x = .vw xs) ∧ y = .d (.int k) ∧ (-(2 ^ 63) ≤ k ∧ k < 2 ^ 63) ∧ xs.length * k.toNat ≤ sizeLine ∧ Q (.ol (List.replicate k.toNat xs).flatten)
def gMulT (x y : SV) (Q : SV → Prop) : Prop := ∃ xs k, x = .d (.tuple xs) ∧ y = .d (.int k) ∧ xs ≠ [] ∧ (2 ≤ k ∧ k ≤ 1000) ∧ xs.length ≤ 1000 ∧ Q (.d (.tuple (List.replicate k.toNat xs).flatten))
section
variable {X : Cx} {B : Bk}
theorem od_mulL : OpD B rRep gMulL := fun x y vx vy Ha Hb G F H τ Qv Q k rx ry h fin => by
  obtain ⟨xs, n, ex, ey, hn, hz, h⟩ := h
  subst ey
  have go : ∀ p vs, vx = .ref p → H p = some (.lst vs) → RpAll B.K G vs xs → rRep vx vy H Q := fun p vs e1 e2 a => by
    refine ⟨p, n, vs, e1, rint ry, e2, hn.1, hn.2, by rw [a.length]; exact hz, fun p' hp => fin.ol k hp (a.flat _) h⟩
  rcases ex with rfl | rfl
  · obtain ⟨p, e1, w⟩ := rx
    obtain ⟨vs, e2, a⟩ := w.at'
    exact go p vs e1 e2 a
  · obtain ⟨p, vs, e1, e2, a, _⟩ := rx
    exact go p vs e1 e2 a
theorem od_mulT (hK : X.K = B.K) : OpD B (rRepT X.K) gMulT := fun x y vx vy Ha Hb G F H τ Qv Q k rx ry h fin => by
  obtain ⟨xs, n, ex, ey, hne, hn, hz, h⟩ := h
  subst ex ey
  rw [hK]
  obtain ⟨p, vs, e1, hs, a⟩ := rtup rx
  have hl := a.length
  refine ⟨p, n, vs, e1, rint ry, same_seqT k.same hs, fun z => hne ?_, hn.1, hn.2, by omega, fun p' hp => fin.tup k hp (a.flat _) h⟩
  subst z
  exact List.length_eq_zero_iff.mp hl.symm
def gMulA (x y : SV) (Q : SV → Prop) : Prop := gMul x y Q ∨ gMulL x y Q ∨ gMulT x y Q
theorem op_mulB : OpR X (binaryOp .Mult) (fun x y H Q => ((rI CMul fun i j => .int (i * j)) x y H Q ∨ rMulS x y H Q) ∨ rRep x y H Q ∨ rRepT X.K x y H Q) := op_mulA.or (op_rep.or op_repT)
theorem od_mulB (hK : X.K = B.K) : OpD B (fun x y H Q => ((rI CMul fun i j => .int (i * j)) x y H Q ∨ rMulS x y H Q) ∨ rRep x y H Q ∨ rRepT X.K x y H Q) gMulA := od_mul.or (od_mulL.or (od_mulT hK))
end

/-! ### enumerate, zip -/
def enumD (xs : List D) : List D := xs.zipIdx.map fun p => .tuple [.int (p.2 : Nat), p.1]
def zipD (xs ys : List D) : List D := (xs.zip ys).map fun p => .tuple [p.1, p.2]
theorem enum_get {xs : List D} {i : Nat} {x : D} (h : (enumD xs)[i]? = some x) : ∃ y, xs[i]? = some y ∧ x = .tuple [.int (i : Nat), y] := by
  unfold enumD at h
  rw [List.getElem?_map, List.getElem?_zipIdx] at h
  cases e : xs[i]? with
  | none => rw [e] at h; cases h
  | some y =>
    rw [e] at h
    cases h
    exact ⟨y, rfl, by rw [Nat.zero_add]⟩
theorem enum_len (xs : List D) : (enumD xs).length = xs.length := by
  unfold enumD
  rw [List.length_map, List.length_zipIdx]
theorem zip_get {xs ys : List D} {i : Nat} {x : D} (h : (zipD xs ys)[i]? = some x) : ∃ a b, xs[i]? = some a ∧ ys[i]? = some b ∧ x = .tuple [a, b] := by
  unfold zipD at h
  rw [List.getElem?_map] at h
  cases e : (xs.zip ys)[i]? with
  | none => rw [e] at h; cases h
  | some p =>
    rw [e] at h
    cases h
    have e2 := List.getElem?_zip_eq_some.mp e
    exact ⟨_, _, e2.1, e2.2, rfl⟩
theorem zip_len (xs ys : List D) : (zipD xs ys).length = min xs.length ys.length := by
  unfold zipD
  rw [List.length_map, List.length_zip]
section
variable {X : Cx} {B : Bk} {tg : Expr} {pos : Pos}
/-- a new pair -/
theorem new_pair {G H : Hp} {F : Addr → Prop} {τ : B.T} {T : Addr} {a b : V} {x y : D} (k : Ok B.S B.K τ G F H) (n : H T = none) (ha : Rp B.K G a x) (hb : Rp B.K G b y) :
    ∃ G2, Fin B G F H τ G2 F (upd H T (.tup [a, b])) ∧ Rp B.K G2 (.ref T) (.tuple [x, y]) :=
  ⟨_, (new_tup k n (.cons ha (.cons hb .nil))).1, (new_tup k n (.cons ha (.cons hb .nil))).2⟩
theorem itr_e {G : Hp} {a : Addr} {vs : List V} {xs : List D} (h : SqP B.K G a vs) (r : RpAll B.K G vs xs) : ItR B (Ite B.K a) G (enumD xs) where
  go := fun G1 H1 F1 τ1 sm k i x e => by
    obtain ⟨y, ey, ex⟩ := enum_get e
    subst ex
    obtain ⟨v, ev, rv⟩ := r.getD ey
    have hq := (same_sqp (sm.trans k.same) h).sql
    refine ⟨⟨vs, v, hq, ev⟩, fun w H2 ⟨T, x', e2, hT, e3, hx⟩ => ?_⟩
    have := hx vs hq
    rw [ev] at this
    cases this
    subst e2 e3
    exact new_pair k hT (.int _) (rv.mono sm)
  stop := fun G1 H1 F1 τ1 sm k i hi => ⟨vs, (same_sqp (sm.trans k.same) h).sql, by rw [r.length]; rw [enum_len] at hi; exact hi⟩
theorem itr_z {G : Hp} {a b : Addr} {vs ws : List V} {xs ys : List D} (h : SqP B.K G a vs) (r : RpAll B.K G vs xs) (h' : SqP B.K G b ws) (r' : RpAll B.K G ws ys) : ItR B (Itz B.K a b) G (zipD xs ys) where
  go := fun G1 H1 F1 τ1 sm k i x e => by
    obtain ⟨y, z, ey, ez, ex⟩ := zip_get e
    subst ex
    obtain ⟨v, ev, rv⟩ := r.getD ey
    obtain ⟨u, eu, ru⟩ := r'.getD ez
    have hq := (same_sqp (sm.trans k.same) h).sql
    have hq' := (same_sqp (sm.trans k.same) h').sql
    refine ⟨⟨vs, ws, v, u, hq, hq', ev, eu⟩, fun w H2 ⟨T, x', y', e2, hT, e3, hx, hy⟩ => ?_⟩
    have := hx vs hq
    rw [ev] at this
    cases this
    have := hy ws hq'
    rw [eu] at this
    cases this
    subst e2 e3
    exact new_pair k hT (rv.mono sm) (ru.mono sm)
  stop := fun G1 H1 F1 τ1 sm k i hi => by
    rw [zip_len] at hi
    have h1 := r.length
    have h2 := r'.length
    exact ⟨vs, ws, (same_sqp (sm.trans k.same) h).sql, (same_sqp (sm.trans k.same) h').sql, by omega⟩
theorem itr_zt {G : Hp} {a b : Addr} {vs ws : List V} {xs ys : List D} (h : SqT B.K G a vs) (r : RpAll B.K G vs xs) (h' : SqT B.K G b ws) (r' : RpAll B.K G ws ys) : ItR B (RZ.ItzT B.K a b) G (zipD xs ys) where
  go := fun G1 H1 F1 τ1 sm k i x e => by
    obtain ⟨y, z, ey, ez, ex⟩ := zip_get e
    subst ex
    obtain ⟨v, ev, rv⟩ := r.getD ey
    obtain ⟨u, eu, ru⟩ := r'.getD ez
    have hq := same_seqT (sm.trans k.same) h
    have hq' := same_seqT (sm.trans k.same) h'
    refine ⟨⟨vs, ws, v, u, hq, hq', ev, eu⟩, fun w H2 ⟨T, x', y', e2, hT, e3, hx, hy⟩ => ?_⟩
    have := hx vs hq
    rw [ev] at this
    cases this
    have := hy ws hq'
    rw [eu] at this
    cases this
    subst e2 e3
    exact new_pair k hT (rv.mono sm) (ru.mono sm)
  stop := fun G1 H1 F1 τ1 sm k i hi => by
    rw [zip_len] at hi
    have h1 := r.length
    have h2 := r'.length
    exact ⟨vs, ws, same_seqT (sm.trans k.same) h, same_seqT (sm.trans k.same) h', by omega⟩
def dEnum {T : Type} (ta : WA T) : WI T := fun env τ Q => ta env τ fun rs τ1 => ∃ xs, rs = [.d (.list xs)] ∧ Q (enumD xs) τ1
def dZip {T : Type} (ta : WA T) : WI T := fun env τ Q => ta env τ fun rs τ1 => ∃ xs ys, (rs = [.d (.list xs), .d (.list ys)] ∨ rs = [.d (.tuple xs), .d (.tuple ys)]) ∧ Q (zipD xs ys) τ1
theorem di_enumerate (hK : X.K = B.K) {e : Expr} {ta : WA B.T} {p tpos : Pos} {elts : List Expr} {kk : Nat} (hg : Gl X "enumerate") (hm : X.mg "enumerate" = none) (ha : PA X [e] (liftA B ta)) (hs : starEach [e] X.env = [(false, eval e X.env)] := by rfl) :
    PI X (.Tuple elts kk tpos) (.Call (.Name "enumerate" p) [e] [] pos) (liftI B (dEnum ta)) :=
  pi_imp (pi_enum hg hm ha hs) fun σ H R ⟨G, F, env, τ, Qd, s, t, k⟩ => ⟨G, F, env, τ, _, s, t, fun rs τ1 G1 F1 H1 vs f1 r1 ⟨xs, e, q⟩ => by
    subst e
    obtain ⟨v, e1, r⟩ := r1.one
    subst e1
    rw [hK]
    match r with
    | .lst h a => exact ⟨_, _, rfl, (same_sqp f1.k.same h).sql, k _ _ _ _ _ _ f1 (itr_e h a) q⟩⟩
theorem di_zip (hK : X.K = B.K) {e e2 : Expr} {ta : WA B.T} {p tpos : Pos} {elts : List Expr} {kk : Nat} (hg : Gl X "zip") (hm : X.mg "zip" = none) (ha : PA X [e, e2] (liftA B ta))
    (hs : starEach [e, e2] X.env = (false, eval e X.env) :: starEach [e2] X.env := by rfl) (hpl : (backTo pos (starEach [e2] X.env)).any (·.1) = false := by rfl) :
    PI X (.Tuple elts kk tpos) (.Call (.Name "zip" p) [e, e2] [] pos) (liftI B (dZip ta)) :=
  pi_imp (RZ.pi_zipA hg hm ha hs hpl) fun σ H R ⟨G, F, env, τ, Qd, s, t, k⟩ => ⟨G, F, env, τ, _, s, t, fun rs τ1 G1 F1 H1 vs f1 r1 ⟨xs, ys, e, q⟩ => by
    rw [hK]
    rcases e with e | e
    · subst e
      obtain ⟨v, w, e1, r, r'⟩ := r1.two
      subst e1
      match r, r' with
      | .lst h a, .lst h' a' => exact ⟨_, _, _, _, rfl, .inl ⟨(same_sqp f1.k.same h).sql, (same_sqp f1.k.same h').sql, k _ _ _ _ _ _ f1 (itr_z h a h' a') q⟩⟩
    · subst e
      obtain ⟨v, w, e1, r, r'⟩ := r1.two
      subst e1
      obtain ⟨_, _, e2, h, a⟩ := rtup r
      obtain ⟨_, _, e3, h', a'⟩ := rtup r'
      subst e2 e3
      exact ⟨_, _, _, _, rfl, .inr ⟨same_seqT f1.k.same h, same_seqT f1.k.same h', k _ _ _ _ _ _ f1 (itr_zt h a h' a') q⟩⟩⟩
end

/-! ### the readings, by named continuations -/
section
variable {T : Type}
def kOw (Q : SV → T → Prop) (τ : T) : Option SV → Prop
  | some (.d x) => Q (.d x) τ
  | some (.ol xs) => Q (.ol xs) τ
  | some (.raw v) => Q (.raw v) τ
  | _ => False
theorem dOwn_k (i : Nat) (env : List SV) (τ : T) (Q : SV → T → Prop) : dOwn i env τ Q = kOw Q τ env[i]? := by
  unfold dOwn
  generalize env[i]? = o
  match o with
  | some (.ol xs) => rfl
  | some (.d _) => rfl
  | some (.vw _) => rfl
  | some (.raw _) => rfl
  | some .no => rfl
  | none => rfl
theorem kOw_1 {Q : SV → T → Prop} {τ : T} {x : D} : kOw Q τ (some (.d x)) = Q (.d x) τ := rfl
theorem kOw_2 {Q : SV → T → Prop} {τ : T} {x : List D} : kOw Q τ (some (.ol x)) = Q (.ol x) τ := rfl
theorem kOw_3 {Q : SV → T → Prop} {τ : T} {x : V} : kOw Q τ (some (.raw x)) = Q (.raw x) τ := rfl
def kEx (i : Nat) (D : DEnds T) (env : List SV) (xs : List Z.D) (r : SV) (τ : T) : Prop := match r with
  | .ol zs => xs.length + zs.length ≤ sizeLine ∧ D.nx (env.set i (.ol (xs ++ zs))) τ
  | _ => False
theorem kEx_1 {i : Nat} {D : DEnds T} {env : List SV} {xs zs : List Z.D} {τ : T} : kEx i D env xs (.ol zs) τ = (xs.length + zs.length ≤ sizeLine ∧ D.nx (env.set i (.ol (xs ++ zs))) τ) := rfl
def kExt (i : Nat) (te : W T) (D : DEnds T) (env : List SV) (τ : T) : Option SV → Prop
  | some (.ol xs) => te env τ (kEx i D env xs)
  | _ => False
theorem kExt_1 {i : Nat} {te : W T} {D : DEnds T} {env : List SV} {τ : T} {xs : List Z.D} : kExt i te D env τ (some (.ol xs)) = te env τ (kEx i D env xs) := rfl
theorem dExt_k (i : Nat) (te : W T) (D : DEnds T) (env : List SV) (τ : T) : dExt i te D env τ = kExt i te D env τ env[i]? := by
  unfold dExt
  generalize env[i]? = o
  match o with
  | some (.ol xs) =>
    show te env τ _ = te env τ _
    congr 1
    funext r τ1
    cases r <;> simp [kEx]
  | some (.d _) => rfl
  | some (.vw _) => rfl
  | some (.raw _) => rfl
  | some .no => rfl
  | none => rfl
def kSI4 (i : Nat) (D : DEnds T) (env : List SV) (xs : List Z.D) (y : Z.D) (τ : T) : Option Nat → Prop
  | some j => D.nx (env.set i (.ol (xs.set j y))) τ
  | none => False
theorem kSI4_1 {i : Nat} {D : DEnds T} {env : List SV} {xs : List Z.D} {y : Z.D} {τ : T} {j : Nat} : kSI4 i D env xs y τ (some j) = D.nx (env.set i (.ol (xs.set j y))) τ := rfl
def kSI3 (i : Nat) (D : DEnds T) (env : List SV) (xs : List Z.D) (y : Z.D) (z : SV) (τ : T) : Prop := match z with
  | .d (.int k) => kSI4 i D env xs y τ (ixN xs.length k)
  | _ => False
theorem kSI3_1 {i : Nat} {D : DEnds T} {env : List SV} {xs : List Z.D} {y : Z.D} {k : Int} {τ : T} : kSI3 i D env xs y (.d (.int k)) τ = kSI4 i D env xs y τ (ixN xs.length k) := rfl
def kSI2 (i : Nat) (ti : W T) (D : DEnds T) (env : List SV) (xs : List Z.D) (τ : T) : Option Z.D → Prop
  | some y => ti env τ (kSI3 i D env xs y)
  | none => False
theorem kSI2_1 {i : Nat} {ti : W T} {D : DEnds T} {env : List SV} {xs : List Z.D} {τ : T} {y : Z.D} : kSI2 i ti D env xs τ (some y) = ti env τ (kSI3 i D env xs y) := rfl
def kSI1 (i : Nat) (ti : W T) (D : DEnds T) (env : List SV) (xs : List Z.D) (r : SV) (τ : T) : Prop := kSI2 i ti D env xs τ r.dat?
def kSetI (i : Nat) (te ti : W T) (D : DEnds T) (env : List SV) (τ : T) : Option SV → Prop
  | some (.ol xs) => te env τ (kSI1 i ti D env xs)
  | _ => False
theorem kSetI_1 {i : Nat} {te ti : W T} {D : DEnds T} {env : List SV} {τ : T} {xs : List Z.D} : kSetI i te ti D env τ (some (.ol xs)) = te env τ (kSI1 i ti D env xs) := rfl
theorem dSetI_k (i : Nat) (te ti : W T) (D : DEnds T) (env : List SV) (τ : T) : dSetI i te ti D env τ = kSetI i te ti D env τ env[i]? := by
  unfold dSetI
  generalize env[i]? = o
  match o with
  | some (.ol xs) =>
    show te env τ _ = te env τ (kSI1 i ti D env xs)
    congr 1
    funext r τ1
    refine opt_e (k := kSI2 i ti D env xs τ1) (fun y => ?_) rfl
    show ti env τ1 _ = ti env τ1 (kSI3 i D env xs y)
    congr 1
    funext z τ2
    match z with
    | .d (.int k) =>
      refine propext ⟨?_, fun h => ⟨k, rfl, ?_⟩⟩
      · rintro ⟨k', e, h⟩
        cases e
        obtain ⟨j, ej, h⟩ := opt_of h
        show kSI4 i D env xs y τ2 (ixN xs.length k)
        rw [ej]
        exact h
      · have h : kSI4 i D env xs y τ2 (ixN xs.length k) := h
        cases e : ixN xs.length k with
        | none => rw [e] at h; exact h.elim
        | some j => rw [e] at h; exact h
    | .d .none => exact propext ⟨fun ⟨_, e, _⟩ => (nomatch e), fun h => h.elim⟩
    | .d (.bool _) => exact propext ⟨fun ⟨_, e, _⟩ => (nomatch e), fun h => h.elim⟩
    | .d (.str _) => exact propext ⟨fun ⟨_, e, _⟩ => (nomatch e), fun h => h.elim⟩
    | .d (.list _) => exact propext ⟨fun ⟨_, e, _⟩ => (nomatch e), fun h => h.elim⟩
    | .d (.tuple _) => exact propext ⟨fun ⟨_, e, _⟩ => (nomatch e), fun h => h.elim⟩
    | .d (.dict _) => exact propext ⟨fun ⟨_, e, _⟩ => (nomatch e), fun h => h.elim⟩
    | .vw _ => exact propext ⟨fun ⟨_, e, _⟩ => (nomatch e), fun h => h.elim⟩
    | .ol _ => exact propext ⟨fun ⟨_, e, _⟩ => (nomatch e), fun h => h.elim⟩
    | .raw _ => exact propext ⟨fun ⟨_, e, _⟩ => (nomatch e), fun h => h.elim⟩
    | .no => exact propext ⟨fun ⟨_, e, _⟩ => (nomatch e), fun h => h.elim⟩
  | some (.d _) => rfl
  | some (.vw _) => rfl
  | some (.raw _) => rfl
  | some .no => rfl
  | none => rfl
def kEn (Q : List D → T → Prop) (rs : List SV) (τ : T) : Prop := ∃ xs, rs = [.d (.list xs)] ∧ Q (enumD xs) τ
theorem kEn_k {Q : List D → T → Prop} {xs : List D} {τ : T} : kEn Q [.d (.list xs)] τ = Q (enumD xs) τ := by simp [kEn]
theorem dEnum_k (ta : WA T) (env : List SV) (τ : T) (Q : List D → T → Prop) : dEnum ta env τ Q = ta env τ (kEn Q) := rfl
def kZp (Q : List D → T → Prop) (rs : List SV) (τ : T) : Prop := ∃ xs ys, (rs = [.d (.list xs), .d (.list ys)] ∨ rs = [.d (.tuple xs), .d (.tuple ys)]) ∧ Q (zipD xs ys) τ
theorem kZp_l {Q : List D → T → Prop} {xs ys : List D} {τ : T} : kZp Q [.d (.list xs), .d (.list ys)] τ = Q (zipD xs ys) τ := propext ⟨fun ⟨a, b, e, h⟩ => by
  rcases e with e | e <;> cases e
  exact h, fun h => ⟨_, _, .inl rfl, h⟩⟩
theorem kZp_u {Q : List D → T → Prop} {xs ys : List D} {τ : T} : kZp Q [.d (.tuple xs), .d (.tuple ys)] τ = Q (zipD xs ys) τ := propext ⟨fun ⟨a, b, e, h⟩ => by
  rcases e with e | e <;> cases e
  exact h, fun h => ⟨_, _, .inr rfl, h⟩⟩
theorem dZip_k (ta : WA T) (env : List SV) (τ : T) (Q : List D → T → Prop) : dZip ta env τ Q = ta env τ (kZp Q) := rfl
end
theorem gMulA_i {i j : Int} {Q : SV → Prop} : gMulA (.d (.int i)) (.d (.int j)) Q = (CMul i j ∧ Q (.d (.int (i * j)))) := by
  unfold gMulA gMulL gMulT
  rw [gMul_i]
  simp
theorem gMulA_s {i : Str} {j : Int} {Q : SV → Prop} : gMulA (.d (.str i)) (.d (.int j)) Q = ((2 ≤ j ∧ j ≤ 100000 ∧ 0 < i.length ∧ i.length ≤ 100) ∧ (strRep i j.toNat).length ≤ sizeLine ∧ Q (.d (.str (strRep i j.toNat)))) := by
  unfold gMulA gMulL gMulT
  rw [gMul_s]
  simp
theorem gMulA_ol {i : List D} {j : Int} {Q : SV → Prop} (h : (-(2 ^ 63) ≤ j ∧ j < 2 ^ 63) ∧ i.length * j.toNat ≤ sizeLine ∧ Q (.ol (List.replicate j.toNat i).flatten)) : gMulA (.ol i) (.d (.int j)) Q := .inr (.inl ⟨i, j, .inl rfl, rfl, h.1, h.2.1, h.2.2⟩)
theorem gMulA_vw {i : List D} {j : Int} {Q : SV → Prop} (h : (-(2 ^ 63) ≤ j ∧ j < 2 ^ 63) ∧ i.length * j.toNat ≤ sizeLine ∧ Q (.ol (List.replicate j.toNat i).flatten)) : gMulA (.vw i) (.d (.int j)) Q := .inr (.inl ⟨i, j, .inr rfl, rfl, h.1, h.2.1, h.2.2⟩)
end Z

namespace Z
open PySem L2
/-! ### more of what is known -/
theorem gIn_sf {c : Nat} {z : Str} {Q : SV → Prop} : gIn false (.d (.str ⟨#[c]⟩)) (.d (.str z)) Q = Q (.d (.bool (decide (c ∈ z.cps.toList)))) := by
  refine propext ⟨?_, fun h => .inl ⟨c, z, rfl, rfl, h⟩⟩
  rintro (⟨c', z', e1, e2, h⟩ | ⟨a, xs, _, e2, _⟩)
  · cases e1
    cases e2
    exact h
  · cases e2
theorem gIn_st {c : Nat} {z : Str} {Q : SV → Prop} : gIn true (.d (.str ⟨#[c]⟩)) (.d (.str z)) Q = Q (.d (.bool (!decide (c ∈ z.cps.toList)))) := by
  refine propext ⟨?_, fun h => .inl ⟨c, z, rfl, rfl, h⟩⟩
  rintro (⟨c', z', e1, e2, h⟩ | ⟨a, xs, _, e2, _⟩)
  · cases e1
    cases e2
    exact h
  · cases e2
theorem gIn_tf {a : D} {xs : List D} {Q : SV → Prop} : gIn false (.d a) (.d (.tuple xs)) Q = (flatD a = true ∧ xs.all flatD = true ∧ Q (.d (.bool (xs.any fun y => PyData.eqv y a)))) := by
  refine propext ⟨?_, fun h => .inr ⟨a, xs, rfl, rfl, h.1, h.2.1, h.2.2⟩⟩
  rintro (⟨c', z', e1, e2, h⟩ | ⟨a', xs', e1, e2, h⟩)
  · cases e2
  · cases e1
    cases e2
    exact h
theorem gIn_tt {a : D} {xs : List D} {Q : SV → Prop} : gIn true (.d a) (.d (.tuple xs)) Q = (flatD a = true ∧ xs.all flatD = true ∧ Q (.d (.bool (!(xs.any fun y => PyData.eqv y a))))) := by
  refine propext ⟨?_, fun h => .inr ⟨a, xs, rfl, rfl, h.1, h.2.1, h.2.2⟩⟩
  rintro (⟨c', z', e1, e2, h⟩ | ⟨a', xs', e1, e2, h⟩)
  · cases e2
  · cases e1
    cases e2
    exact h
theorem flatD_none : flatD .none = true := rfl
theorem flatD_int (a : Int) : flatD (.int a) = true := rfl
theorem flatD_str (a : Str) : flatD (.str a) = true := rfl
theorem flatD_bool (a : Bool) : flatD (.bool a) = true := rfl
/-! ### lists of texts -/
def dS (l : List Nat) : D := .str (mkS l)
theorem dS_cs (s : Str) : PyData.str s = dS (cs s) := by
  unfold dS
  rw [mk_cs]
theorem empty_mk : Str.ofString "" = mkS [] := str_ext (by decide +kernel)
theorem eqv_dS (a b : List Nat) : PyData.eqv (dS a) (dS b) = decide (a = b) := by
  show PyData.eqv (.str (mkS a)) (.str (mkS b)) = _
  rw [eqv_str]
  rfl
theorem eqvAll_dS : ∀ a b : List (List Nat), PyData.eqvAll (a.map dS) (b.map dS) = decide (a = b)
  | [], [] => by simp [PyData.eqvAll]
  | [], b :: bs => by simp [PyData.eqvAll]
  | a :: as, [] => by simp [PyData.eqvAll]
  | a :: as, b :: bs => by
    rw [List.map_cons, List.map_cons, PyData.eqvAll, eqv_dS, eqvAll_dS as bs]
    simp
theorem eqv_dSs (a b : List (List Nat)) : PyData.eqv (.list (a.map dS)) (.list (b.map dS)) = decide (a = b) := by
  rw [PyData.eqv, eqvAll_dS]
theorem shaped_dSs {l : List (List Nat)} (h : ∀ w ∈ l, w.length ≤ 100000 ∧ ∀ c ∈ w, c < 1114112) : SeqAt.shaped (.list (l.map dS)) = true := shaped_list fun x hx => by
  obtain ⟨w, hw, rfl⟩ := List.mem_map.mp hx
  refine ⟨okS.lay (okS.of (h w hw).1 (h w hw).2), ?_⟩
  show (PyData.str _).depth ≤ 63
  rw [PyData.depth]
  omega
theorem eqOk_dSs {l l' : List (List Nat)} (h : ∀ w ∈ l, w.length ≤ 100000 ∧ ∀ c ∈ w, c < 1114112) (h' : ∀ w ∈ l', w.length ≤ 100000 ∧ ∀ c ∈ w, c < 1114112) : eqOk (.list (l.map dS)) (.list (l'.map dS)) = true := by
  unfold eqOk
  rw [shaped_dSs h, shaped_dSs h']
  simp
theorem ixN_last (n : Nat) : ixN (n + 1) (-1) = some n := by
  unfold ixN
  rw [if_neg (by decide), if_pos (by omega)]
  congr 1
  omega
theorem atI_last {α : Type} {l : List α} {x : α} : atI (l ++ [x]) (-1) = some x := by
  unfold atI
  rw [List.length_append, List.length_singleton, ixN_last]
  show (l ++ [x])[l.length]? = some x
  rw [List.getElem?_append_right (Nat.le_refl _), Nat.sub_self]
  rfl
section
variable {T : Type} {t : Tg} {tt : WT T} {te : W T}
theorem lc_keep' {Q : List D → T → Prop} {env : List SV} {τ : T} (p : List Nat → Bool) : ∀ (l : List (List Nat)) (acc : List D),
    (∀ c ∈ l, ∀ (kc : D → T → Prop) (k0 : T → Prop), (if p c = true then kc (dS c) τ else k0 τ) → kTgB tt te kc k0 τ (tgE t (dS c) env)) →
    acc.length + l.length ≤ sizeLine → Q (acc ++ (l.filter p).map dS) τ → lcW t tt te Q (l.map dS) acc env τ
  | [], acc, _, _, q => by
    rw [List.filter_nil, List.map_nil, List.append_nil] at q
    exact q
  | c :: l, acc, h, hl, q => by
    rw [List.length_cons] at hl
    refine turn_k (h c (by simp) _ _ ?_)
    cases e : p c with
    | false =>
      rw [List.filter_cons, e] at q
      exact iteF (lc_keep' p l acc (fun y hy => h y (by simp [hy])) (by omega) q)
    | true =>
      rw [List.filter_cons, e] at q
      refine iteT ⟨by omega, lc_keep' p l (acc ++ [dS c]) (fun y hy => h y (by simp [hy])) (by rw [List.length_append, List.length_singleton]; omega) ?_⟩
      rw [List.append_assoc]
      exact q
theorem lc_keep {Q : List D → T → Prop} {env : List SV} {τ : T} (p : List Nat → Bool) (l : List (List Nat))
    (h : ∀ c ∈ l, ∀ (kc : D → T → Prop) (k0 : T → Prop), (if p c = true then kc (dS c) τ else k0 τ) → kTgB tt te kc k0 τ (tgE t (dS c) env))
    (hl : l.length ≤ sizeLine) (q : Q ((l.filter p).map dS) τ) : lcW t tt te Q (l.map dS) [] env τ :=
  lc_keep' p l [] h (by simpa using hl) q
end
end Z

namespace Z
open PySem L2
/-! the simplest steps of a reading -/
local macro_rules | `(tactic| walk_at "z") => `(tactic| (simp only [dSeq, dNext, dSet, dRet, dRetN, dIfS, dDrop, dVar, dC, dRaw, dOp, dCB, dCall, dNil, dCons, dTup, dLst, dT, dTru, dAndT, dOrT, dNotT, dAnd, dOr, dNot, dIf, dChain, dAsg, dPar, dApp, dFrz, dSl, dPart, dNoPart, dUn, dEmp, dM1, dFor, dSeqI, dRng1, dRng2, dLc, dYes, dNever, dWhile,
  gAdd, gI, noC, gEq, gNe, gCmp, gIsN, gNotN, gIx, gSl, gLen, gIsi, gAll, gAny, gInt, gII, gNeg, gJoin, gSIndex, opt_some, SV.arg, SV.dat?, SV.sto, SV.out, SV.dr, SV.truth, SV.lst?, SV.seqd?, SV.now?, SV.seq?, SV.isN, SV.size?, SV.tyN, Z.tyN, allD,
  tgE, tgEs, wipeE, List.map_cons, List.map_nil, List.getElem?_cons_zero, List.getElem?_cons_succ, List.set_cons_zero, List.set_cons_succ, List.all_cons, List.all_nil, Bool.and_true, Bool.and_self, Option.map_some, Option.bind_some, List.cons_append, List.nil_append, List.length_cons, List.length_nil, List.replicate, Nat.reduceAdd, Nat.reduceSub,
  Option.some.injEq, SV.d.injEq, PyData.bool.injEq, PyData.int.injEq, PyData.str.injEq, PyData.tuple.injEq, exists_eq_left', exists_eq_left, true_and, and_true, if_true, if_false, Bool.true_eq_false, Bool.false_eq_true, reduceIte, gMul, gMulS, gIn, reduceCtorEq, false_and, and_false, exists_false, exists_const, or_false, false_or, decide_eq_true_eq, exists_and_left, exists_and_right, exists_eq, exists_eq_right, exists_eq_right', SV.raw.injEq, ne_eq, not_false_eq_true, implies_true, forall_const]))
/-! the simplest steps of a reading -/
local macro_rules | `(tactic| walk_at "y") => `(tactic| (simp only [gIn_sf, gIn_st, gIn_tf, gIn_tt, flatD_none, flatD_int, flatD_str, flatD_bool, List.any_cons, List.any_nil, Bool.or_false, dOwn_k, kOw_1, kOw_2, kOw_3, kEx_1, kExt_1, dExt_k, kSI4_1, kSI3_1, kSI2_1, kSI1, kSetI_1, dSetI_k, kEn_k, dEnum_k, kZp_l, kZp_u, dZip_k, gMulA_i, gMulA_s, dVar_k, dC_k, dRaw_k, dOp_k, dT_k, kChB_t, kChB_f, dChain_k, dTru_k, kAndT_t, kAndT_f, kOrT_t, kOrT_f, dAndT_k, dOrT_k, dNotT_k, dAnd_k, dOr_k, dNot_k, kIf_t, kIf_f, dIf_k, dNil_k, dCons_k, dTup_k, dLst_k, dCB_k, dCall_k, dNext_k, dSeq_k, dBreak_k, dCont_k, dNever_k, dDrop_k, dRet_k, dRetN_k, kIfS_t, kIfS_f, dIfS_k, dSet_k, dAsg_k, dPar_k, kPar_k, dApp_k, dFrz_k, dSeqI_k, dRng1_k, dRng2_k, kR1_k, kR2_k, dFor_k, dLc_k, dYes_k, kTurn_t, kTurn_f, dSl_k, dNoPart_k, dPart_k, dUn_k, dEmp_k, dM1_k, kM1_k, gI_k, gAdd_i, gAdd_s, gAdd_t, gAdd_ll, gAdd_lo, gAdd_ol, gAdd_oo, gAdd_vo, gAdd_ov, gAdd_vv, gEq_k, gNe_k, gCmp_i, gCmp_s, gIsN_d, gNotN_d, gIsN_ol, gNotN_ol, gIsN_vw, gNotN_vw, gIx_s, gIx_t, gIx_l, gIx_ol, gIx_vw, gSl_s, gSl_t, gSl_l, gSl_ol, gSl_vw, gLen_s, gLen_t, gLen_l, gLen_ol, gLen_vw, gIsi_k, gAll_d, gAll_ol, gAny_d, gAny_ol, gInt_i, gInt_b, gInt_s, gII_k, gNeg_k, gJoin_ol, gJoin_l, gJoin_t, gJoin_vw, gMul_i, gMul_s, kG, kV_1, kV_2, kV_3, kOp2, kOp1, kTb_1, kTb_2, kT, kCh3, kCh4, kCh2, kCh1, kTru, kNotT, kAndB_1, kAndB_2, kAndB_3, kOrB_1, kOrB_2, kOrB_3, kAnd, kOr, kNotB_1, kNotB_2, kNot, kCo2, kCoB_1, kCoB_2, kCo, kTupB_1, kTupB_2, kTup, kLstB_1, kLstB_2, kLst, kCB, kCall, kNx, kDrop, kRet, kStB_1, kStB_2, kSet, kEnv_1, kEnv_2, kAsB_1, kAsB_2, kAsg, kApD_1, kApD_2, kAp, kApp_1, kFrz_1, kFrz_2, kSqB_1, kSqB_2, kSq, kFor, kOl, kLc, kDt_1, kDt_2, kDat, kTgB_1, kTgB_2, kFtB_1, kFtB_2, kSl3, kSl2, kSl1, kPtB_1, kPtB_2, kPt, kUn, kM2, kEq2_1, kEq2_2, kEq1_1, kEq1_2, kIsB_1, kIsB_2, kAtS_1, kAtS_2, kAt_1, kAt_2, kTy_1, kTy_2, kBls_1, kBls_2, kJn_1, kJn_2,
  SV.arg, SV.dat?, SV.sto, SV.out, SV.dr, SV.truth, SV.lst?, SV.seqd?, SV.now?, SV.seq?, SV.isN, SV.size?, SV.tyN, SV.bl?, SV.int?, tyNs_none, tyNs_bool, tyNs_int, tyNs_str, tyNs_list, tyNs_tuple, tyNs_dict, tyCs, isTs, szs, noC_t, eqOks_none_none, eqOks_none_int, eqOks_int_none, eqOks_none_bool, eqOks_bool_none, eqOks_none_str, eqOks_str_none, eqOks_int_int, eqOks_bool_bool, eqOks_str_str, eqOks_int_str, eqOks_str_int, eqOks_bool_str, eqOks_str_bool, eqv_int, eqv_bool, eqv_none_none, eqv_none_bool, eqv_none_int, eqv_none_str, eqv_none_list, eqv_none_tuple, eqv_bool_none, eqv_bool_str, eqv_bool_list, eqv_bool_tuple, eqv_int_none, eqv_int_str, eqv_int_list, eqv_int_tuple, eqv_str_none, eqv_str_bool, eqv_str_int, eqv_str_list, eqv_str_tuple, eqv_list_none, eqv_list_bool, eqv_list_int, eqv_list_str, eqv_list_tuple, eqv_tuple_none, eqv_tuple_bool, eqv_tuple_int, eqv_tuple_str, eqv_tuple_list, allD,
  tgE, tgEs, wipeE, List.map_cons, List.map_nil, List.getElem?_cons_zero, List.getElem?_cons_succ, List.set_cons_zero, List.set_cons_succ, List.all_cons, List.all_nil, Bool.and_true, Bool.and_self, Option.map_some, Option.bind_some, List.cons_append, List.nil_append, List.length_cons, List.length_nil, List.replicate, Nat.reduceAdd, Nat.reduceSub, Nat.reduceLeDiff, Nat.reduceMul,
  Bool.not_true, Bool.not_false, Bool.false_xor, Bool.true_xor, true_and, and_true, beq_self_eq_true, eq_self, decide_true, Bool.true_and, Bool.false_and, Nat.zero_le, List.isEmpty_cons, List.isEmpty_nil]))


/-- the words of a text -/
abbrev WSt := List (List Nat) × List Nat
def flush (w : List Nat) : List (List Nat) := if w = [] then [] else [w]
def isPar (c : Nat) : Bool := decide (c = 40) || decide (c = 41)
def isSep (c : Nat) : Bool := isPar c || decide (c = 32) || decide (c = 10)
def stepW (st : WSt) (c : Nat) : WSt := if isSep c = true then (st.1 ++ flush st.2 ++ (if isPar c = true then [[c]] else []), []) else (st.1, st.2 ++ [c])
def runW (st : WSt) (l : List Nat) : WSt := l.foldl stepW st
def endW (st : WSt) : List (List Nat) := st.1 ++ flush st.2
def wordsL (l : List Nat) : List (List Nat) := endW (runW ([], []) l)
def FF_words_of : FW DrT := fun rs τ Q => ∃ s, rs = [.d (.str s)] ∧ okS s ∧ Q (.ol ((wordsL (cs s)).map dS)) τ
theorem run_snoc (st : WSt) (l : List Nat) (c : Nat) : runW st (l ++ [c]) = stepW (runW st l) c := by
  unfold runW
  rw [List.foldl_append]
  rfl
theorem run_take {l : List Nat} {j c : Nat} (h : l[j]? = some c) (st : WSt) : runW st (l.take (j + 1)) = stepW (runW st (l.take j)) c := by
  rw [List.take_add_one, h]
  exact run_snoc _ _ _
theorem sg_get {l : List Nat} {j : Nat} {x : D} (h : (l.map sg)[j]? = some x) : ∃ c, l[j]? = some c ∧ x = .str ⟨#[c]⟩ := by
  rw [List.getElem?_map] at h
  cases e : l[j]? with
  | none => rw [e] at h; cases h
  | some c =>
    rw [e] at h
    cases h
    exact ⟨c, rfl, rfl⟩
theorem par_in (c : Nat) : decide (c ∈ (Str.ofString "()").cps.toList) = isPar c := by
  have e : (Str.ofString "()").cps.toList = [40, 41] := by decide +kernel
  rw [e]
  unfold isPar
  simp
theorem sep_in (c : Nat) : decide (c ∈ (Str.ofString "() \n").cps.toList) = isSep c := by
  have e : (Str.ofString "() \n").cps.toList = [40, 41, 32, 10] := by decide +kernel
  rw [e]
  unfold isSep isPar
  simp [Bool.or_assoc]
theorem dS_app (a b : List Nat) : mkS a ++ mkS b = mkS (a ++ b) := str_ext (by rw [cs_append, cs_mk, cs_mk, cs_mk])
theorem sg_mk (c : Nat) : (⟨#[c]⟩ : Str) = mkS [c] := rfl
theorem len_mk (l : List Nat) : (mkS l).length = l.length := str_len _
theorem run_len (l : List Nat) : ∀ st : WSt, (runW st l).1.length ≤ st.1.length + 2 * l.length ∧ (runW st l).2.length ≤ st.2.length + l.length := by
  induction l with
  | nil => exact fun st => ⟨Nat.le_refl _, Nat.le_refl _⟩
  | cons c r ih =>
    intro st
    have h := ih (stepW st c)
    show (runW (stepW st c) r).1.length ≤ _ ∧ (runW (stepW st c) r).2.length ≤ _
    have h1 : (stepW st c).1.length ≤ st.1.length + 2 ∧ (stepW st c).2.length ≤ st.2.length + 1 := by
      unfold stepW flush
      split
      · split <;> split <;> simp <;> omega
      · simp
    rw [List.length_cons]
    omega
theorem run_eq (st : WSt) (l : List Nat) (h : ∀ c ∈ l, isSep c = false) : runW st l = (st.1, st.2 ++ l) := by
  induction l generalizing st with
  | nil => simp [runW]
  | cons c r ih =>
    show runW (stepW st c) r = _
    rw [ih _ fun d hd => h d (by simp [hd])]
    unfold stepW
    rw [h c (by simp)]
    simp
theorem run_app (st : WSt) (a b : List Nat) : runW st (a ++ b) = runW (runW st a) b := by
  unfold runW
  rw [List.foldl_append]
def isWh (c : Nat) : Bool := decide (c = 32) || decide (c = 10)
theorem wh_sep {c : Nat} (h : isWh c = true) : isSep c = true ∧ isPar c = false := by
  unfold isWh at h
  unfold isSep isPar
  rw [Bool.or_eq_true, decide_eq_true_eq, decide_eq_true_eq] at h
  rcases h with rfl | rfl <;> decide
theorem step_wh (st : WSt) {c : Nat} (h : isWh c = true) : stepW st c = (endW st, []) := by
  unfold stepW endW
  rw [(wh_sep h).1, (wh_sep h).2]
  simp
theorem end_nil (f : List (List Nat)) : endW (f, []) = f := by simp [endW, flush]
theorem run_wh (st : WSt) (l : List Nat) (h : l.all isWh = true) : runW st l = if l = [] then st else (endW st, []) := by
  induction l generalizing st with
  | nil => rfl
  | cons c r ih =>
    rw [List.all_cons, Bool.and_eq_true] at h
    show runW (stepW st c) r = _
    rw [ih _ h.2, step_wh st h.1, end_nil]
    simp
theorem end_wh (st : WSt) (l : List Nat) (h : l.all isWh = true) : endW (runW st l) = endW st := by
  rw [run_wh st l h]
  split
  · rfl
  · rw [end_nil]
theorem run_par (st : WSt) {c : Nat} (h : isPar c = true) : runW st [c] = (endW st ++ [[c]], []) := by
  show stepW st c = _
  unfold stepW endW
  have : isSep c = true := by unfold isSep; rw [h]; rfl
  rw [this, h]
  simp
def plainB (w : List Nat) : Bool := !decide (w = []) && (w.all (fun c => !isSep c) || (decide (w = [40]) || decide (w = [41]))) && decide (w.length ≤ 4) && w.all fun c => decide (c < 1114112)
def parB (w : List Nat) : Bool := decide (w = [40]) || decide (w = [41])
theorem plain_of {w : List Nat} (h : plainB w = true) : (w ≠ [] ∧ ∀ c ∈ w, isSep c = false) ∨ ∃ c, w = [c] ∧ isPar c = true ∧ parB w = true := by
  unfold plainB at h
  rw [Bool.and_eq_true, Bool.and_eq_true, Bool.and_eq_true, Bool.or_eq_true, Bool.or_eq_true] at h
  obtain ⟨⟨⟨h1, h2⟩, _⟩, _⟩ := h
  rw [Bool.not_eq_true', decide_eq_false_iff_not] at h1
  rcases h2 with h2 | h2 | h2
  · refine .inl ⟨h1, fun c hc => ?_⟩
    have := List.all_eq_true.mp h2 c hc
    rw [Bool.not_eq_true'] at this
    exact this
  · rw [decide_eq_true_eq] at h2
    subst h2
    exact .inr ⟨40, rfl, rfl, rfl⟩
  · rw [decide_eq_true_eq] at h2
    subst h2
    exact .inr ⟨41, rfl, rfl, rfl⟩
theorem plain_sz {w : List Nat} (h : plainB w = true) : w.length ≤ 4 ∧ ∀ c ∈ w, c < 1114112 := by
  unfold plainB at h
  rw [Bool.and_eq_true, Bool.and_eq_true] at h
  exact ⟨of_decide_eq_true h.1.2, fun c hc => of_decide_eq_true (List.all_eq_true.mp h.2 c hc)⟩
theorem wordsL_40 (n : Nat) : wordsL (List.replicate n 40) = List.replicate n [40] := by
  have : ∀ n (f : List (List Nat)), runW (f, []) (List.replicate n 40) = (f ++ List.replicate n [40], []) := by
    intro n
    induction n with
    | zero => intro f; simp [runW]
    | succ n ih =>
      intro f
      rw [List.replicate_succ]
      show runW (stepW (f, []) 40) _ = _
      have : stepW (f, []) 40 = (f ++ [[40]], []) := by simp [stepW, isSep, isPar, flush]
      rw [this, ih, List.replicate_succ]
      simp
  unfold wordsL
  rw [this, end_nil, List.nil_append]
def szW (n : Nat) (st : WSt) : Prop := (∀ w ∈ st.1, w.length ≤ n + 1 ∧ ∀ c ∈ w, c < 1114112) ∧ st.2.length ≤ n ∧ ∀ c ∈ st.2, c < 1114112
theorem szW_step {n : Nat} {st : WSt} {c : Nat} (h : szW n st) (hc : c < 1114112) : szW (n + 1) (stepW st c) := by
  obtain ⟨h1, h2, h3⟩ := h
  unfold stepW
  split
  · refine ⟨fun w hw => ?_, Nat.zero_le _, fun d hd => nomatch hd⟩
    rw [List.mem_append, List.mem_append] at hw
    rcases hw with (hw | hw) | hw
    · exact ⟨by have := (h1 w hw).1; omega, (h1 w hw).2⟩
    · unfold flush at hw
      split at hw
      · cases hw
      · rw [List.mem_singleton] at hw
        subst hw
        exact ⟨by omega, h3⟩
    · split at hw
      · rw [List.mem_singleton] at hw
        subst hw
        exact ⟨by rw [List.length_singleton]; omega, fun d hd => by rw [List.mem_singleton] at hd; omega⟩
      · cases hw
  · refine ⟨fun w hw => ⟨by have := (h1 w hw).1; omega, (h1 w hw).2⟩, by rw [List.length_append, List.length_singleton]; omega, fun d hd => ?_⟩
    rcases List.mem_append.mp hd with hd | hd
    · exact h3 d hd
    · rw [List.mem_singleton] at hd
      omega
theorem szW_run : ∀ (l : List Nat) {n : Nat} {st : WSt}, szW n st → (∀ c ∈ l, c < 1114112) → szW (n + l.length) (runW st l)
  | [], n, st, h, _ => h
  | c :: r, n, st, h, hc => by
    have := szW_run r (szW_step h (hc c (by simp))) fun d hd => hc d (by simp [hd])
    rw [show n + 1 + r.length = n + (c :: r).length by rw [List.length_cons]; omega] at this
    exact this
theorem words_sz {l : List Nat} (h1 : l.length ≤ 50000) (h : ∀ c ∈ l, c < 1114112) : ∀ w ∈ wordsL l, w.length ≤ 100000 ∧ ∀ c ∈ w, c < 1114112 := by
  obtain ⟨z1, z2, z3⟩ := szW_run l (n := 0) (st := ([], [])) ⟨fun w hw => (nomatch hw), Nat.le_refl _, fun c hc => (nomatch hc)⟩ h
  intro w hw
  unfold wordsL endW at hw
  rcases List.mem_append.mp hw with hw | hw
  · exact ⟨by have := (z1 w hw).1; omega, (z1 w hw).2⟩
  · unfold flush at hw
    split at hw
    · cases hw
    · rw [List.mem_singleton] at hw
      subst hw
      exact ⟨by omega, z3⟩
theorem parB_any (w : List Nat) : (PyData.eqv (.str (Str.ofString "(")) (.str (mkS w)) || PyData.eqv (.str (Str.ofString ")")) (.str (mkS w))) = parB w := by
  have po : (Str.ofString "(") = mkS [40] := str_ext (by decide +kernel)
  have pc : (Str.ofString ")") = mkS [41] := str_ext (by decide +kernel)
  rw [eqv_str, eqv_str, po, pc, cs_mk, cs_mk, cs_mk]
  unfold parB
  simp only [eq_comm]
theorem tight_k {T : Type} {env : List SV} {τ : T} {Q : SV → T → Prop} {w : List Nat} {ws : List (List Nat)} {j : Nat} (e5 : env[5]? = some (.d (.str (mkS w)))) (e2 : env[2]? = some (.d (.int (j : Int)))) (e3 : env[3]? = some (.d (.list (ws.map dS)))) (hj : j ≤ ws.length)
    (q : ∀ tight : Bool, (tight = true → parB w = true ∨ (0 < j ∧ ∃ v, ws[j - 1]? = some v ∧ parB v = true)) → Q (.d (.bool tight)) τ) :
    dOr (dOp (gIn false) (dVar 5) (dTup (dCons (dC (PyData.str (Str.ofString "("))) (dCons (dC (PyData.str (Str.ofString ")"))) dNil))))
      (dAnd (dOp (gCmp (fun i j => decide (j < i)) fun a b => strLt b a) (dVar 2) (dC (PyData.int 0)))
        (dOp (gIn false) (dOp gIx (dVar 3) (dOp (gI noC fun i j => PyData.int (i - j)) (dVar 2) (dC (PyData.int 1))))
          (dTup (dCons (dC (PyData.str (Str.ofString "("))) (dCons (dC (PyData.str (Str.ofString ")"))) dNil))))) env τ Q := by
  walk_at "y"
  rw [e5]
  walk_at "y"
  rw [parB_any]
  refine kOrB_of (fun h => ?_) fun h => ?_
  · rw [h]
    exact q true fun _ => .inl h
  walk_at "y"
  rw [e2]
  walk_at "y"
  refine kAndB_of (fun h2 => ?_) fun h2 => ?_
  · have h2 : 0 < (j : Int) := of_decide_eq_true h2
    walk_at "y"
    rw [e3]
    walk_at "y"
    rw [e2]
    walk_at "y"
    refine kAt_of (by omega) (by rw [List.length_map]; omega) fun x ex _ => ?_
    have ei : ((j : Int) - 1).toNat = j - 1 := by omega
    rw [ei, List.getElem?_map] at ex
    cases e : ws[j - 1]? with
    | none => rw [e] at ex; cases ex
    | some v =>
      rw [e] at ex
      cases ex
      simp only [dS]
      walk_at "y"
      rw [parB_any]
      exact q _ fun h => .inr ⟨by omega, v, e, h⟩
  · rw [h2]
    exact q false fun h => nomatch h
theorem put_step {st : WSt} {ws : List (List Nat)} {j : Nat} {w g : List Nat} (hw : plainB w = true) (h1 : endW st = ws.take j) (h2 : (j = 0 ∨ ∃ v, ws[j - 1]? = some v ∧ parB v = true) → st.2 = []) (ew : ws[j]? = some w) (hg : g.all isWh = true)
    (hg2 : g ≠ [] ∨ parB w = true ∨ j = 0 ∨ ∃ v, ws[j - 1]? = some v ∧ parB v = true) : endW (runW st (g ++ w)) = ws.take (j + 1) ∧ (parB w = true → (runW st (g ++ w)).2 = []) := by
  rw [run_app, List.take_add_one, ew]
  have e1 := end_wh st g hg
  have e2 := run_wh st g hg
  generalize runW st g = st1 at e1 e2
  rw [h1] at e1
  rcases plain_of hw with ⟨hne, hs⟩ | ⟨c, rfl, hc, hp⟩
  · have np : parB w = false := by
      cases z : parB w with
      | false => rfl
      | true =>
        unfold parB at z
        rw [Bool.or_eq_true, decide_eq_true_eq, decide_eq_true_eq] at z
        rcases z with rfl | rfl
        · exact absurd (hs 40 (by simp)) (by decide)
        · exact absurd (hs 41 (by simp)) (by decide)
    have e0 : st1.2 = [] := by
      rw [e2]
      split
      · rename_i hgn
        rcases hg2 with z | z | z
        · exact absurd hgn z
        · rw [np] at z; cases z
        · exact h2 z
      · rfl
    rw [run_eq _ _ hs, e0, List.nil_append]
    refine ⟨?_, fun z => by rw [np] at z; cases z⟩
    unfold endW at e1 ⊢
    rw [e0] at e1
    have : flush ([] : List Nat) = [] := rfl
    rw [this, List.append_nil] at e1
    show st1.1 ++ flush w = _
    rw [e1, show flush w = [w] by simp [flush, hne]]
    rfl
  · rw [run_par _ hc, end_nil, e1]
    exact ⟨rfl, fun _ => rfl⟩
theorem rep_one (c n : Nat) : (List.replicate n [c]).flatten = List.replicate n c := by
  induction n with
  | zero => rfl
  | succ n ih => rw [List.replicate_succ, List.flatten_cons, ih, List.replicate_succ]; rfl
theorem repL {α : Type} (c : α) (n : Nat) : (List.replicate n [c]).flatten = List.replicate n c := by
  induction n with
  | zero => rfl
  | succ n ih => rw [List.replicate_succ, List.flatten_cons, ih, List.replicate_succ]; rfl
theorem words_len (l : List Nat) : (wordsL l).length ≤ 2 * l.length + 1 := by
  unfold wordsL endW flush
  have := (run_len l ([], [])).1
  have e : (([], []) : WSt).1.length = 0 := rfl
  rw [e] at this
  rw [List.length_append]
  split
  · rw [List.length_nil]; omega
  · rw [List.length_singleton]; omega
/-- the part that is put together -/
def FF__law_put : FW DrT := fun rs τ Q => ∃ a b, rs = [.raw (.ref a)] ∧ τ = .on a b ∧ 200 ≤ b ∧ ∀ (ws : List (List Nat)) (s : Str) (b' : Nat), okN 50000 s → wordsL (cs s) = ws → b ≤ b' + 200 → Q (.d (.tuple [.list (ws.map dS), .str s])) (.on a b')
def FF__law_parted : FW DrT := fun rs τ Q => ∃ s, rs = [.d (.str s)] ∧ okN 100 s ∧ Q (.ol ((wordsL (cs s)).map dS)) τ

def top (i : Nat) : Stmt := PySem.Challenge.pw_rowkinds_k03_words_of_texts.main.body.getD i (.Pass ⟨0, 0, 0, 0⟩)
abbrev s_words_of : Stmt := top 1
theorem sc_words_of : FnScope ["text", "found", "word", "sign"] ["text"] (defScope s_words_of) :=
  ⟨rfl, rfl, rfl, by decide +kernel, rfl, by decide +kernel, by decide +kernel⟩
abbrev s__law_begin : Stmt := top 3
theorem sc__law_begin : FnScope ["_law_script"] ["_law_script"] (defScope s__law_begin) :=
  ⟨rfl, rfl, rfl, by decide +kernel, rfl, by decide +kernel, by decide +kernel⟩
abbrev s__law_mixed : Stmt := top 4
theorem sc__law_mixed : FnScope ["_law_cell", "_law_k", "_law_number"] ["_law_cell", "_law_k"] (defScope s__law_mixed) :=
  ⟨rfl, rfl, rfl, by decide +kernel, rfl, by decide +kernel, by decide +kernel⟩
abbrev s__law_next : Stmt := top 5
theorem sc__law_next : FnScope ["_law_draw", "_law_many", "_law_found", "_law_cells", "_law_cell"] ["_law_draw", "_law_many"] (defScope s__law_next) :=
  ⟨rfl, rfl, rfl, by decide +kernel, rfl, by decide +kernel, by decide +kernel⟩
abbrev s__law_put : Stmt := top 6
theorem sc__law_put : FnScope ["_law_draw", "_law_some", "_law_k", "_law_words", "_law_text", "_law_word", "_law_tight", "_law_gap"] ["_law_draw"] (defScope s__law_put) :=
  ⟨rfl, rfl, rfl, by decide +kernel, rfl, by decide +kernel, by decide +kernel⟩
abbrev s__law_parted : Stmt := top 7
theorem sc__law_parted : FnScope ["_law_text", "_law_found", "_law_sign", "_law_word"] ["_law_text"] (defScope s__law_parted) :=
  ⟨rfl, rfl, rfl, by decide +kernel, rfl, by decide +kernel, by decide +kernel⟩
abbrev s_law : Stmt := top 8
theorem sc_law : FnScope ["_law_script", "_law_draw", "_law_k", "_law_words", "_law_text", "_law_turn", "_law_odd", "_law_due", "_law_one", "_law_found"] ["_law_script"] (defScope s_law) :=
  ⟨rfl, rfl, rfl, by decide +kernel, rfl, by decide +kernel, by decide +kernel⟩
/-! what the top has for the defs -/
structure Txt (K : PySem.W.Frag) (mg : Str → Option Value) : Prop where
  b_len : mg "len" = none
  b_range : mg "range" = none
  b_enumerate : mg "enumerate" = none
  b_int : mg "int" = none
  b_min : mg "min" = none
  b_isinstance : mg "isinstance" = none
  b_list : mg "list" = none
section
variable {P : Program} {w : World} {K : PySem.W.Frag} {mg : Str → Option Value} {base : Heap}
theorem ok_words_of {f : Addr} {fd : FuncData} (T : Txt K mg) (F : Fun K "words_of" "words_of" s_words_of f fd)  :
    FnOk P w K mg base CX0 1 f fd ["text"] (spD theS K FF_words_of) := by
  refine okDr F sc_words_of (by exact fun _ _ _ ⟨_, e, _⟩ => by rw [e]; rfl) (by decide) fun cdv A outer s H E G Fp hr => ⟨_, (dss_cons (ds_set (i := 1) sc_words_of.nd rfl (by first | exact .inl rfl | exact .inr rfl) (de_lst da_nil))
      (dss_cons (ds_set (i := 2) sc_words_of.nd rfl (by first | exact .inl rfl | exact .inr rfl) de_str)
      (dss_cons (ds_for PassesOwn.never rfl (di_seq rfl (de_var (pv 0))) (dg_nm (i := 3) sc_words_of.nd rfl (by first | exact .inl rfl | exact .inr rfl))
        (dss_one (ds_if (dt_cmp op_inA (od_in rfl) (de_var (pv 3)) de_str (by rfl))
          (dss_cons (ds_if (dt_cmp (op_neA hr.units) (od_ne rfl) (de_var (pv 2)) de_str (nomark _))
            (dss_one (ds_app (ps_expr (pe_bm PySem.F.plainAttrs_list PySem.F.slot_list_append PySem.F.type_list_append mt_append (pv 1) (pa_cons (de_var (pv 2)) pa_nil)))))
            dss_nil)
          (dss_cons (ds_set (i := 2) sc_words_of.nd rfl (by first | exact .inl rfl | exact .inr rfl) de_str)
          (dss_one (ds_if (dt_cmp op_inA (od_in rfl) (de_var (pv 3)) de_str (by rfl))
            (dss_one (ds_app (ps_expr (pe_bm PySem.F.plainAttrs_list PySem.F.slot_list_append PySem.F.type_list_append mt_append (pv 1) (pa_cons (de_var (pv 3)) pa_nil)))))
            dss_nil))))
          (dss_one (ds_set (i := 2) sc_words_of.nd rfl (by first | exact .inl rfl | exact .inr rfl) (de_op op_addA (od_add rfl) (de_var (pv 2)) (de_var (pv 3))))))))
      (dss_one (ds_retR (dr_if (dt_cmp (op_neA hr.units) (od_ne rfl) (de_var (pv 2)) de_str (nomark _)) (dr_e (de_op op_addA (od_add rfl) (de_var (pv 1)) (de_lst (da_cons (de_var (pv 2)) da_nil)))) (dr_own (pv 1)))))))), ?_⟩
  dsimp only [Bk.T, theS]
  rintro rs τ Q ⟨s, rfl, hk, h⟩
  walk_at "y"
  refine for_inv (fun j env τ' => τ' = τ ∧ ∃ x, env = [SV.d (PyData.str s), SV.ol ((runW ([], []) ((cs s).take j)).1.map dS), SV.d (.str (mkS (runW ([], []) ((cs s).take j)).2)), x]) _ _ _ ⟨rfl, SV.no, by rw [empty_mk]; rfl⟩ ?_ ?_
  · rintro j x env τ' ej ⟨rfl, y, rfl⟩ kn hkn
    obtain ⟨c, ec, rfl⟩ := sg_get ej
    have hj : j < (cs s).length := (List.getElem?_eq_some_iff.mp ec).1
    have hl := run_len ((cs s).take j) ([], [])
    rw [List.length_take] at hl
    have hs := hk.1
    rw [str_len] at hs
    have he := run_take ec ([], [])
    have hkn := fun z => hkn _ τ' ⟨rfl, z, rfl⟩
    rw [he] at hkn
    generalize runW ([], []) ((cs s).take j) = st at hl hkn
    obtain ⟨f, w⟩ := st
    have hf : f.length ≤ 200000 := by
      have := hl.1
      simp at this
      omega
    have hw : w.length ≤ 100000 := by
      have := hl.2
      simp at this
      omega
    have zl := sizeLine_eq
    walk_at "y"
    rw [sep_in]
    refine kIfS_of (fun h1 => ?_) fun h1 => ?_
    · walk_at "y"
      rw [eqv_str, empty_mk, cs_mk, cs_mk]
      refine kIfS_of (fun h2 => ?_) fun h2 => ?_
      · have h2 : ¬ w = [] := by simpa using h2
        walk_at "y"
        rw [par_in]
        refine ⟨by rw [List.length_map, zl]; omega, kIfS_of (fun h3 => ?_) fun h3 => ?_⟩
        · walk_at "y"
          refine ⟨by rw [List.length_append, List.length_map, zl, List.length_singleton]; omega, ?_⟩
          have z := hkn (.d (.str ⟨#[c]⟩))
          simp only [stepW, h1, h2, h3, flush, if_true, if_false, List.map_append, List.map_cons, List.map_nil] at z
          exact z
        · walk_at "y"
          have z := hkn (.d (.str ⟨#[c]⟩))
          simp only [stepW, h1, h2, h3, flush, if_true, if_false, Bool.false_eq_true, List.append_nil, List.map_append, List.map_cons, List.map_nil] at z
          exact z
      · have h2 : w = [] := by simpa using h2
        subst h2
        walk_at "y"
        rw [par_in]
        refine kIfS_of (fun h3 => ?_) fun h3 => ?_
        · walk_at "y"
          refine ⟨by rw [List.length_map, zl]; omega, ?_⟩
          have z := hkn (.d (.str ⟨#[c]⟩))
          simp only [stepW, h1, h3, flush, if_true, if_false, List.append_nil, List.map_append, List.map_cons, List.map_nil] at z
          exact z
        · walk_at "y"
          have z := hkn (.d (.str ⟨#[c]⟩))
          simp only [stepW, h1, h3, flush, if_true, if_false, Bool.false_eq_true, List.append_nil, List.map_append, List.map_cons, List.map_nil] at z
          exact z
    · walk_at "y"
      rw [sg_mk, dS_app, len_mk, len_mk]
      refine ⟨by rw [zl, List.length_singleton]; omega, ?_⟩
      have z := hkn (.d (.str ⟨#[c]⟩))
      simp only [stepW, h1, if_false, Bool.false_eq_true] at z
      exact z
  · rintro env τ' ⟨rfl, y, rfl⟩
    rw [List.length_map, List.take_length]
    unfold wordsL endW at h
    have hl := run_len (cs s) ([], [])
    have hs := hk.1
    rw [str_len] at hs
    generalize runW ([], []) (cs s) = st at h hl
    obtain ⟨f, w⟩ := st
    have hf : f.length ≤ 200000 := by
      have : f.length ≤ 0 + 2 * (cs s).length := hl.1
      omega
    have zl := sizeLine_eq
    walk_at "y"
    rw [eqv_str, empty_mk, cs_mk, cs_mk]
    refine kIf_of (fun h2 => ?_) fun h2 => ?_
    · have h2 : ¬ w = [] := by simpa using h2
      rw [show flush w = [w] by simp [flush, h2], List.map_append] at h
      walk_at "y"
      exact ⟨by rw [List.length_map, zl]; omega, h⟩
    · have h2 : w = [] := by simpa using h2
      subst h2
      rw [show flush [] = ([] : List (List Nat)) by simp [flush], List.append_nil] at h
      walk_at "y"
      exact h

theorem ok__law_begin {f : Addr} {fd : FuncData} (T : Txt K mg) (F : Fun K "_law_begin" "_law_begin" s__law_begin f fd) : FnOk P w K mg base CX0 1 f fd ["_law_script"] (spD theS K FF__law_begin) := by
  refine F.ok sc__law_begin (fun vs H Q E h => ?_) (fun cdv A outer s H vs Q E hr h => ?_)
  · obtain ⟨G, Fp, τ, rs, Qd, Ha, k, r, dr, ⟨ns, e, hl, ht, q⟩, fin⟩ := h
    subst e
    obtain ⟨v, e1, _⟩ := r.one
    subst e1
    rfl
  · obtain ⟨G, Fp, τ, rs, Qd, Ha, k, r, dr, ⟨ns, e, hl, ht, q⟩, fin⟩ := h
    subst e ht
    obtain ⟨v, e1, rv⟩ := r.one
    subst e1
    obtain ⟨p, ws, ev, hp, ra⟩ := rv.sql (xs := ns.map PyData.int) k.same rfl
    subst ev
    have ew := ints_ok ra (ints_map ns)
    subst ew
    have noF : ∀ b, ¬ Fp b := k.r
    refine ⟨_, pss_one (ps_ret (pe_disp (pps_cons pe_str (pe_op op_addA (pv 0) (pe_lst (pa_cons pe_int pa_nil))) (pps_cons pe_str pe_int (pps_cons pe_str pe_int (pps_cons pe_str pe_int pps_nil)))) (by rfl) (by rfl) (fun z => by cases z) (by decide))), ?_⟩
    intro d hd
    refine ⟨_, rfl, (by show 1 ≤ sizeLine; decide), fun x hx => ?_⟩
    have s1 : Same H (upd H d (.dK [])) := fun b o e => by rw [upd_ne (ne_of_none e hd)]; exact e
    have s2 : Same (upd H d (.dK [])) (upd (upd H d (.dK [])) x (.lst [.int 0])) := fun b o e => by rw [upd_ne (ne_of_none e hx)]; exact e
    refine .inr (.inr (.inr ⟨p, x, _, _, rfl, rfl, same_sqp (s1.trans s2) hp, .inl (.inl upd_same), ?_, fun c hc => ?_⟩))
    · rw [List.length_map]
      show ns.length + 1 ≤ sizeLine
      rw [sizeLine_eq]
      omega
    have s3 : Same (upd (upd H d (.dK [])) x (.lst [.int 0])) (upd (upd (upd H d (.dK [])) x (.lst [.int 0])) c (.lst (ns.map V.int ++ [.int 0]))) := fun b o e => by rw [upd_ne (ne_of_none e hc)]; exact e
    have dx : d ≠ x := fun z => by
      subst z
      rw [upd_same] at hx
      cases hx
    have dc : d ≠ c := fun z => by
      subst z
      rw [upd_ne dx, upd_same] at hc
      cases hc
    have hc0 : H c = none := by
      cases z : H c with
      | none => rfl
      | some o =>
        rw [s2 c o (s1 c o z)] at hc
        cases hc
    refine ⟨by rw [upd_ne dc, upd_ne dx, upd_same], drK c 0 0 0, rfl, by show 4 ≤ 15; decide, ?_⟩
    rw [dr_new]
    have hG : G c = none := by
      cases z : G c with
      | none => rfl
      | some o =>
        rw [k.same c o z] at hc0
        cases hc0
    have ec : ns.map V.int ++ [V.int 0] = (ns ++ [0]).map V.int := by rw [List.map_append]; rfl
    have sG : Same G (upd G c (.lst (ns.map V.int ++ [.int 0]))) := fun b o e => by rw [upd_ne (ne_of_none e hG)]; exact e
    refine fin (.raw (.ref d)) (.on d 1152921504606846976) (upd G c (.lst (ns.map V.int ++ [.int 0]))) (fun b => b = d) _ (.ref d) ⟨sG, fun b o _ e => ?_, fun b o e => ?_, fun b e => ?_, fun b e => (noF b e).elim, fun b e => ?_⟩ ⟨fun b o e => ?_, fun b e => ?_, fun b e => ?_, fun b => Iff.rfl, c, ns ++ [0], 0, 0, 0, upd_same, ?_, by simp, by omega⟩ rfl (q d)
    · rw [upd_ne (ne_of_none e hd)]
      exact s3 b o (s2 b o (s1 b o e))
    · by_cases z : b = c
      · subst z; exact .inr hc0
      · rw [upd_ne z] at e; exact .inl e
    · subst e; exact .inr hd
    · intro z
      by_cases zd : b = d
      · subst zd; exact e hd
      · rw [upd_ne zd] at z
        cases y : H b with
        | none => exact e y
        | some o =>
          rw [s3 b o (s2 b o (s1 b o y))] at z
          cases z
    · by_cases z : b = c
      · subst z
        rw [upd_same] at e
        rw [upd_ne (Ne.symm dc), upd_same]
        exact e
      · rw [upd_ne z] at e
        have hb := k.same b o e
        rw [upd_ne (ne_of_none hb hd)]
        exact s3 b o (s2 b o (s1 b o hb))
    · subst e
      rw [upd_ne dc]
      cases z : G b with
      | none => rfl
      | some o =>
        rw [k.same b o z] at hd
        cases hd
    · subst e
      rw [upd_same]
      exact fun z => by cases z
    · rw [← ec]
      exact .inl (.inl upd_same)

theorem ok__law_mixed {f : Addr} {fd : FuncData} (T : Txt K mg) (F : Fun K "_law_mixed" "_law_mixed" s__law_mixed f fd)  :
    FnOk P w K mg base CX0 1 f fd ["_law_cell", "_law_k"] (spD theS K FF__law_mixed) := by
  refine okDr F sc__law_mixed (by exact fun _ _ _ ⟨_, _, e, _⟩ => by rw [e]; rfl) (by decide) fun cdv A outer s H E G Fp hr => ⟨_, (dss_cons (ds_set (i := 2) sc__law_mixed.nd rfl (by first | exact .inl rfl | exact .inr rfl) (de_op op_mod od_I (de_op op_mulB (od_mulB rfl) (de_op op_addA (od_add rfl) (de_op op_addA (od_add rfl) (de_op op_addA (od_add rfl) (de_op op_mod od_I (de_var (pv 0)) de_int) (de_op op_mulB (od_mulB rfl) (de_op op_mulB (od_mulB rfl) de_int (de_var (pv 1))) (de_var (pv 1)))) (de_op op_mulB (od_mulB rfl) de_int (de_var (pv 1)))) de_int) de_int) de_int))
      (dss_one (ds_ret (de_op op_fdiv od_I (de_op op_mod od_I (de_op op_mulB (od_mulB rfl) (de_var (pv 2)) (de_op op_addA (od_add rfl) de_int (de_op op_mulB (od_mulB rfl) de_int (de_op op_mod od_I (de_var (pv 1)) de_int)))) de_int) de_int)))), ?_⟩
  dsimp only [Bk.T, theS]
  rintro rs τ Q ⟨c, k, rfl, hk, h⟩
  walk_at "y"
  refine ⟨by decide, .inl ⟨by decide, by decide⟩, .inr ⟨by omega, by omega⟩, .inl ⟨by decide, by decide⟩, .inr ⟨by decide, by decide⟩, by decide, by decide, .inl ⟨by decide, by decide⟩, .inr ⟨by omega, by omega⟩, by decide, ⟨by decide, by decide⟩, h _ ?_⟩
  exact Int.ediv_nonneg (Int.emod_nonneg _ (by decide)) (by decide)
theorem ok__law_parted {f : Addr} {fd : FuncData} (T : Txt K mg) (F : Fun K "_law_parted" "_law_parted" s__law_parted f fd)  :
    FnOk P w K mg base CX0 1 f fd ["_law_text"] (spD theS K FF__law_parted) := by
  refine okDr F sc__law_parted (by exact fun _ _ _ ⟨_, e, _⟩ => by rw [e]; rfl) (by decide) fun cdv A outer s H E G Fp hr => ⟨_, (dss_cons (ds_set (i := 1) sc__law_parted.nd rfl (by first | exact .inl rfl | exact .inr rfl) (de_lst (da_cons de_str da_nil)))
      (dss_cons (ds_for PassesOwn.never rfl (di_seq rfl (de_var (pv 0))) (dg_nm (i := 2) sc__law_parted.nd rfl (by first | exact .inl rfl | exact .inr rfl))
        (dss_one (ds_if (dt_w (dw_or (dt_cmp (op_eqA hr.units) (od_eq rfl) (de_var (pv 2)) de_str (nomark _)) (dw_or1 (dt_cmp (op_eqA hr.units) (od_eq rfl) (de_var (pv 2)) de_str (nomark _)))))
          (dss_one (ds_app (ps_expr (pe_bm PySem.F.plainAttrs_list PySem.F.slot_list_append PySem.F.type_list_append mt_append (pv 1) (pa_cons de_str pa_nil)))))
          (dss_one (ds_if (dt_w (dw_or (dt_cmp (op_eqA hr.units) (od_eq rfl) (de_var (pv 2)) de_str (nomark _)) (dw_or1 (dt_cmp (op_eqA hr.units) (od_eq rfl) (de_var (pv 2)) de_str (nomark _)))))
            (dss_one (ds_ext (ps_expr (pe_bm PySem.F.plainAttrs_list PySem.F.slot_list_extend PySem.F.type_list_extend mt_extend (pv 1) (pa_cons (de_lst (da_cons (de_var (pv 2)) (da_cons de_str da_nil))) pa_nil)))))
            (dss_one (ds_seti (i := 1) (ps_asg (de_op op_addA (od_add rfl) (de_ix ix_A (od_ix rfl) (de_var (pv 1)) (de_neg de_int) (fun _ _ => rfl)) (de_var (pv 2))) (pg_sub (pv 1) (de_neg de_int) set_list)))))))))
      (dss_one (ds_frz (i := 1) (ds_ret (de_lc (own := [("_law_word", 3)]) rfl sc__law_parted.nd (di_seq rfl (de_var (pv 1))) (blkOk_by (by kernel_rfl)) (by decide) (fun _ _ _ _ _ => (dg_nm (i := 3) sc__law_parted.nd rfl (by first | exact .inl rfl | exact .inr rfl))) (fun _ _ _ _ _ => (dts_one (dt_cmp (op_neA hr.units) (od_ne rfl) (de_var (pv 3)) de_str (nomark _)))) (fun _ _ _ _ _ => (de_var (pv 3))))))))), ?_⟩
  dsimp only [Bk.T, theS]
  rintro rs τ Q ⟨s, rfl, hk, h⟩
  walk_at "y"
  refine for_inv (fun j env τ' => τ' = τ ∧ ∃ (x : SV) (init : List (List Nat)), env = [SV.d (PyData.str s), SV.ol ((init ++ [(runW ([], []) ((cs s).take j)).2]).map dS), x, SV.no] ∧ init.filter (fun w => !decide (w = [])) = (runW ([], []) ((cs s).take j)).1 ∧ init.length ≤ 2 * j) _ _ _ ⟨rfl, SV.no, [], by rw [empty_mk]; rfl, rfl, Nat.zero_le _⟩ ?_ ?_
  · rintro j x env τ' ej ⟨rfl, y, init, rfl, hi, hn⟩ kn hkn
    obtain ⟨c, ec, rfl⟩ := sg_get ej
    have hj : j < (cs s).length := (List.getElem?_eq_some_iff.mp ec).1
    have hl := run_len ((cs s).take j) ([], [])
    rw [List.length_take] at hl
    have hs := hk.1
    rw [str_len] at hs
    have he := run_take ec ([], [])
    have hkn := fun z init h2 h3 => hkn _ τ' ⟨rfl, z, init, rfl, h2, h3⟩
    rw [he] at hkn
    generalize runW ([], []) ((cs s).take j) = st at hl hkn hi
    obtain ⟨f, w⟩ := st
    have hi : init.filter (fun w => !decide (w = [])) = f := hi
    have hw : w.length ≤ 100 := by
      have : w.length ≤ 0 + _ := hl.2
      omega
    have zl := sizeLine_eq
    have sp : (Str.ofString " ") = mkS [32] := str_ext (by decide +kernel)
    have nl : (Str.ofString "\n") = mkS [10] := str_ext (by decide +kernel)
    have po : (Str.ofString "(") = mkS [40] := str_ext (by decide +kernel)
    have pc : (Str.ofString ")") = mkS [41] := str_ext (by decide +kernel)
    have fil : (init ++ [w]).filter (fun w => !decide (w = [])) = f ++ flush w := by
      rw [List.filter_append, hi]
      congr 1
      unfold flush
      by_cases hw : w = []
      · simp [hw]
      · simp [hw]
    have white : isWh c = true → kn [SV.d (PyData.str s), SV.ol ((init ++ [w]).map dS ++ [dS []]), SV.d (.str ⟨#[c]⟩), SV.no] τ' := fun hc => by
      have z := hkn (.d (.str ⟨#[c]⟩)) (init ++ [w])
      rw [step_wh _ hc] at z
      have z := z fil (by rw [List.length_append, List.length_singleton]; omega)
      rw [List.map_append (l₂ := [([] : List Nat)])] at z
      exact z
    have paren : isPar c = true → kn [SV.d (PyData.str s), SV.ol ((init ++ [w]).map dS ++ [dS [c], dS []]), SV.d (.str ⟨#[c]⟩), SV.no] τ' := fun hc => by
      have z := hkn (.d (.str ⟨#[c]⟩)) (init ++ [w] ++ [[c]])
      have e : stepW (f, w) c = (f ++ flush w ++ [[c]], []) := by
        have : isSep c = true := by unfold isSep; rw [hc]; rfl
        unfold stepW
        rw [this, hc]
        simp
      rw [e] at z
      have z := z (by rw [List.filter_append, fil]; rfl) (by rw [List.length_append, List.length_append, List.length_singleton, List.length_singleton]; omega)
      simp only [List.map_append, List.append_assoc, List.map_cons, List.map_nil, List.cons_append, List.nil_append] at z ⊢
      exact z
    have other : isSep c = false → kn [SV.d (PyData.str s), SV.ol (init.map dS ++ [dS (w ++ [c])]), SV.d (.str ⟨#[c]⟩), SV.no] τ' := fun hc => by
      have z := hkn (.d (.str ⟨#[c]⟩)) init
      have e : stepW (f, w) c = (f, w ++ [c]) := by
        unfold stepW
        rw [hc]
        simp
      rw [e] at z
      have z := z hi (by omega)
      rw [List.map_append] at z
      exact z
    have hsz : ((init ++ [w]).map dS).length ≤ 201 := by
      rw [List.length_map, List.length_append, List.length_singleton]
      omega
    walk_at "y"
    rw [eqv_str, sp, cs_mk, nl]
    refine kOrT_of (fun h1 => ?_) fun h1 => ?_
    · walk_at "y"
      refine ⟨by omega, ?_⟩
      rw [empty_mk]
      refine white ?_
      have : [c] = [32] := of_decide_eq_true h1
      cases this
      rfl
    walk_at "y"
    rw [eqv_str, cs_mk]
    refine kIfS_of (fun h2 => ?_) fun h2 => ?_
    · walk_at "y"
      refine ⟨by omega, ?_⟩
      rw [empty_mk]
      refine white ?_
      have : [c] = [10] := of_decide_eq_true h2
      cases this
      rfl
    walk_at "y"
    rw [eqv_str, po, cs_mk, pc]
    refine kOrT_of (fun h3 => ?_) fun h3 => ?_
    · walk_at "y"
      refine ⟨by omega, ?_⟩
      rw [empty_mk]
      refine paren ?_
      have : [c] = [40] := of_decide_eq_true h3
      cases this
      rfl
    walk_at "y"
    rw [eqv_str, cs_mk]
    refine kIfS_of (fun h4 => ?_) fun h4 => ?_
    · walk_at "y"
      refine ⟨by omega, ?_⟩
      rw [empty_mk]
      refine paren ?_
      have : [c] = [41] := of_decide_eq_true h4
      cases this
      rfl
    have hc : isSep c = false := by
      have g : ∀ n, decide (cs (⟨#[c]⟩ : Str) = [n]) = false → c ≠ n := fun n h z => by
        subst z
        exact of_decide_eq_false h rfl
      have := g _ h1
      have := g _ h2
      have := g _ h3
      have := g _ h4
      unfold isSep isPar
      simp [*]
    walk_at "y"
    rw [List.map_append, show List.map dS [w] = [dS w] from rfl, atI_last]
    simp only [dS]
    walk_at "y"
    refine ⟨by rw [len_mk, zl]; show _ + 1 ≤ _; omega, ?_⟩
    rw [List.length_append, List.length_singleton, ixN_last]
    walk_at "y"
    rw [List.set_append_right _ _ (by rw [List.length_map]; exact Nat.le_refl _), Nat.sub_self, sg_mk, dS_app]
    exact other hc
  · rintro env τ' ⟨rfl, y, init, rfl, hi, hn⟩
    rw [List.length_map] at hi hn ⊢
    rw [List.take_length] at hi ⊢
    have hs := hk.1
    rw [str_len] at hs
    unfold wordsL at h
    generalize runW ([], []) (cs s) = st at h hi
    obtain ⟨f, w⟩ := st
    have hi : init.filter (fun w => !decide (w = [])) = f := hi
    have hn : init.length ≤ 2 * (cs s).length := hn
    have fil : (init ++ [w]).filter (fun w => !decide (w = [])) = f ++ flush w := by
      rw [List.filter_append, hi]
      congr 1
      unfold flush
      by_cases hw : w = []
      · simp [hw]
      · simp [hw]
    walk_at "y"
    refine lc_keep (fun w => !decide (w = [])) _ (fun w hw kc k0 z => ?_) (by rw [List.length_append, List.length_singleton, sizeLine_eq]; omega) ?_
    · walk_at "y"
      simp only [dS]
      walk_at "y"
      rw [eqv_str, empty_mk, cs_mk, cs_mk]
      refine kTurn_of (fun h1 => ?_) fun h1 => ?_
      · rw [if_pos h1] at z
        walk_at "y"
        exact z
      · rw [if_neg (by rw [h1]; decide)] at z
        exact z
    · rw [fil]
      walk_at "y"
      exact h

theorem ok__law_next {f : Addr} {fd : FuncData} (T : Txt K mg) (F : Fun K "_law_next" "_law_next" s__law_next f fd) (k__law_mixed : Known P w K mg base theS "_law_mixed" ["_law_cell", "_law_k"] 1 FF__law_mixed) :
    FnOk P w K mg base CX0 2 f fd ["_law_draw", "_law_many"] (spD theS K FF__law_next) := by
  obtain ⟨fM, fdM, GM, gM, kM, bM⟩ := k__law_mixed.ex
  refine F.ok sc__law_next (fun vs H Q E h => ?_) (fun cdv A outer s H vs Q E hr h => ?_)
  · obtain ⟨G, Fp, τ, rs, Qd, Ha, k, r, dr, ⟨a, b, n, e, ht, hn, q⟩, fin⟩ := h
    subst e
    obtain ⟨v, w', e1, _, _⟩ := r.two
    subst e1
    rfl
  · obtain ⟨G, Fp, τ, rs, Qd, Ha, k, r, dr, ⟨a, b, n, e, ht, hn, q⟩, fin⟩ := h
    subst e ht
    obtain ⟨v, w', e1, rv, rw'⟩ := r.two
    have rv : v = .ref a := rv
    have rw' := rint rw'
    subst e1 rv rw'
    have hu := hu_of hr
    obtain ⟨hF, c, cs, i, l, u, hd, hc, hne, h0⟩ := id k.r
    have hcH : SqP K H c (cs.map V.int) := same_sqp k.same hc
    refine ⟨_, pss_cons (ps_if (pt_cmpR op_gt (pe_dget hu (pv 0) pe_str (fun _ _ => rfl)) pe_int (nomark _))
        (pss_cons (ps_set (i := 2) sc__law_next.nd rfl (.inl rfl) (pe_op op_mod (pe_dget hu (pv 0) pe_str (fun _ _ => rfl)) (pv 1)))
        (pss_cons (ps_dput hu (pv 0) pe_str (pe_op op_fdiv (pe_dget hu (pv 0) pe_str (fun _ _ => rfl)) (pv 1)) rfl)
        (pss_one (ps_ret (pv 2))))) pss_nil)
      (pss_cons (ps_set (i := 3) sc__law_next.nd rfl (.inl rfl) (pe_dget hu (pv 0) pe_str (fun _ _ => rfl)))
      (pss_cons (ps_set (i := 4) sc__law_next.nd rfl (.inl rfl) (pe_ix ix_list (pv 3) (pe_op op_mod (pe_dget hu (pv 0) pe_str (fun _ _ => rfl)) (pe_callB call_len_seq (by rfl) T.b_len PySem.boot_len (pa_cons (pv 3) pa_nil))) (fun _ _ => rfl)))
      (pss_cons (ps_dput hu (pv 0) pe_str (pe_op op_add (pe_dget hu (pv 0) pe_str (fun _ _ => rfl)) pe_int) rfl)
      (pss_cons (ps_if (PW.pt (pw_and (pt_cmpR op_ge (pv 4) (pe_op op_pow pe_int pe_int) (nomark _)) (pw_and1 (pt_cmpR op_le (pe_dget hu (pv 0) pe_str (fun _ _ => rfl)) (pe_callB call_len_seq (by rfl) T.b_len PySem.boot_len (pa_cons (pv 3) pa_nil)) (nomark _)))))
        (pss_cons (ps_dput hu (pv 0) pe_str (pe_op op_fdiv (pv 4) (pv 1)) rfl) (pss_one (ps_ret (pe_op op_mod (pv 4) (pv 1))))) pss_nil)
      (pss_cons (ps_dput hu (pv 0) pe_str (pe_op op_add (pe_dget hu (pv 0) pe_str (fun _ _ => rfl)) pe_int) rfl)
      (pss_one (ps_ret (pe_op op_mod (pe_call GM hr (by rfl) gM kM bM .nil pass0 (pa_cons (pe_call GM hr (by rfl) gM kM bM .nil pass0 (pa_cons (pv 4) (pa_cons (pe_dget hu (pv 0) pe_str (fun _ _ => rfl)) pa_nil)))
        (pa_cons (pe_dget hu (pv 0) pe_str (fun _ _ => rfl)) pa_nil))) (pv 1))))))))), ?_⟩
    have gL : DGet H a (.str "left") (some (.int l)) := by
      have z := DGet.k (k := Sum.inr ("left" : Str)) hd
      rw [dr_left] at z
      exact z
    have gA : DGet H a (.str "at") (some (.int i)) := by
      have z := DGet.k (k := Sum.inr ("at" : Str)) hd
      rw [dr_at] at z
      exact z
    have gC : DGet H a (.str "cells") (some (.ref c)) := by
      have z := DGet.k (k := Sum.inr ("cells" : Str)) hd
      rw [dr_cells] at z
      exact z
    have put : ∀ {H' : Hp} {i l u : Int} (x : Str) (z : Int) (K' : List (Key × V)), H' a = some (.dK (drK c i l u)) → putK (drK c i l u) (Sum.inr x) (.int z) = K' → DPut H' a (.str x) (.int z) (upd H' a (.dK K')) := fun {H' i l u} x z K' e ek => by
      have y := DPut.k (k := Sum.inr x) (v := .int z) e (by rw [dr_len]; decide)
      rw [ek] at y
      exact y
    -- if left > 0
    refine ⟨_, rfl, a, _, rfl, gL, _, _, rfl, rfl, _, rfl, ite2 (fun _ => ?_) (fun _ => ?_)⟩
    · refine ⟨_, rfl, a, _, rfl, gL, _, rfl, _, _, rfl, rfl, hn.1, ?_⟩
      refine ⟨_, rfl, a, _, rfl, gL, _, rfl, _, _, rfl, rfl, hn, _, rfl, a, _, rfl, put "left" _ _ hd dr_pleft, _, rfl, ?_⟩
      obtain ⟨k2, st2⟩ := dr_ok (b' := b) (i' := i) (l' := l / n) (u' := u) k hc hne (by omega)
      exact fin (.d (.int (l % n))) (.on a b) G Fp _ _ st2 k2 (Rp.int _) (q _ (Int.emod_nonneg _ (by omega)) (Int.emod_lt_of_pos _ hn.1))
    -- cells; the cell at hand
    refine ⟨_, rfl, a, _, rfl, gC, ?_⟩
    have hlen : 0 < cs.length := List.length_pos_iff.mpr hne
    have hix : (i % (cs.length : Int)).toNat < cs.length := by
      have h1 := Int.emod_nonneg i (show (cs.length : Int) ≠ 0 by omega)
      have h2 := Int.emod_lt_of_pos i (show (0 : Int) < cs.length by omega)
      omega
    have hat : atI (cs.map V.int) (i % (cs.length : Int)) = some (.int cs[(i % (cs.length : Int)).toNat]) := by
      have e : i % (cs.length : Int) = ((i % (cs.length : Int)).toNat : Int) := (Int.toNat_of_nonneg (Int.emod_nonneg i (by omega))).symm
      exact at_of e (by rw [List.getElem?_map, List.getElem?_eq_getElem hix]; rfl)
    refine ⟨_, rfl, _, rfl, a, _, rfl, gA, _, rfl, c, _, rfl, .inl hcH.sql, i, (((cs.map V.int).length : Nat) : Int), rfl, rfl, by rw [List.length_map]; show (0 : Int) < cs.length; omega, c, cs.map V.int, _, _, rfl, rfl, hcH.sql, by rw [List.length_map]; exact hat, ?_⟩
    -- at + 1
    refine ⟨_, rfl, a, _, rfl, gA, _, _, rfl, rfl, _, rfl, a, _, rfl, put "at" _ _ hd dr_pat, ?_⟩
    obtain ⟨k2, st2⟩ := dr_ok (b' := b) (i' := i + 1) (l' := l) (u' := u) k hc hne (by omega)
    generalize cs[(i % (cs.length : Int)).toNat] = cell
    have hcH2 : SqP K (upd H a (.dK (drK c (i + 1) l u))) c (cs.map V.int) := same_sqp k2.same hc
    have gA2 : DGet (upd H a (.dK (drK c (i + 1) l u))) a (.str "at") (some (.int (i + 1))) := by
      have z := DGet.k (k := Sum.inr ("at" : Str)) (show (upd H a (.dK (drK c (i + 1) l u))) a = _ from upd_same)
      rw [dr_at] at z
      exact z
    have gU2 : DGet (upd H a (.dK (drK c (i + 1) l u))) a (.str "used") (some (.int u)) := by
      have z := DGet.k (k := Sum.inr ("used" : Str)) (show (upd H a (.dK (drK c (i + 1) l u))) a = _ from upd_same)
      rw [dr_used] at z
      exact z
    have lastR : ∀ (D : Ends) (σ0 : L2.St), σ0[0]? = some (some (.ref a)) → σ0[1]? = some (some (.int n)) → σ0[4]? = some (some (.int cell)) → (∀ v H', Q v H' → D.rt v H') → tSeq (sDPut (tVar 0) (tC (.str "used")) (tOp (rI0 fun i j => .int (i + j)) (tDGet (tVar 0) (tC (.str "used"))) (tC (.int 1))))
        (tRet (tOp (rI (fun _ j => 0 < j) fun i j => .int (i % j)) (tCall (spD theS K FF__law_mixed) [] E0 (tCons (tCall (spD theS K FF__law_mixed) [] E0 (tCons (tVar 4) (tCons (tDGet (tVar 0) (tC (.str "at"))) tNil))) (tCons (tDGet (tVar 0) (tC (.str "used"))) tNil))) (tVar 1))) D
        σ0 (upd H a (.dK (drK c (i + 1) l u))) := fun D σ0 z0 z1 z4 hD => by
      refine ⟨_, z0, a, _, rfl, gU2, _, _, rfl, rfl, _, z0, a, _, rfl, put "used" _ _ upd_same dr_pused, ?_⟩
      rw [upd_upd]
      obtain ⟨k3, st3⟩ := dr_ok (b' := b) (i' := i + 1) (l' := l) (u' := u + 1) k hc hne (by omega)
      have gA3 : DGet (upd H a (.dK (drK c (i + 1) l (u + 1)))) a (.str "at") (some (.int (i + 1))) := by
        have z := DGet.k (k := Sum.inr ("at" : Str)) (show (upd H a (.dK (drK c (i + 1) l (u + 1)))) a = _ from upd_same)
        rw [dr_at] at z
        exact z
      have fa : Fp a := (hF a).mpr rfl
      refine ⟨_, z4, _, z0, a, _, rfl, gA3, G, Fp, .on a b, [.d (.int cell), .d (.int (i + 1))], fun r τ => (∃ m : Int, 0 ≤ m ∧ r = .d (.int m)) ∧ τ = .on a b, H, k3, .cons (Rp.int _) (.cons (Rp.int _) .nil), rfl, ⟨cell, i + 1, rfl, by omega, fun m hm => ⟨⟨m, hm, rfl⟩, rfl⟩⟩, fun r1 τ4 G4 F4 H4 v4 st4 ok4 res4 q4 => ?_⟩
      obtain ⟨⟨m, hm, e1⟩, e2⟩ := q4
      subst e1 e2
      have e3 := rint res4
      subst e3
      obtain ⟨hF4, c4, cs4, i4, l4, u4, hd4, hc4, hne4, h4⟩ := id ok4.r
      have gU4 : DGet H4 a (.str "used") (some (.int u4)) := by
        have z := DGet.k (k := Sum.inr ("used" : Str)) hd4
        rw [dr_used] at z
        exact z
      refine ⟨_, z0, a, _, rfl, gU4, G4, F4, .on a b, [.d (.int m), .d (.int u4)], fun r τ => (∃ m : Int, 0 ≤ m ∧ r = .d (.int m)) ∧ τ = .on a b, H4, ok4, .cons (Rp.int _) (.cons (Rp.int _) .nil), rfl, ⟨m, u4, rfl, by omega, fun m hm => ⟨⟨m, hm, rfl⟩, rfl⟩⟩, fun r1 τ5 G5 F5 H5 v5 st5 ok5 res5 q5 => ?_⟩
      obtain ⟨⟨m5, hm5, e1⟩, e2⟩ := q5
      subst e1 e2
      have e3 := rint res5
      subst e3
      refine ⟨_, z1, _, _, rfl, rfl, hn.1, hD _ _ ?_⟩
      exact fin (.d (.int (m5 % n))) (.on a b) G5 F5 H5 _ (st3.trans (st4.trans st5)) ok5 (Rp.int _) (q _ (Int.emod_nonneg _ (by omega)) (Int.emod_lt_of_pos _ hn.1))
    refine ⟨_, rfl, _, _, rfl, rfl, (by refine ⟨by decide, by decide, by decide⟩), _, _, rfl, rfl, _, rfl, ite2 (fun _ => ?_) (fun _ => ?_)⟩
    · refine ⟨_, rfl, a, _, rfl, gA2, _, rfl, c, _, rfl, .inl hcH2.sql, _, _, rfl, rfl, _, rfl, ite2 (fun _ => ?_) (fun _ => ?_)⟩
      · refine ⟨_, rfl, _, rfl, _, _, rfl, rfl, hn, _, rfl, a, _, rfl, put "left" _ _ upd_same dr_pleft, _, rfl, _, rfl, _, _, rfl, rfl, hn.1, ?_⟩
        rw [upd_upd]
        obtain ⟨k3, st3⟩ := dr_ok (b' := b) (i' := i + 1) (l' := cell / n) (u' := u) k hc hne (by omega)
        exact fin (.d (.int (cell % n))) (.on a b) G Fp _ _ st3 k3 (Rp.int _) (q _ (Int.emod_nonneg _ (by omega)) (Int.emod_lt_of_pos _ hn.1))
      · exact lastR _ _ rfl rfl rfl fun _ _ h => h
    · exact iteF (lastR _ _ rfl rfl rfl fun _ _ h => h)

theorem ok__law_put {f : Addr} {fd : FuncData} (T : Txt K mg) (F : Fun K "_law_put" "_law_put" s__law_put f fd) (k__law_next : Known P w K mg base theS "_law_next" ["_law_draw", "_law_many"] 2 FF__law_next) :
    FnOk P w K mg base CX0 3 f fd ["_law_draw"] (spD theS K FF__law_put) := by
  refine okDr F sc__law_put (by exact fun _ _ _ ⟨_, _, e, _⟩ => by rw [e]; rfl) (by decide) fun cdv A outer s H E G Fp hr => ⟨_, (dss_cons (ds_set (i := 1) sc__law_put.nd rfl (by first | exact .inl rfl | exact .inr rfl) (de_lst (da_cons de_str (da_cons de_str (da_cons de_str (da_cons de_str (da_cons de_str (da_cons de_str (da_cons de_str (da_cons de_str (da_cons de_str (da_cons de_str (da_cons de_str (da_cons de_str da_nil))))))))))))))
      (dss_cons (ds_setLc (i := 3) (own := [("_law_k", 2)]) rfl sc__law_put.nd rfl rfl (sw_true rfl rfl rfl (by decide +kernel)) (di_range1 (by rfl) T.b_range (da_cons (de_callK rfl k__law_next (hr.mono (by decide)) (by rfl) (da_cons (de_var (pv 0)) (da_cons de_int da_nil))) da_nil)) (blkOk_by (by kernel_rfl)) (by decide) (fun _ _ _ _ _ => (dg_nm (i := 2) sc__law_put.nd rfl (by first | exact .inl rfl | exact .inr rfl))) (fun _ _ _ _ _ => dts_nil) (fun _ _ _ _ _ => (de_ix ix_A (od_ix rfl) (de_var (pv 1)) (de_callK rfl k__law_next (hr.mono (by decide)) (by rfl) (da_cons (de_var (pv 0)) (da_cons de_int da_nil))) (fun _ _ => rfl))))
      (dss_cons (ds_set (i := 4) sc__law_put.nd rfl (by first | exact .inl rfl | exact .inr rfl) (de_ix ix_A (od_ix rfl) (de_lst (da_cons de_str (da_cons de_str (da_cons de_str (da_cons de_str da_nil))))) (de_callK rfl k__law_next (hr.mono (by decide)) (by rfl) (da_cons (de_var (pv 0)) (da_cons de_int da_nil))) (fun _ _ => rfl)))
      (dss_cons (ds_frz (i := 3) (ds_for PassesOwn.never rfl (di_enumerate rfl (by rfl) T.b_enumerate (da_cons (de_var (pv 3)) da_nil)) (dg_tp rfl rfl (dg_cons (dg_nm (i := 2) sc__law_put.nd rfl (by first | exact .inl rfl | exact .inr rfl)) (dg_cons (dg_nm (i := 5) sc__law_put.nd rfl (by first | exact .inl rfl | exact .inr rfl)) dg_nil)))
        (dss_cons (ds_set (i := 6) sc__law_put.nd rfl (by first | exact .inl rfl | exact .inr rfl) (de_or rfl (de_cmp op_inA (od_in rfl) (de_var (pv 5)) (de_tup (da_cons de_str (da_cons de_str da_nil))) (by rfl)) (de_one (de_and rfl (de_cmp op_gtA od_cmp (de_var (pv 2)) de_int (nomark _)) (de_one (de_cmp op_inA (od_in rfl) (de_ix ix_A (od_ix rfl) (de_var (pv 3)) (de_op op_sub od_I0 (de_var (pv 2)) de_int) (fun _ _ => rfl)) (de_tup (da_cons de_str (da_cons de_str da_nil))) (by rfl)))))))
        (dss_cons (ds_set (i := 7) sc__law_put.nd rfl (by first | exact .inl rfl | exact .inr rfl) (de_ix ix_A (od_ix rfl) (de_lst (da_cons de_str (da_cons de_str (da_cons de_str (da_cons (de_ix ix_A (od_ix rfl) (de_lst (da_cons de_str (da_cons de_str da_nil))) (de_callTy call_intA cd_int (by rfl) T.b_int (by decide +kernel) (da_cons (de_not rfl (de_var (pv 6))) da_nil)) (fun _ _ => rfl)) da_nil))))) (de_callK rfl k__law_next (hr.mono (by decide)) (by rfl) (da_cons (de_var (pv 0)) (da_cons de_int da_nil))) (fun _ _ => rfl)))
        (dss_cons (ds_if (dt_cmp op_gtA od_cmp (de_var (pv 2)) de_int (nomark _))
          (dss_one (ds_set (i := 4) sc__law_put.nd rfl (by first | exact .inl rfl | exact .inr rfl) (de_op op_addA (od_add rfl) (de_var (pv 4)) (de_var (pv 7)))))
          dss_nil)
        (dss_one (ds_set (i := 4) sc__law_put.nd rfl (by first | exact .inl rfl | exact .inr rfl) (de_op op_addA (od_add rfl) (de_var (pv 4)) (de_var (pv 5))))))))))
      (dss_one (ds_ret (de_tup (da_cons (de_var (pv 3)) (da_cons (de_op op_addA (od_add rfl) (de_var (pv 4)) (de_ix ix_A (od_ix rfl) (de_lst (da_cons de_str (da_cons de_str (da_cons de_str da_nil)))) (de_callK rfl k__law_next (hr.mono (by decide)) (by rfl) (da_cons (de_var (pv 0)) (da_cons de_int da_nil))) (fun _ _ => rfl))) da_nil))))))))), ?_⟩
  dsimp only [Bk.T, theS]
  rintro rs τ Q ⟨a, b, rfl, rfl, hb, h⟩
  walk_at "y"
  refine next_use (by omega) (by decide) (by decide) fun n n0 n1 => ?_
  walk_at "y"
  refine ⟨⟨by omega, by omega⟩, ?_⟩
  refine lc_inv (fun j acc τ => ∃ ws : List (List Nat), acc = ws.map dS ∧ ws.length = j ∧ (∀ w ∈ ws, plainB w = true) ∧ ∃ b', τ = .on a b' ∧ b ≤ b' + 1 + j) _ _ ⟨[], rfl, rfl, by simp, b - 1, rfl, by omega⟩ ?_ (by rw [rgI_len, sizeLine_eq]; omega) ?_
  · rintro j x acc τ ej ⟨ws, rfl, hl, hc, b', rfl, hb'⟩ ha kc k0 h1 h2
    obtain ⟨hj, rfl⟩ := rgI_get ej
    walk_at "y"
    refine next_use (by omega) (by decide) (by decide) fun r r0 r1 => ?_
    walk_at "y"
    refine kAt_lit (fun x => ∃ w, x = dS w ∧ plainB w = true) ?_ r0 r1 ?_
    · simp only [List.forall_mem_cons]
      refine ⟨?_, ?_, ?_, ?_, ?_, ?_, ?_, ?_, ?_, ?_, ?_, ?_, fun _ h => nomatch h⟩
      all_goals exact ⟨_, dS_cs _, by decide +kernel⟩
    · rintro _ ⟨w, rfl, hw⟩
      walk_at "y"
      refine h1 _ _ ⟨ws ++ [w], by simp, by simp [hl], ?_, b' - 1, rfl, by omega⟩
      intro d hd
      rcases List.mem_append.mp hd with hd | hd
      · exact hc d hd
      · rw [List.mem_singleton] at hd
        rw [hd]
        exact hw
  · rintro acc τ ⟨ws, rfl, hl, hc, b', rfl, hb'⟩
    rw [rgI_len] at hl hb'
    have hl30 : ws.length ≤ 30 := by omega
    walk_at "y"
    refine next_use (by omega) (by decide) (by decide) fun r r0 r1 => ?_
    walk_at "y"
    refine kAt_lit (fun x => ∃ w, x = dS w ∧ (w.all isWh && decide (w.length ≤ 2)) = true) ?_ r0 r1 ?_
    · simp only [List.forall_mem_cons]
      refine ⟨?_, ?_, ?_, ?_, fun _ h => nomatch h⟩
      all_goals exact ⟨_, dS_cs _, by decide +kernel⟩
    rintro _ ⟨w0, rfl, hw0⟩
    rw [Bool.and_eq_true, decide_eq_true_eq] at hw0
    simp only [dS]
    walk_at "y"
    have wh_lt : ∀ g : List Nat, g.all isWh = true → ∀ c ∈ g, c < 1114112 := fun g hg c hc => by
      have := List.all_eq_true.mp hg c hc
      unfold isWh at this
      rw [Bool.or_eq_true, decide_eq_true_eq, decide_eq_true_eq] at this
      omega
    have w0e : endW (runW ([], []) w0) = [] := by
      rw [end_wh _ _ hw0.1]
      rfl
    have w0z : (runW ([], []) w0).2 = [] := by
      rw [run_wh _ _ hw0.1]
      split <;> rfl
    refine for_inv (fun j env τ => ∃ (x1 x2 x5 x6 x7 : SV) (t : List Nat) (b1 : Nat), env = [SV.raw (V.ref a), x1, x2, SV.d (.list (ws.map dS)), SV.d (.str (mkS t)), x5, x6, x7] ∧ τ = .on a b1 ∧ b' ≤ b1 + 1 + j ∧ t.length ≤ 2 + 7 * j ∧ (∀ c ∈ t, c < 1114112) ∧
      endW (runW ([], []) t) = ws.take j ∧ ((j = 0 ∨ ∃ v, ws[j - 1]? = some v ∧ parB v = true) → (runW ([], []) t).2 = [])) _ _ _ ⟨_, _, _, _, _, w0, b' - 1, rfl, rfl, by omega, by omega, wh_lt w0 hw0.1, by rw [w0e]; rfl, fun _ => w0z⟩ ?_ ?_
    · rintro j x env τ ej ⟨x1, x2, x5, x6, x7, t, b1, rfl, rfl, hb1, ht, htc, he, hz⟩ kn hkn
      obtain ⟨y, ey, rfl⟩ := enum_get ej
      rw [List.getElem?_map] at ey
      cases ew : ws[j]? with
      | none => rw [ew] at ey; cases ey
      | some w =>
        rw [ew] at ey
        cases ey
        have hj : j < ws.length := (List.getElem?_eq_some_iff.mp ew).1
        have hw := hc w (List.mem_of_getElem? ew)
        have hwz := plain_sz hw
        simp only [tgE, tgEs, Option.bind_some, kFtB_1, dSeq_k, dSet_k, List.set_cons_succ, List.set_cons_zero]
        refine tight_k (w := w) (ws := ws) (j := j) rfl rfl rfl (by omega) fun tight hti => ?_
        have hti : tight = true → parB w = true ∨ j = 0 ∨ ∃ v, ws[j - 1]? = some v ∧ parB v = true := fun e => (hti e).imp id fun h => .inr h.2
        simp only [dS]
        walk_at "y"
        have gap : ∀ (g : List Nat) (b2 : Nat), g.all isWh = true → g.length ≤ 3 → (g ≠ [] ∨ tight = true) → b1 ≤ b2 + 1 → kn [SV.raw (V.ref a), x1, SV.d (.int (j : Int)), SV.d (.list (ws.map dS)), SV.d (.str (mkS (t ++ ((if j = 0 then [] else g) ++ w)))), SV.d (.str (mkS w)), SV.d (.bool tight), SV.d (.str (mkS g))] (.on a b2) := fun g b2 hg hgl hgt hb2 => by
          have hg' : (if j = 0 then [] else g).all isWh = true := by split; rfl; exact hg
          have st := put_step (g := if j = 0 then [] else g) hw he hz ew hg' (by
            by_cases j0 : j = 0
            · exact .inr (.inr (.inl j0))
            · rw [if_neg j0]
              exact hgt.imp id hti)
          rw [← run_app] at st
          have hl2 : (if j = 0 then [] else g).length ≤ 3 := by split; exact Nat.zero_le _; exact hgl
          refine hkn _ _ ⟨_, _, _, _, _, t ++ ((if j = 0 then [] else g) ++ w), b2, rfl, rfl, by omega, by rw [List.length_append, List.length_append]; omega, fun c hc => ?_, st.1, fun z => ?_⟩
          · rcases List.mem_append.mp hc with hc | hc
            · exact htc c hc
            · rcases List.mem_append.mp hc with hc | hc
              · exact wh_lt _ hg' c hc
              · exact hwz.2 c hc
          · refine st.2 ?_
            rcases z with z | ⟨v, ev, hv⟩
            · omega
            · rw [Nat.add_sub_cancel, ew] at ev
              cases ev
              exact hv
        have zl := sizeLine_eq
        have inner : ∀ (i : Int), i = (if (!tight) = true then 1 else 0) → ∀ {Q : SV → Prop}, (∀ g : List Nat, g.all isWh = true → g.length ≤ 3 → (g ≠ [] ∨ tight = true) → Q (.d (.str (mkS g)))) → kAt Q (atI [PyData.str (Str.ofString ""), PyData.str (Str.ofString " ")] i) := fun i ei Q hQ => by
          cases tight with
          | true =>
            subst ei
            exact Eq.mpr (by rw [empty_mk]; rfl) (hQ [] rfl (by decide) (.inr rfl))
          | false =>
            subst ei
            have sp : (Str.ofString " ") = mkS [32] := str_ext (by decide +kernel)
            exact Eq.mpr (by rw [sp]; rfl) (hQ [32] rfl (by decide) (.inl (by decide)))
        refine inner _ rfl fun g3 h31 h32 h33 => ?_
        walk_at "y"
        refine next_use (by omega) (by decide) (by decide) fun r r0 r1 => ?_
        walk_at "y"
        refine kAt_lit (fun x => ∃ g, x = .str (mkS g) ∧ g.all isWh = true ∧ g.length ≤ 3 ∧ (g ≠ [] ∨ tight = true)) ?_ r0 r1 ?_
        · simp only [List.forall_mem_cons]
          refine ⟨?_, ?_, ?_, ⟨g3, rfl, h31, h32, h33⟩, fun _ h => nomatch h⟩
          all_goals exact ⟨_, dS_cs _, by decide +kernel, by decide +kernel, .inl (by decide +kernel)⟩
        rintro _ ⟨g, rfl, hg, hgl, hgt⟩
        have gp := gap g (b1 - 1) hg hgl hgt (by omega)
        walk_at "y"
        refine kIfS_of (fun k0 => ?_) fun k0 => ?_
        · have k0 : 0 < (j : Int) := of_decide_eq_true k0
          rw [if_neg (by omega)] at gp
          walk_at "y"
          rw [len_mk, len_mk, dS_app, len_mk, len_mk, dS_app, List.append_assoc]
          exact ⟨by rw [zl]; omega, by rw [zl, List.length_append]; have := hwz.1; omega, gp⟩
        · have k0 : ¬ 0 < (j : Int) := of_decide_eq_false k0
          rw [if_pos (by omega), List.nil_append] at gp
          walk_at "y"
          rw [len_mk, len_mk, dS_app]
          exact ⟨by rw [zl]; have := hwz.1; omega, gp⟩
    · rintro env τ ⟨x1, x2, x5, x6, x7, t, b1, rfl, rfl, hb1, ht, htc, he, hz⟩
      rw [enum_len, List.length_map] at hb1 ht he
      rw [List.take_length] at he
      walk_at "y"
      refine next_use (by omega) (by decide) (by decide) fun r r0 r1 => ?_
      walk_at "y"
      refine kAt_lit (fun x => ∃ w, x = dS w ∧ (w.all isWh && decide (w.length ≤ 2)) = true) ?_ r0 r1 ?_
      · simp only [List.forall_mem_cons]
        refine ⟨?_, ?_, ?_, fun _ h => nomatch h⟩
        all_goals exact ⟨_, dS_cs _, by decide +kernel⟩
      rintro _ ⟨w1, rfl, hw1⟩
      rw [Bool.and_eq_true, decide_eq_true_eq] at hw1
      simp only [dS]
      walk_at "y"
      rw [len_mk, len_mk, dS_app]
      refine ⟨by rw [sizeLine_eq]; omega, ?_⟩
      refine h ws _ _ ?_ ?_ (by omega)
      · refine okN.mk (by rw [List.length_append]; omega) fun c hc => ?_
        rcases List.mem_append.mp hc with hc | hc
        · exact htc c hc
        · exact wh_lt _ hw1.1 c hc
      · rw [cs_mk]
        unfold wordsL
        rw [run_app, end_wh _ _ hw1.1]
        exact he
theorem ok_law {f : Addr} {fd : FuncData} (T : Txt K mg) (F : Fun K "law" "law" s_law f fd) (k__law_begin : Known P w K mg base theS "_law_begin" ["_law_script"] 1 FF__law_begin) (k__law_put : Known P w K mg base theS "_law_put" ["_law_draw"] 3 FF__law_put) (k__law_next : Known P w K mg base theS "_law_next" ["_law_draw", "_law_many"] 2 FF__law_next) (k__law_parted : Known P w K mg base theS "_law_parted" ["_law_text"] 1 FF__law_parted) (k_words_of : Known P w K mg base theS "words_of" ["text"] 1 FF_words_of) :
    FnOk P w K mg base CX0 4 f fd ["_law_script"] (spD theS K FF_law) := by
  refine okDr F sc_law (by exact fun _ _ _ ⟨_, e, _⟩ => by rw [e]; rfl) (by decide) fun cdv A outer s H E G Fp hr => ⟨_, (dss_cons (ds_set (i := 1) sc_law.nd rfl (by first | exact .inl rfl | exact .inr rfl) (de_callK rfl k__law_begin (hr.mono (by decide)) (by rfl) (da_cons (de_var (pv 0)) da_nil)))
      (dss_cons (ds_for PassesOwn.never rfl (di_range1 (by rfl) T.b_range (da_cons (de_op op_addA (od_add rfl) (de_callB (call_min2 rfl) cd_II (by rfl) T.b_min (by decide +kernel) (da_cons de_int (da_cons (de_callB call_len (cd_len rfl) (by rfl) T.b_len (by decide +kernel) (da_cons (de_var (pv 0)) da_nil)) da_nil))) de_int) da_nil)) (dg_nm (i := 2) sc_law.nd rfl (by first | exact .inl rfl | exact .inr rfl))
        (dss_cons (ds_asg (de_callK rfl k__law_put (hr.mono (by decide)) (by rfl) (da_cons (de_var (pv 1)) da_nil)) (dg_tp rfl rfl (dg_cons (dg_nm (i := 3) sc_law.nd rfl (by first | exact .inl rfl | exact .inr rfl)) (dg_cons (dg_nm (i := 4) sc_law.nd rfl (by first | exact .inl rfl | exact .inr rfl)) dg_nil))))
        (dss_cons (ds_set (i := 6) sc_law.nd rfl (by first | exact .inl rfl | exact .inr rfl) (de_m1 (pe_join de_str (de_lc (own := [("_law_turn", 5)]) rfl sc_law.nd (di_range1 (by rfl) T.b_range (da_cons (de_callK rfl k__law_next (hr.mono (by decide)) (by rfl) (da_cons (de_var (pv 1)) (da_cons de_int da_nil))) da_nil)) (blkOk_by (by kernel_rfl)) (by decide) (fun _ _ _ _ _ => (dg_nm (i := 5) sc_law.nd rfl (by first | exact .inl rfl | exact .inr rfl))) (fun _ _ _ _ _ => dts_nil) (fun _ _ _ _ _ => (de_ix ix_A (od_ix rfl) de_str (de_callK rfl k__law_next (hr.mono (by decide)) (by rfl) (da_cons (de_var (pv 1)) (da_cons de_int da_nil))) (fun _ _ => rfl))))) (od_join rfl)))
        (dss_one (ds_for PassesOwn.never rfl (di_seq rfl (de_tup (da_cons (de_tup (da_cons (de_var (pv 3)) (da_cons (de_var (pv 4)) da_nil))) (da_cons (de_tup (da_cons (de_callK rfl k__law_parted (hr.mono (by decide)) (by rfl) (da_cons (de_var (pv 6)) da_nil)) (da_cons (de_var (pv 6)) da_nil))) da_nil)))) (dg_tp rfl rfl (dg_cons (dg_nm (i := 7) sc_law.nd rfl (by first | exact .inl rfl | exact .inr rfl)) (dg_cons (dg_nm (i := 8) sc_law.nd rfl (by first | exact .inl rfl | exact .inr rfl)) dg_nil)))
          (dss_one (ds_for PassesOwn.never rfl (di_range1 (by rfl) T.b_range (da_cons de_int da_nil)) (dg_nm (i := 5) sc_law.nd rfl (by first | exact .inl rfl | exact .inr rfl))
            (dss_cons (ds_set (i := 9) sc_law.nd rfl (by first | exact .inl rfl | exact .inr rfl) (de_callK rfl k_words_of (hr.mono (by decide)) (by rfl) (da_cons (de_var (pv 8)) da_nil)))
            (dss_cons (ds_if (dt_w (dw_or (dt_not (dt_tru rfl (de_callB call_isi (cd_isi rfl) (by rfl) T.b_isinstance (by decide +kernel) (da_cons (de_var (pv 9)) (da_cons (de_ty (n := "list") (by rfl) T.b_list (by decide +kernel)) da_nil))))) (dw_or1 (dt_cmp (op_neA hr.units) (od_ne rfl) (de_var (pv 9)) (de_var (pv 7)) (nomark _)))))
              (dss_one (ds_ret de_bl))
              dss_nil)
            (dss_one (ds_app (ps_expr (pe_bm PySem.F.plainAttrs_list PySem.F.slot_list_append PySem.F.type_list_append mt_append (pv 9) (pa_cons de_str pa_nil))))))))))))))
      (dss_one (ds_ret (de_and rfl (de_cmp (op_eqA hr.units) (od_eq rfl) (de_callK rfl k_words_of (hr.mono (by decide)) (by rfl) (da_cons de_str da_nil)) (de_lst da_nil) (nomark _)) (de_one (de_cmp (op_eqA hr.units) (od_eq rfl) (de_callK rfl k_words_of (hr.mono (by decide)) (by rfl) (da_cons (de_op op_mulB (od_mulB rfl) de_str de_int) da_nil)) (de_op op_mulB (od_mulB rfl) (de_lst (da_cons de_str da_nil)) de_int) (nomark _)))))))), ?_⟩
  dsimp only [Bk.T, theS]
  rintro rs τ Q ⟨ns, rfl, hns, rfl, h⟩
  walk_at "y"
  refine ⟨ns, rfl, hns, rfl, fun a => ?_⟩
  walk_at "y"
  have hL : ((ns.map PyData.int).length : Int) ≤ 63 := by rw [List.length_map]; omega
  have hM : (if ((ns.map PyData.int).length : Int) < 40 then ((ns.map PyData.int).length : Int) else 40) ≤ 40 ∧ 0 ≤ (if ((ns.map PyData.int).length : Int) < 40 then ((ns.map PyData.int).length : Int) else 40) := by split <;> omega
  generalize (if ((ns.map PyData.int).length : Int) < 40 then ((ns.map PyData.int).length : Int) else 40) = m at hM
  refine ⟨⟨by omega, by omega⟩, ?_⟩
  refine for_inv (fun j env τ => (∃ x2 x3 x4 x5 x6 x7 x8 x9, env = [SV.d (PyData.list (List.map PyData.int ns)), SV.raw (V.ref a), x2, x3, x4, x5, x6, x7, x8, x9]) ∧ ∃ b', τ = .on a b' ∧ 1152921504606846976 ≤ b' + 300 * j) _ _ _ ⟨⟨_, _, _, _, _, _, _, _, rfl⟩, _, rfl, by omega⟩ ?_ ?_
  · rintro j x env τ ej ⟨⟨x2, x3, x4, x5, x6, x7, x8, x9, rfl⟩, b', rfl, hb⟩ kn hkn
    obtain ⟨hj, rfl⟩ := rgI_get ej
    have hj : j ≤ 64 := by omega
    walk_at "y"
    refine ⟨_, b', rfl, rfl, by omega, fun ws txt b1 ht hws hb1 => ?_⟩
    subst hws
    walk_at "y"
    refine next_use (by omega) (by decide) (by decide) fun n n0 n1 => ?_
    walk_at "y"
    refine ⟨⟨by omega, by omega⟩, ?_⟩
    refine lc_inv (fun j acc τ => ∃ l : List Nat, acc = l.map sg ∧ l.length = j ∧ (∀ c ∈ l, c < 1114112) ∧ ∃ b'', τ = .on a b'' ∧ b1 ≤ b'' + 1 + j) _ _ ⟨[], rfl, rfl, by simp, b1 - 1, rfl, by omega⟩ ?_ (by rw [rgI_len, sizeLine_eq]; omega) ?_
    · rintro j x acc τ ej ⟨l, rfl, hl, hc, b', rfl, hb'⟩ ha kc k0 h1 h2
      obtain ⟨hj, rfl⟩ := rgI_get ej
      walk_at "y"
      refine next_use (by omega) (by decide) (by decide) fun r r0 r1 => ?_
      walk_at "y"
      refine ⟨by decide +kernel, kAtS_lit 10 (by decide +kernel) (by decide +kernel) r0 r1 fun c hc' => ?_⟩
      walk_at "y"
      refine h1 _ _ ⟨l ++ [c], by simp, by simp [hl], ?_, b' - 1, rfl, by omega⟩
      intro d hd
      rcases List.mem_append.mp hd with hd | hd
      · exact hc d hd
      · rw [List.mem_singleton] at hd
        omega
    · rintro acc τ ⟨l, rfl, hl, hc, b2, rfl, hb2⟩
      rw [rgI_len] at hl hb2
      walk_at "y"
      rw [strs_sg]
      walk_at "y"
      rw [sum_sg, join_sg]
      have hL : okN 20 (mkS l) := okN.mk (by omega) hc
      generalize mkS l = F at hL
      refine ⟨by rw [List.length_map, show (Str.ofString "").length = 0 by decide +kernel]; omega, ?_⟩
      refine ⟨F, rfl, hL.le (by decide), ?_⟩
      walk_at "y"
      refine for_inv (fun i env τ => (∃ x5 x7 x8 x9, env = [SV.d (PyData.list (List.map PyData.int ns)), SV.raw (V.ref a), SV.d (PyData.int (0 + (j : Int))), SV.d (.list ((wordsL (cs txt)).map dS)), SV.d (.str txt), x5, SV.d (.str F), x7, x8, x9]) ∧ τ = DrT.on a b2) _ _ _ ⟨⟨_, _, _, _, rfl⟩, rfl⟩ ?_ ?_
      · rintro i x env τ ei ⟨⟨x5, x7, x8, x9, rfl⟩, rfl⟩ kn2 hkn2
        have hx : ∃ s, x = .tuple [.list ((wordsL (cs s)).map dS), .str s] ∧ okN 50000 s := by
          have := List.mem_of_getElem? ei
          simp only [List.mem_cons, List.not_mem_nil, or_false] at this
          rcases this with rfl | rfl
          · exact ⟨_, rfl, ht⟩
          · exact ⟨_, rfl, hL.le (by decide)⟩
        obtain ⟨s, rfl, hs⟩ := hx
        walk_at "y"
        refine ⟨by decide, ?_⟩
        refine for_inv (fun i env τ => (∃ x5 x9, env = [SV.d (PyData.list (List.map PyData.int ns)), SV.raw (V.ref a), SV.d (PyData.int (0 + (j : Int))), SV.d (.list ((wordsL (cs txt)).map dS)), SV.d (.str txt), x5, SV.d (.str F), SV.d (.list ((wordsL (cs s)).map dS)), SV.d (.str s), x9]) ∧ τ = DrT.on a b2) _ _ _ ⟨⟨_, _, rfl⟩, rfl⟩ ?_ ?_
        · rintro i x env τ ei ⟨⟨x5, x9, rfl⟩, rfl⟩ kn3 hkn3
          have hsl : (cs s).length ≤ 50000 := by rw [← str_len]; exact hs.1
          have hwl := words_len (cs s)
          have hwz := words_sz hsl hs.2
          walk_at "y"
          refine ⟨s, rfl, hs.ok (by decide), ?_⟩
          walk_at "y"
          rw [eqOk_dSs hwz hwz, eqv_dSs]
          walk_at "y"
          exact ⟨by rw [List.length_map, sizeLine_eq]; omega, hkn3 _ _ ⟨⟨_, _, rfl⟩, rfl⟩⟩
        · rintro env τ ⟨⟨x5, x9, rfl⟩, rfl⟩
          walk_at "y"
          exact hkn2 _ _ ⟨⟨_, _, _, _, rfl⟩, rfl⟩
      · rintro env τ ⟨⟨x5, x7, x8, x9, rfl⟩, rfl⟩
        walk_at "y"
        exact hkn _ _ ⟨⟨_, _, _, _, _, _, _, _, rfl⟩, _, rfl, by omega⟩
  · rintro env τ ⟨⟨x2, x3, x4, x5, x6, x7, x8, x9, rfl⟩, b', rfl, hb⟩
    walk_at "y"
    have e0 : wordsL (cs (Str.ofString "")) = [] := by
      rw [empty_mk]
      rfl
    refine ⟨_, rfl, okN.ok (n := 0) (okN_b (by decide +kernel)) (by decide), ?_⟩
    rw [e0]
    walk_at "y"
    have ee : eqOk (.list []) (.list []) = true := by decide +kernel
    rw [ee, show PyData.eqv (.list []) (.list []) = true by simp [PyData.eqv, PyData.eqvAll]]
    walk_at "y"
    have hp : okN 1 (Str.ofString "(") := okN_b (by decide +kernel)
    have hp40 : Str.ofString "(" = mkS [40] := str_ext (by decide +kernel)
    have h3 := hp.rep (Int.toNat 3000)
    have c3 : cs (strRep (Str.ofString "(") (Int.toNat 3000)) = List.replicate 3000 40 := by
      rw [cs_rep, hp40, cs_mk, rep_one]
      rfl
    generalize strRep (Str.ofString "(") (Int.toNat 3000) = S3 at h3 c3 ⊢
    refine ⟨by refine ⟨by decide, by decide, by decide +kernel, by decide +kernel⟩, h3.sz (by decide), ?_⟩
    refine ⟨S3, rfl, h3.ok (by decide), ?_⟩
    rw [c3, wordsL_40]
    have sz : ∀ w ∈ List.replicate 3000 [40], w.length ≤ 100000 ∧ ∀ c ∈ w, c < 1114112 := fun w hw => by
      rw [(List.mem_replicate.mp hw).2]
      decide
    have fl : (List.replicate (Int.toNat 3000) [dS [40]]).flatten = (List.replicate 3000 [40]).map dS := by
      rw [List.map_replicate]
      exact repL _ _
    generalize List.replicate 3000 [40] = L3 at sz fl ⊢
    walk_at "y"
    refine gMulA_ol ⟨by decide, by rw [sizeLine_eq]; decide, ?_⟩
    rw [show [PyData.str (Str.ofString "(")] = [dS [40]] by rw [hp40]; rfl, fl]
    walk_at "y"
    rw [eqOk_dSs sz sz, eqv_dSs]
    walk_at "y"
    exact h _
end
theorem all_mk {l : PySem.W.OpenLaw} {w : World} {K : PySem.W.Frag} {h : Heap} {mg : Str → Option Value} {fa f0 f1 f2 f3 f4 f5 f6 : Addr} (X : K.In h) (G : h.Ns mainGlobals mg) (hfa : mg "law" = some (.ref fa))
    {od0 an0 od1 an1 od2 an2 od3 an3 od4 an4 od5 an5 od6 an6 : Option Addr} {sl0 sl1 sl2 sl3 sl4 sl5 sl6 : Array (Option Value)}
    {oc0 kV0 dc0 pm0 cd0 ct0 oc1 kV1 dc1 pm1 cd1 ct1 oc2 kV2 dc2 pm2 cd2 ct2 oc3 kV3 dc3 pm3 cd3 ct3 oc4 kV4 dc4 pm4 cd4 ct4 oc5 kV5 dc5 pm5 cd5 ct5 oc6 kV6 dc6 pm6 cd6 ct6 : Value}
    (a0 : PySem.W.nsIn K mainGlobals "words_of" = some (some (.ref f0))) (l0 : K.lookup f0 = some ⟨oc0, od0, .func (PySem.W.fnOf "words_of" "words_of" (defArgs s_words_of) (defBody s_words_of) (defScope s_words_of) .none kV0 dc0 pm0 an0 cd0 ct0), sl0⟩) (c0 : PySem.W.codeIn K cd0 "words_of" = true) (k0 : PySem.W.keepIn K (.ref f0) = true)
    (a1 : PySem.W.nsIn K mainGlobals "_law_begin" = some (some (.ref f1))) (l1 : K.lookup f1 = some ⟨oc1, od1, .func (PySem.W.fnOf "_law_begin" "_law_begin" (defArgs s__law_begin) (defBody s__law_begin) (defScope s__law_begin) .none kV1 dc1 pm1 an1 cd1 ct1), sl1⟩) (c1 : PySem.W.codeIn K cd1 "_law_begin" = true) (k1 : PySem.W.keepIn K (.ref f1) = true)
    (a2 : PySem.W.nsIn K mainGlobals "_law_mixed" = some (some (.ref f2))) (l2 : K.lookup f2 = some ⟨oc2, od2, .func (PySem.W.fnOf "_law_mixed" "_law_mixed" (defArgs s__law_mixed) (defBody s__law_mixed) (defScope s__law_mixed) .none kV2 dc2 pm2 an2 cd2 ct2), sl2⟩) (c2 : PySem.W.codeIn K cd2 "_law_mixed" = true) (k2 : PySem.W.keepIn K (.ref f2) = true)
    (a3 : PySem.W.nsIn K mainGlobals "_law_next" = some (some (.ref f3))) (l3 : K.lookup f3 = some ⟨oc3, od3, .func (PySem.W.fnOf "_law_next" "_law_next" (defArgs s__law_next) (defBody s__law_next) (defScope s__law_next) .none kV3 dc3 pm3 an3 cd3 ct3), sl3⟩) (c3 : PySem.W.codeIn K cd3 "_law_next" = true) (k3 : PySem.W.keepIn K (.ref f3) = true)
    (a4 : PySem.W.nsIn K mainGlobals "_law_put" = some (some (.ref f4))) (l4 : K.lookup f4 = some ⟨oc4, od4, .func (PySem.W.fnOf "_law_put" "_law_put" (defArgs s__law_put) (defBody s__law_put) (defScope s__law_put) .none kV4 dc4 pm4 an4 cd4 ct4), sl4⟩) (c4 : PySem.W.codeIn K cd4 "_law_put" = true) (k4 : PySem.W.keepIn K (.ref f4) = true)
    (a5 : PySem.W.nsIn K mainGlobals "_law_parted" = some (some (.ref f5))) (l5 : K.lookup f5 = some ⟨oc5, od5, .func (PySem.W.fnOf "_law_parted" "_law_parted" (defArgs s__law_parted) (defBody s__law_parted) (defScope s__law_parted) .none kV5 dc5 pm5 an5 cd5 ct5), sl5⟩) (c5 : PySem.W.codeIn K cd5 "_law_parted" = true) (k5 : PySem.W.keepIn K (.ref f5) = true)
    (a6 : PySem.W.nsIn K mainGlobals "law" = some (some (.ref f6))) (l6 : K.lookup f6 = some ⟨oc6, od6, .func (PySem.W.fnOf "law" "law" (defArgs s_law) (defBody s_law) (defScope s_law) .none kV6 dc6 pm6 an6 cd6 ct6), sl6⟩) (c6 : PySem.W.codeIn K cd6 "law" = true) (k6 : PySem.W.keepIn K (.ref f6) = true)
    (zb_len : PySem.W.nsIn K mainGlobals "len" = some none)
    (zb_range : PySem.W.nsIn K mainGlobals "range" = some none)
    (zb_enumerate : PySem.W.nsIn K mainGlobals "enumerate" = some none)
    (zb_int : PySem.W.nsIn K mainGlobals "int" = some none)
    (zb_min : PySem.W.nsIn K mainGlobals "min" = some none)
    (zb_isinstance : PySem.W.nsIn K mainGlobals "isinstance" = some none)
    (zb_list : PySem.W.nsIn K mainGlobals "list" = some none)
    : ∃ fd : FuncData, (∀ (s : Shared) (v : Value), BindsTo s fd ⟨[v], []⟩ [("_law_script", v)]) ∧ ∀ base : Heap, K.In base → base.Ns mainGlobals mg → FnOk l.prog w K mg base CX0 4 fa fd ["_law_script"] (spD theS K FF_law) := by
  have e := hfa.symm.trans (PySem.W.mg_of X G a6)
  cases e
  have T : Txt K mg := ⟨PySem.W.mg_none_of X G zb_len, PySem.W.mg_none_of X G zb_range, PySem.W.mg_none_of X G zb_enumerate, PySem.W.mg_none_of X G zb_int, PySem.W.mg_none_of X G zb_min, PySem.W.mg_none_of X G zb_isinstance, PySem.W.mg_none_of X G zb_list⟩
  have F0 := fun_mk (st := s_words_of) l0 c0 k0
  have b0 := F0.binds (ps := ["text"]) fun _ _ _ _ _ _ us hl => match us, hl with | [_], _ => rfl
  have F1 := fun_mk (st := s__law_begin) l1 c1 k1
  have b1 := F1.binds (ps := ["_law_script"]) fun _ _ _ _ _ _ us hl => match us, hl with | [_], _ => rfl
  have F2 := fun_mk (st := s__law_mixed) l2 c2 k2
  have b2 := F2.binds (ps := ["_law_cell", "_law_k"]) fun _ _ _ _ _ _ us hl => match us, hl with | [_, _], _ => rfl
  have F3 := fun_mk (st := s__law_next) l3 c3 k3
  have b3 := F3.binds (ps := ["_law_draw", "_law_many"]) fun _ _ _ _ _ _ us hl => match us, hl with | [_, _], _ => rfl
  have F4 := fun_mk (st := s__law_put) l4 c4 k4
  have b4 := F4.binds (ps := ["_law_draw"]) fun _ _ _ _ _ _ us hl => match us, hl with | [_], _ => rfl
  have F5 := fun_mk (st := s__law_parted) l5 c5 k5
  have b5 := F5.binds (ps := ["_law_text"]) fun _ _ _ _ _ _ us hl => match us, hl with | [_], _ => rfl
  have F6 := fun_mk (st := s_law) l6 c6 k6
  have b6 := F6.binds (ps := ["_law_script"]) fun _ _ _ _ _ _ us hl => match us, hl with | [_], _ => rfl
  refine ⟨PySem.W.fnOf "law" "law" (defArgs s_law) (defBody s_law) (defScope s_law) .none kV6 dc6 pm6 an6 cd6 ct6, fun s v => .of_eq rfl, fun base _ _ => ?_⟩
  have q0 : Known l.prog w K mg base theS "words_of" ["text"] 1 FF_words_of := ⟨f0, _, ok_words_of T F0 , PySem.W.mg_of X G a0, k0, b0⟩
  have q1 : Known l.prog w K mg base theS "_law_begin" ["_law_script"] 1 FF__law_begin := ⟨f1, _, ok__law_begin T F1, PySem.W.mg_of X G a1, k1, b1⟩
  have q2 : Known l.prog w K mg base theS "_law_mixed" ["_law_cell", "_law_k"] 1 FF__law_mixed := ⟨f2, _, ok__law_mixed T F2 , PySem.W.mg_of X G a2, k2, b2⟩
  have q5 : Known l.prog w K mg base theS "_law_parted" ["_law_text"] 1 FF__law_parted := ⟨f5, _, ok__law_parted T F5 , PySem.W.mg_of X G a5, k5, b5⟩
  have q3 : Known l.prog w K mg base theS "_law_next" ["_law_draw", "_law_many"] 2 FF__law_next := ⟨f3, _, ok__law_next T F3 q2, PySem.W.mg_of X G a3, k3, b3⟩
  have q4 : Known l.prog w K mg base theS "_law_put" ["_law_draw"] 3 FF__law_put := ⟨f4, _, ok__law_put T F4 q3, PySem.W.mg_of X G a4, k4, b4⟩
  exact ok_law T F6 q1 q4 q3 q5 q0

end Z
open PySem PySem.W PyProof.Rows
set_option maxHeartbeats 0 in
theorem PySem.Challenge.cw_rowkinds_k03_words_of_texts_holds : PySem.Challenge.rw_rowkinds_k03_words_of_texts.Holds := by
  w_on; o_law; k_head; (case hw => w_witness2)
  k_fill
  refine Z.walk_ofZ (l := PySem.Challenge.rw_rowkinds_k03_words_of_texts) (k := 4) (x := "_law_script") rfl rfl ⟨rfl, by decide, by decide⟩ (fun w h Y => PySem.W.kIn_of Y) ?F
  case F =>
    intro w mg fa h KX G hmg
    refine' Z.all_mk KX G hmg ?a0 ?l0 ?c0 ?k0 ?a1 ?l1 ?c1 ?k1 ?a2 ?l2 ?c2 ?k2 ?a3 ?l3 ?c3 ?k3 ?a4 ?l4 ?c4 ?k4 ?a5 ?l5 ?c5 ?k5 ?a6 ?l6 ?c6 ?k6 ?zb_len ?zb_range ?zb_enumerate ?zb_int ?zb_min ?zb_isinstance ?zb_list
    (case a0 => k_is)
    (case l0 => k_is)
    (case c0 => k_is)
    (case k0 => k_is)
    (case a1 => k_is)
    (case l1 => k_is)
    (case c1 => k_is)
    (case k1 => k_is)
    (case a2 => k_is)
    (case l2 => k_is)
    (case c2 => k_is)
    (case k2 => k_is)
    (case a3 => k_is)
    (case l3 => k_is)
    (case c3 => k_is)
    (case k3 => k_is)
    (case a4 => k_is)
    (case l4 => k_is)
    (case c4 => k_is)
    (case k4 => k_is)
    (case a5 => k_is)
    (case l5 => k_is)
    (case c5 => k_is)
    (case k5 => k_is)
    (case a6 => k_is)
    (case l6 => k_is)
    (case c6 => k_is)
    (case k6 => k_is)
    (case zb_len => k_is)
    (case zb_range => k_is)
    (case zb_enumerate => k_is)
    (case zb_int => k_is)
    (case zb_min => k_is)
    (case zb_isinstance => k_is)
    (case zb_list => k_is)

