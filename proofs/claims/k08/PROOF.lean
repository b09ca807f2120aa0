import PyProof.Rows.All
import Wide.All
import OpenK.AllK
import Wide.FinOn
import HandS.ForMost
import HandS.ForExc
import HandS.IsInst
import HandS.Walk
import HandS.Zip
import HandS.Wide
import HandS.Flow
import HandS.TupAny
import HandS.TupMul
import HandS.Style
import HandS.Strs
import HandS.More
import HandS.Conv
import HandS.TupLe
import HandS.Replace
import HandS.FStr
import HandS.Lambda
import HandS.EndTab
import HandS.EndBits
import HandS.OwnEq
import HandS.ExcIs
import KE.GoesMore
import KE.GoesEnum
import HandS.SetFor
import PyProof.Rows.SortShellAny
import KE.KRevSl
import HandS.SortInts
import KE.DatumOrd
import KE.KDictDisplayH
import HandS.ReplaceList
import HandS.ReplaceLit
import HandS.Deep
import PyProof.MaxThree
import HandS.Defaults
import PySem.Challenge.RW_stampedrows_k08_fewest
set_option Elab.async false
set_option linter.all false
set_option maxRecDepth 100000
set_option maxHeartbeats 4000000
/-! DL: a data-level semantics over the hand layer. -/
namespace DL
open PySem L2

/-- plain data: what a value is worth -/
inductive D where
  | non
  | bl (b : Bool)
  | int (i : Int)
  | str (s : List Nat)
  | ref (a : Addr)
  | tup (xs : List D)
  | lst (xs : List D)

abbrev DKey := Sum Int (List Nat)
/-- a name's content: data that stands, or a list or dict of the frame's own that is still changed -/
inductive Slot where
  | d (x : D)
  | oL (xs : List D)
  | oK (kvs : List (DKey × D))
  | oT (kvs : List (List DKey × D))
  | kK (kvs : List (DKey × D))
abbrev SL := List (Option Slot)
def Slot.own : Slot → Bool
  | .d _ => false
  | .kK _ => false
  | _ => true

inductive Res (α : Type) where
  | ok (a : α)
  | exc (c : Nat)
abbrev Out (G α : Type) := Option (Res α × G)
abbrev M (G α : Type) := SL → G → Out G α
def M.pure {G α : Type} (a : α) : M G α := fun _ g => some (.ok a, g)
def M.lift {G α : Type} (o : Option α) : M G α := fun _ g => match o with
  | some a => some (.ok a, g)
  | none => none
def M.bind {G α β : Type} (f : M G α) (k : α → M G β) : M G β := fun sl g => match f sl g with
  | none => none
  | some (.exc c, g1) => some (.exc c, g1)
  | some (.ok a, g1) => k a sl g1

def mkS (cs : List Nat) : Str := ⟨cs.toArray⟩
theorem mkS_cps (cs : List Nat) : (mkS cs).cps.toList = cs := by simp [mkS]
theorem mkS_len (cs : List Nat) : (mkS cs).length = cs.length := by simp [mkS, Str.length]
theorem mkS_inj {a b : List Nat} (h : mkS a = mkS b) : a = b := by
  have := congrArg (fun s : Str => s.cps.toList) h
  simpa [mkS] using this
theorem mkS_surj (s : Str) : mkS s.cps.toList = s := by simp [mkS]
def toKey : DKey → Key
  | .inl i => .inl i
  | .inr s => .inr (mkS s)
theorem toKey_inj : ∀ {a b : DKey}, toKey a = toKey b → a = b
  | .inl _, .inl _, h => by simp [toKey] at h; rw [h]
  | .inr _, .inr _, h => by simp [toKey] at h; rw [mkS_inj h]
  | .inl _, .inr _, h => by simp [toKey] at h
  | .inr _, .inl _, h => by simp [toKey] at h

/-- a text that is used: not too long, of signs that are ones -/
def LIM : Nat := 100000
def okS (s : List Nat) : Prop := s.length ≤ LIM ∧ ∀ c ∈ s, c < 0x110000
theorem lim_line : LIM ≤ sizeLine := by unfold LIM; decide
theorem lim_line2 {n : Nat} (h : n ≤ LIM) : n ≤ sizeLine := Nat.le_trans h lim_line
theorem lim_lt {n : Nat} (h : n ≤ LIM) : n < sizeLine := Nat.lt_of_le_of_lt h (by unfold LIM; decide)

/-! ### values and data -/
mutual
inductive Dv (K : PySem.W.Frag) (H : Hp) : V → D → Prop
  | non : Dv K H .non .non
  | bl (b : Bool) : Dv K H (.bl b) (.bl b)
  | int (i : Int) : Dv K H (.int i) (.int i)
  | str (s : List Nat) (h : okS s) : Dv K H (.str (mkS s)) (.str s)
  | ref (a : Addr) : Dv K H (.ref a) (.ref a)
  | tup {a : Addr} {vs : List V} {ds : List D} : H a = some (.tup vs) → DvAll K H vs ds → Dv K H (.ref a) (.tup ds)
  | lst {a : Addr} {vs : List V} {ds : List D} : H a = some (.lst vs) → DvAll K H vs ds → Dv K H (.ref a) (.lst ds)
inductive DvAll (K : PySem.W.Frag) (H : Hp) : List V → List D → Prop
  | nil : DvAll K H [] []
  | cons {v : V} {vs : List V} {d : D} {ds : List D} : Dv K H v d → DvAll K H vs ds → DvAll K H (v :: vs) (d :: ds)
end

section
variable {K : PySem.W.Frag} {H H' : Hp}
theorem Same.t {a : Addr} {xs : List V} (e : Same H H') (h : SqT K H a xs) : SqT K H' a xs := by
  rcases h with h | h
  · rcases h with h | ⟨o, h⟩
    · exact .inl (.inl (e _ _ h))
    · exact .inl (.inr ⟨o, e _ _ h⟩)
  · exact .inr h
theorem Same.l {a : Addr} {xs : List V} (e : Same H H') (h : SqL K H a xs) : SqL K H' a xs := by
  rcases h with h | h
  · rcases h with h | ⟨o, h⟩
    · exact .inl (.inl (e _ _ h))
    · exact .inl (.inr ⟨o, e _ _ h⟩)
  · exact .inr h
theorem same_refl (H : Hp) : Same H H := fun _ _ h => h
theorem Same.tr {H1 : Hp} (a : Same H H1) (b : Same H1 H') : Same H H' := fun x o h => b x o (a x o h)

mutual
theorem Dv.mono (e : Same H H') : ∀ (d : D) {v : V}, Dv K H v d → Dv K H' v d
  | .non, _, h => by cases h; exact .non
  | .bl b, _, h => by cases h; exact .bl b
  | .int i, _, h => by cases h; exact .int i
  | .str s, _, h => by cases h with | str _ ok => exact .str s ok
  | .ref a, _, h => by cases h; exact .ref a
  | .tup ds, _, h => by
    cases h with
    | tup h1 h2 => exact .tup (e _ _ h1) (DvAll.mono e ds h2)
  | .lst ds, _, h => by
    cases h with
    | lst h1 h2 => exact .lst (e _ _ h1) (DvAll.mono e ds h2)
theorem DvAll.mono (e : Same H H') : ∀ (ds : List D) {vs : List V}, DvAll K H vs ds → DvAll K H' vs ds
  | [], _, h => by cases h; exact .nil
  | d :: ds, _, h => by
    cases h with
    | cons h1 h2 => exact .cons (Dv.mono e d h1) (DvAll.mono e ds h2)
end
theorem DvAll.len : ∀ {ds : List D} {vs : List V}, DvAll K H vs ds → vs.length = ds.length
  | [], _, h => by cases h; rfl
  | d :: ds, _, h => by
    cases h with
    | cons h1 h2 => simp [DvAll.len h2]
theorem DvAll.get : ∀ {ds : List D} {vs : List V} {i : Nat} {v : V}, DvAll K H vs ds → vs[i]? = some v → ∃ d, ds[i]? = some d ∧ Dv K H v d
  | [], _, i, v, h, e => by cases h; simp at e
  | d :: ds, _, 0, v, h, e => by
    cases h with
    | cons h1 h2 => simp at e; subst e; exact ⟨d, rfl, h1⟩
  | d :: ds, _, i + 1, v, h, e => by
    cases h with
    | cons h1 h2 =>
      obtain ⟨d', e1, e2⟩ := DvAll.get (i := i) (v := v) h2 (by simpa using e)
      exact ⟨d', by simpa using e1, e2⟩
theorem DvAll.get' : ∀ {ds : List D} {vs : List V} {i : Nat} {d : D}, DvAll K H vs ds → ds[i]? = some d → ∃ v, vs[i]? = some v ∧ Dv K H v d
  | [], _, i, v, h, e => by cases h; simp at e
  | d :: ds, _, 0, v, h, e => by
    cases h with
    | cons h1 h2 => simp at e; subst e; exact ⟨_, rfl, h1⟩
  | d :: ds, _, i + 1, v, h, e => by
    cases h with
    | cons h1 h2 =>
      obtain ⟨d', e1, e2⟩ := DvAll.get' (i := i) (d := v) h2 (by simpa using e)
      exact ⟨d', by simpa using e1, e2⟩
theorem DvAll.append : ∀ {ds es : List D} {vs ws : List V}, DvAll K H vs ds → DvAll K H ws es → DvAll K H (vs ++ ws) (ds ++ es)
  | [], _, _, _, h, h' => by cases h; exact h'
  | d :: ds, _, _, _, h, h' => by
    cases h with
    | cons h1 h2 => exact .cons h1 (DvAll.append h2 h')
theorem DvAll.take : ∀ {ds : List D} {vs : List V} (n : Nat), DvAll K H vs ds → DvAll K H (vs.take n) (ds.take n)
  | [], _, n, h => by cases h; simp; exact .nil
  | d :: ds, _, 0, h => by simp; exact .nil
  | d :: ds, _, n + 1, h => by
    cases h with
    | cons h1 h2 => exact .cons h1 (DvAll.take n h2)
theorem DvAll.drop : ∀ {ds : List D} {vs : List V} (n : Nat), DvAll K H vs ds → DvAll K H (vs.drop n) (ds.drop n)
  | [], _, n, h => by cases h; simp; exact .nil
  | d :: ds, _, 0, h => by simpa using h
  | d :: ds, _, n + 1, h => by
    cases h with
    | cons h1 h2 => exact DvAll.drop n h2
theorem DvAll.set : ∀ {ds : List D} {vs : List V} (n : Nat) {d : D} {v : V}, Dv K H v d → DvAll K H vs ds → DvAll K H (vs.set n v) (ds.set n d)
  | [], _, n, _, _, _, h => by cases h; simp; exact .nil
  | d :: ds, _, 0, _, _, q, h => by
    cases h with
    | cons h1 h2 => exact .cons q h2
  | d :: ds, _, n + 1, _, _, q, h => by
    cases h with
    | cons h1 h2 => exact .cons h1 (DvAll.set n q h2)
theorem DvAll.reverse : ∀ {ds : List D} {vs : List V}, DvAll K H vs ds → DvAll K H vs.reverse ds.reverse
  | [], _, h => by cases h; exact .nil
  | d :: ds, _, h => by
    cases h with
    | cons h1 h2 =>
      rw [List.reverse_cons, List.reverse_cons]
      exact DvAll.append (DvAll.reverse h2) (.cons h1 .nil)
theorem DvAll.rep {ds : List D} {vs : List V} (h : DvAll K H vs ds) : ∀ k : Nat, DvAll K H (List.replicate k vs).flatten (List.replicate k ds).flatten
  | 0 => .nil
  | k + 1 => by
    rw [List.replicate_succ, List.replicate_succ, List.flatten_cons, List.flatten_cons]
    exact DvAll.append h (DvAll.rep h k)
theorem DvAll.eraseIdx : ∀ {ds : List D} {vs : List V} (n : Nat), DvAll K H vs ds → DvAll K H (vs.eraseIdx n) (ds.eraseIdx n)
  | [], _, n, h => by cases h; simp; exact .nil
  | d :: ds, _, 0, h => by
    cases h with
    | cons h1 h2 => simpa using h2
  | d :: ds, _, n + 1, h => by
    cases h with
    | cons h1 h2 => exact .cons h1 (DvAll.eraseIdx n h2)
theorem DvAll.ints : ∀ {ns : List Int} {vs : List V}, DvAll K H vs (ns.map D.int) → vs = ns.map V.int
  | [], _, h => by cases h; rfl
  | n :: ns, _, h => by
    cases h with
    | cons h1 h2 => cases h1; rw [DvAll.ints h2]; rfl
theorem DvAll.ofInts : ∀ (ns : List Int), DvAll K H (ns.map V.int) (ns.map D.int)
  | [] => .nil
  | n :: ns => .cons (.int n) (DvAll.ofInts ns)
theorem DvAll.strs : ∀ {ss : List (List Nat)} {vs : List V}, DvAll K H vs (ss.map D.str) → vs = (ss.map mkS).map V.str
  | [], _, h => by cases h; rfl
  | n :: ns, _, h => by
    cases h with
    | cons h1 h2 => cases h1; rw [DvAll.strs h2]; rfl
theorem DvAll.ofStrs : ∀ (ss : List (List Nat)), (∀ s ∈ ss, okS s) → DvAll K H ((ss.map mkS).map V.str) (ss.map D.str)
  | [], _ => .nil
  | n :: ns, h => .cons (.str n (h n (by simp))) (DvAll.ofStrs ns fun s hs => h s (by simp [hs]))
theorem DvAll.oks : ∀ {ss : List (List Nat)} {vs : List V}, DvAll K H vs (ss.map D.str) → ∀ s ∈ ss, okS s
  | [], _, h => by simp
  | n :: ns, _, h => by
    cases h with
    | cons h1 h2 =>
      cases h1 with
      | str _ ok =>
        intro s hs
        rcases List.mem_cons.mp hs with e | e
        · subst e; exact ok
        · exact DvAll.oks h2 s e
theorem DvAll.bls : ∀ {bs : List Bool} {vs : List V}, DvAll K H vs (bs.map D.bl) → vs = bs.map V.bl
  | [], _, h => by cases h; rfl
  | n :: ns, _, h => by
    cases h with
    | cons h1 h2 => cases h1; rw [DvAll.bls h2]; rfl
end

/-! ### the world: what is changed by more than one frame -/
structure Wd where
  G : Type
  rep : G → Hp → Hp → Prop
  fp : G → Addr → Prop
  loc : ∀ g H H' Hf Hf', rep g H Hf → (∀ b, fp g b → H' b = H b) → (∀ b φ, Hf b = some (.ext φ) → Hf' b = some (.ext φ)) → rep g H' Hf'
  there : ∀ g H Hf b, rep g H Hf → fp g b → H b ≠ none
theorem Wd.loc1 {W : Wd} {g : W.G} {H H' Hf : Hp} (r : W.rep g H Hf) (e : ∀ b, W.fp g b → H' b = H b) : W.rep g H' Hf := W.loc _ _ _ _ _ r e fun _ _ h => h
theorem Wd.loc2 {W : Wd} {g : W.G} {H H' Hf Hf' : Hp} (r : W.rep g H Hf) (x : ∀ b φ, Hf b = some (.ext φ) → Hf' b = some (.ext φ)) (e : ∀ b, W.fp g b → H' b = H b) : W.rep g H' Hf' := W.loc _ _ _ _ _ r e x
theorem Wd.loc3 {W : Wd} {g : W.G} {H Hf Hf' : Hp} (r : W.rep g H Hf) (x : Same Hf Hf') : W.rep g H Hf' := W.loc _ _ _ _ _ r (fun _ _ => rfl) fun b _ e => x b _ e

/-- from the state (H0, Hf0, g0) to (H, Hf, g): Hf, a part of H, is what stands for good -/
structure Base (W : Wd) (H0 Hf0 : Hp) (g0 : W.G) (H Hf : Hp) (g : W.G) : Prop where
  ff : Same Hf0 Hf
  fh : Same Hf H
  keep : ∀ b o, H0 b = some o → ¬ W.fp g0 b → H b = some o
  old : ∀ b, H0 b ≠ none → Hf b = Hf0 b
  there : ∀ b, H0 b ≠ none → H b ≠ none
  rep : W.rep g H Hf
  dis : ∀ b, W.fp g b → Hf b = none
  fpo : ∀ b, W.fp g b → W.fp g0 b ∨ H0 b = none

section
variable {W : Wd} {H0 Hf0 H1 Hf1 H2 Hf2 H Hf : Hp} {g0 g1 g2 g : W.G}
theorem Base.refl (fh : Same Hf H) (rep : W.rep g H Hf) (dis : ∀ b, W.fp g b → Hf b = none) : Base W H Hf g H Hf g :=
  ⟨same_refl _, fh, fun _ _ h _ => h, fun _ _ => rfl, fun _ h => h, rep, dis, fun _ h => .inl h⟩
theorem Base.self (b : Base W H0 Hf0 g0 H Hf g) : Base W H Hf g H Hf g := .refl b.fh b.rep b.dis
theorem Base.trans (a : Base W H0 Hf0 g0 H1 Hf1 g1) (b : Base W H1 Hf1 g1 H2 Hf2 g2) : Base W H0 Hf0 g0 H2 Hf2 g2 where
  ff := Same.tr a.ff b.ff
  fh := b.fh
  keep := fun x o h n => b.keep x o (a.keep x o h n) fun q => by
    rcases a.fpo x q with q | q
    · exact n q
    · rw [h] at q; cases q
  old := fun x h => (b.old x (a.there x h)).trans (a.old x h)
  there := fun x h => b.there x (a.there x h)
  rep := b.rep
  dis := b.dis
  fpo := fun x q => by
    rcases b.fpo x q with q | q
    · exact a.fpo x q
    · refine .inr ?_
      cases e : H0 x with
      | none => rfl
      | some o => exact absurd q (a.there x (by rw [e]; simp))
theorem Base.hn {p : Addr} (b : Base W H0 Hf0 g0 H Hf g) (h : H p = none) : Hf p = none := by
  cases e : Hf p with
  | none => rfl
  | some o => rw [b.fh p o e] at h; cases h
theorem same_new {p : Addr} {o : HO} (h : H p = none) : Same H (upd H p o) := fun b u e => by
  rw [upd_ne (ne_of_none e h)]; exact e
/-- a new thing that stands for good -/
theorem Base.alloc {p : Addr} (o : HO) (b : Base W H0 Hf0 g0 H Hf g) (h : H p = none) : Base W H Hf g (upd H p o) (upd Hf p o) g where
  ff := same_new (b.hn h)
  fh := fun x u e => by
    by_cases hx : x = p
    · subst hx; rw [upd_same] at e ⊢; exact e
    · rw [upd_ne hx] at e ⊢; exact b.fh x u e
  keep := fun x u e _ => same_new h x u e
  old := fun x e => by
    have hx : x ≠ p := fun q => by subst q; exact e h
    rw [upd_ne hx]
  there := fun x e => by
    have hx : x ≠ p := fun q => by subst q; exact e h
    rw [upd_ne hx]; exact e
  rep := Wd.loc2 b.rep (fun x φ e => same_new (b.hn h) x _ e) fun x q => by
    have hx : x ≠ p := fun z => by subst z; exact W.there g H _ x b.rep q h
    rw [upd_ne hx]
  dis := fun x q => by
    have hx : x ≠ p := fun z => by subst z; exact W.there g H _ x b.rep q h
    rw [upd_ne hx]; exact b.dis x q
  fpo := fun _ q => .inl q
/-- a new thing of which nothing is said yet -/
theorem Base.allocU {p : Addr} (o : HO) (b : Base W H0 Hf0 g0 H Hf g) (h : H p = none) : Base W H Hf g (upd H p o) Hf g where
  ff := same_refl _
  fh := Same.tr b.fh (same_new h)
  keep := fun x u e _ => same_new h x u e
  old := fun x e => rfl
  there := fun x e => by
    have hx : x ≠ p := fun q => by subst q; exact e h
    rw [upd_ne hx]; exact e
  rep := Wd.loc1 b.rep fun x q => by
    have hx : x ≠ p := fun z => by subst z; exact W.there g H _ x b.rep q h
    rw [upd_ne hx]
  dis := b.dis
  fpo := fun _ q => .inl q
end

/-! ### the frame -/
/-- the frame's entry -/
structure Ent (W : Wd) where
  H : Hp
  Hf : Hp
  g : W.G

/-- the object of a name of its own -/
def OwnOk {W : Wd} (E : Ent W) (Hf : Hp) (g : W.G) (a : Addr) : Prop := E.H a = none ∧ Hf a = none ∧ ¬ W.fp g a
def KVd (K : PySem.W.Frag) (Hf : Hp) : List (Key × V) → List (DKey × D) → Prop := Paired fun p q => p.1 = toKey q.1 ∧ Dv K Hf p.2 q.2
def TVd (K : PySem.W.Frag) (Hf : Hp) : List (List Key × V) → List (List DKey × D) → Prop := Paired fun p q => p.1 = q.1.map toKey ∧ Dv K Hf p.2 q.2

def SlotOk {W : Wd} (K : PySem.W.Frag) (E : Ent W) (H Hf : Hp) (g : W.G) (v : V) : Slot → Prop
  | .d x => Dv K Hf v x
  | .oL xs => ∃ a vs, v = .ref a ∧ H a = some (.lst vs) ∧ DvAll K Hf vs xs ∧ OwnOk E Hf g a
  | .oK kvs => ∃ a vs, v = .ref a ∧ H a = some (.dK vs) ∧ KVd K Hf vs kvs ∧ OwnOk E Hf g a
  | .oT kvs => ∃ a vs, v = .ref a ∧ H a = some (.dT vs) ∧ TVd K Hf vs kvs ∧ OwnOk E Hf g a
  | .kK kvs => ∃ a vs o, v = .ref a ∧ Hf a = some (.frz o (.dK vs)) ∧ KVd K Hf vs kvs

structure R {W : Wd} (K : PySem.W.Frag) (E : Ent W) (H Hf : Hp) (g : W.G) (sl : SL) (σ : St) : Prop where
  base : Base W E.H E.Hf E.g H Hf g
  slot : ∀ (i : Nat) (x : Slot), sl[i]? = some (some x) → ∃ v, σ[i]? = some (some v) ∧ SlotOk K E H Hf g v x
  apart : ∀ (i j : Nat) (x y : Slot) (a : Addr), i ≠ j → sl[i]? = some (some x) → sl[j]? = some (some y) → x.own = true → y.own = true → σ[i]? = some (some (.ref a)) → σ[j]? ≠ some (some (.ref a))
  len : sl.length = σ.length

section
variable {W : Wd} {K : PySem.W.Frag} {E : Ent W} {H Hf H' Hf' : Hp} {g g' : W.G} {sl : SL} {σ : St}
theorem KVd.mono {vs : List (Key × V)} {kvs : List (DKey × D)} (e : Same Hf Hf') (h : KVd K Hf vs kvs) : KVd K Hf' vs kvs := Paired.mapP h fun _ q z => ⟨z.1, Dv.mono e q.2 z.2⟩
theorem TVd.mono {vs : List (List Key × V)} {kvs : List (List DKey × D)} (e : Same Hf Hf') (h : TVd K Hf vs kvs) : TVd K Hf' vs kvs := Paired.mapP h fun _ q z => ⟨z.1, Dv.mono e q.2 z.2⟩
theorem OwnOk.step {a : Addr} {o : HO} (b : Base W H Hf g H' Hf' g') (h : H a = some o) (k : OwnOk E Hf g a) : OwnOk E Hf' g' a :=
  ⟨k.1, (b.old a (by rw [h]; simp)).trans k.2.1, fun q => by
    rcases b.fpo a q with z | z
    · exact k.2.2 z
    · rw [h] at z; cases z⟩
theorem SlotOk.step {v : V} : ∀ {x : Slot}, Base W H Hf g H' Hf' g' → SlotOk K E H Hf g v x → SlotOk K E H' Hf' g' v x
  | .d x, b, h => Dv.mono b.ff x h
  | .oL xs, b, ⟨a, vs, e, h1, h2, h3⟩ => ⟨a, vs, e, b.keep a _ h1 h3.2.2, DvAll.mono b.ff xs h2, h3.step b h1⟩
  | .oK xs, b, ⟨a, vs, e, h1, h2, h3⟩ => ⟨a, vs, e, b.keep a _ h1 h3.2.2, KVd.mono b.ff h2, h3.step b h1⟩
  | .oT xs, b, ⟨a, vs, e, h1, h2, h3⟩ => ⟨a, vs, e, b.keep a _ h1 h3.2.2, TVd.mono b.ff h2, h3.step b h1⟩
  | .kK xs, b, ⟨a, vs, o, e, h1, h2⟩ => ⟨a, vs, o, e, b.ff a _ h1, KVd.mono b.ff h2⟩
/-- an expression ran: the names are as they were -/
theorem R.step (r : R K E H Hf g sl σ) (b : Base W H Hf g H' Hf' g') : R K E H' Hf' g' sl σ :=
  ⟨r.base.trans b, fun i x e => let ⟨v, h1, h2⟩ := r.slot i x e; ⟨v, h1, h2.step b⟩, r.apart, r.len⟩
end
end DL
namespace DL
open PySem L2

/-- the world and the classes of errors by numbers -/
structure Cn where
  W : Wd
  cls : Nat → Value

section
variable {Z : Cn} {α β γ δ : Type}
/-- the outcome m of a piece, from (H, Hf, g) on: Rl tells how what is handed on lies to the pure value -/
def go (Z : Cn) (Rl : Z.W.G → Hp → Hp → β → α → Prop) (Wx : WX) (σ : St) (m : Out Z.W.G α) (H Hf : Hp) (g : Z.W.G) (Q : β → Hp → Prop) : Prop :=
  match m with
  | none => False
  | some (.ok a, g') => ∀ v H' Hf', Base Z.W H Hf g H' Hf' g' → Rl g' Hf' H' v a → Q v H'
  | some (.exc c, g') => ∀ H' Hf', Base Z.W H Hf g H' Hf' g' → Wx (Z.cls c) none σ H'
def tG (Z : Cn) (K : PySem.W.Frag) (E : Ent Z.W) (Rl : Z.W.G → Hp → Hp → β → α → Prop) (Wx : WX) (f : M Z.W.G α) : St → Hp → (β → Hp → Prop) → Prop :=
  fun σ H Q => ∃ (Hf : Hp) (g : Z.W.G) (sl : SL), R K E H Hf g sl σ ∧ go Z Rl Wx σ (f sl g) H Hf g Q

variable {Rl : Z.W.G → Hp → Hp → β → α → Prop} {Rm : Z.W.G → Hp → Hp → δ → γ → Prop} {Wx : WX} {σ : St} {H Hf : Hp} {g : Z.W.G} {sl : SL}
theorem go.mono {m : Out Z.W.G α} {Q Q' : β → Hp → Prop} (h : go Z Rl Wx σ m H Hf g Q) (k : ∀ v H', Q v H' → Q' v H') : go Z Rl Wx σ m H Hf g Q' := by
  match m, h with
  | some (.ok a, g'), h => exact fun v H' Hf' b r => k v H' (h v H' Hf' b r)
  | some (.exc c, g'), h => exact h
theorem go.rel {Rl' : Z.W.G → Hp → Hp → β → α → Prop} {m : Out Z.W.G α} {Q : β → Hp → Prop} (h : go Z Rl Wx σ m H Hf g Q) (k : ∀ g' Hf' H' v a, Same Hf' H' → Rl' g' Hf' H' v a → Rl g' Hf' H' v a) : go Z Rl' Wx σ m H Hf g Q := by
  match m, h with
  | some (.ok a, g'), h => exact fun v H' Hf' b r => h v H' Hf' b (k _ _ _ _ _ b.fh r)
  | some (.exc c, g'), h => exact h
/-- from a later state on -/
theorem go.later {m : Out Z.W.G α} {Q : β → Hp → Prop} {H1 Hf1 : Hp} {g1 : Z.W.G} (h : go Z Rl Wx σ m H Hf g Q) (b : Base Z.W H Hf g H1 Hf1 g1) : go Z Rl Wx σ m H1 Hf1 g1 Q := by
  match m, h with
  | some (.ok a, g'), h => exact fun v H' Hf' b' r => h v H' Hf' (b.trans b') r
  | some (.exc c, g'), h => exact fun H' Hf' b' => h H' Hf' (b.trans b')
theorem go_bind {f : M Z.W.G γ} {k : γ → M Z.W.G α} {Q : β → Hp → Prop} (h : go Z Rl Wx σ (M.bind f k sl g) H Hf g Q) :
    go Z Rm Wx σ (f sl g) H Hf g (fun v H1 => ∃ (Hf1 : Hp) (g1 : Z.W.G) (a : γ), Base Z.W H Hf g H1 Hf1 g1 ∧ Rm g1 Hf1 H1 v a ∧ go Z Rl Wx σ (k a sl g1) H1 Hf1 g1 Q) := by
  unfold M.bind at h
  match e : f sl g with
  | none => rw [e] at h; exact h
  | some (.exc c, g1) => rw [e] at h; exact h
  | some (.ok a, g1) =>
    rw [e] at h
    intro v H1 Hf1 b r
    exact ⟨Hf1, g1, a, b, r, go.later (m := k a sl g1) (g := g) h b⟩
theorem go_lift {o : Option α} {Q : β → Hp → Prop} (h : go Z Rl Wx σ (M.lift o sl g) H Hf g Q) : ∃ a, o = some a ∧ ∀ v H' Hf', Base Z.W H Hf g H' Hf' g → Rl g Hf' H' v a → Q v H' := by
  unfold M.lift at h
  match o, h with
  | some a, h => exact ⟨a, rfl, h⟩
theorem go_bl {o : Option γ} {k : γ → M Z.W.G α} {Q : β → Hp → Prop} (h : go Z Rl Wx σ (M.bind (M.lift o) k sl g) H Hf g Q) : ∃ a, o = some a ∧ go Z Rl Wx σ (k a sl g) H Hf g Q := by
  unfold M.bind M.lift at h
  match o, h with
  | some a, h => exact ⟨a, rfl, h⟩
theorem go_pure {a : α} {Q : β → Hp → Prop} (h : go Z Rl Wx σ (M.pure a sl g) H Hf g Q) : ∀ v H' Hf', Base Z.W H Hf g H' Hf' g → Rl g Hf' H' v a → Q v H' := h
end

/-! ### what is handed on -/
/-- data that stands for good -/
abbrev RlD {W : Wd} (K : PySem.W.Frag) : W.G → Hp → Hp → V → D → Prop := fun _ Hf _ v d => Dv K Hf v d
/-- data that may be read: it stands for good, or is a list of the frame's own of such -/
def Dr {W : Wd} (K : PySem.W.Frag) (g : W.G) (Hf H : Hp) (v : V) (d : D) : Prop := Dv K Hf v d ∨ ∃ a vs ds, v = .ref a ∧ d = .lst ds ∧ H a = some (.lst vs) ∧ DvAll K Hf vs ds ∧ ¬ W.fp g a
abbrev RlR {W : Wd} (K : PySem.W.Frag) : W.G → Hp → Hp → V → D → Prop := fun g Hf H v d => Dr K g Hf H v d
abbrev RlB {W : Wd} : W.G → Hp → Hp → Bool → Bool → Prop := fun _ _ _ b c => b = c
abbrev RlA {W : Wd} (K : PySem.W.Frag) : W.G → Hp → Hp → List V → List D → Prop := fun _ Hf _ vs ds => DvAll K Hf vs ds
abbrev RlO {W : Wd} : W.G → Hp → Hp → Option Int → Option Int → Prop := fun _ _ _ b c => b = c
theorem Dr.h {W : Wd} {K : PySem.W.Frag} {g : W.G} {Hf H : Hp} {v : V} {d : D} (s : Same Hf H) (h : Dr K g Hf H v d) : Dv K H v d := by
  rcases h with h | ⟨a, vs, ds, rfl, rfl, h1, h2, _⟩
  · exact Dv.mono s d h
  · exact .lst h1 (DvAll.mono s ds h2)
theorem Dr.step {W : Wd} {K : PySem.W.Frag} {H Hf H' Hf' : Hp} {g g' : W.G} {v : V} {d : D} (b : Base W H Hf g H' Hf' g') (h : Dr K g Hf H v d) : Dr K g' Hf' H' v d := by
  rcases h with h | ⟨a, vs, ds, e1, e2, h1, h2, h3⟩
  · exact .inl (Dv.mono b.ff d h)
  · refine .inr ⟨a, vs, ds, e1, e2, b.keep a _ h1 h3, DvAll.mono b.ff ds h2, fun q => ?_⟩
    rcases b.fpo a q with z | z
    · exact h3 z
    · rw [h1] at z; cases z

section
variable (X : Cx) (Z : Cn) (E : Ent Z.W) (Wx : WX)
abbrev DE (e : Expr) (f : M Z.W.G D) : Prop := PE X e (tG Z X.K E (RlD X.K) Wx f)
abbrev DR (e : Expr) (f : M Z.W.G D) : Prop := PE X e (tG Z X.K E (RlR X.K) Wx f)
abbrev DT (e : Expr) (f : M Z.W.G Bool) : Prop := PT X e (tG Z X.K E RlB Wx f)
abbrev DW (e : Expr) (f : M Z.W.G Bool) : Prop := PW X e (tG Z X.K E RlB Wx f)
abbrev DA (es : List Expr) (f : M Z.W.G (List D)) : Prop := PA X es (tG Z X.K E (RlA X.K) Wx f)
abbrev DO (e : Option Expr) (f : M Z.W.G (Option Int)) : Prop := PO X e (tG Z X.K E RlO Wx f)
end

theorem PE.imp {X : Cx} {e : Expr} {t t' : TE} (h : PE X e t) (k : ∀ σ H Q, t' σ H Q → t σ H Q) : PE X e t' := ⟨fun pins s σ H Q I q => h.run pins s σ H Q I (k σ H Q q)⟩
theorem PT.imp {X : Cx} {e : Expr} {t t' : TT} (h : PT X e t) (k : ∀ σ H Q, t' σ H Q → t σ H Q) : PT X e t' := ⟨fun pins s σ H Q I q => h.run pins s σ H Q I (k σ H Q q)⟩
theorem PW.imp {X : Cx} {e : Expr} {t t' : TT} (h : PW X e t) (k : ∀ σ H Q, t' σ H Q → t σ H Q) : PW X e t' := ⟨fun w pins s σ H Q I q => h.run w pins s σ H Q I (k σ H Q q)⟩
theorem PA.imp {X : Cx} {e : List Expr} {t t' : TA} (h : PA X e t) (k : ∀ σ H Q, t' σ H Q → t σ H Q) : PA X e t' := ⟨fun p pins s σ H Q I q => h.run p pins s σ H Q I (k σ H Q q)⟩
theorem PO.imp {X : Cx} {e : Option Expr} {t t' : TO} (h : PO X e t) (k : ∀ σ H Q, t' σ H Q → t σ H Q) : PO X e t' := ⟨fun pins s σ H Q I q => h.run pins s σ H Q I (k σ H Q q)⟩

/-! ### expressions: the pure side -/
section
variable {G : Type}
def eV (i : Nat) : M G D := fun sl g => match sl[i]? with
  | some (some (.d x)) => some (.ok x, g)
  | _ => none
def eR (i : Nat) : M G D := fun sl g => match sl[i]? with
  | some (some (.d x)) => some (.ok x, g)
  | some (some (.oL xs)) => some (.ok (.lst xs), g)
  | _ => none
def eC (d : D) : M G D := M.pure d
def e2 (op : D → D → Option D) (a b : M G D) : M G D := M.bind a fun x => M.bind b fun y => M.lift (op x y)
def e1 (op : D → Option D) (a : M G D) : M G D := M.bind a fun x => M.lift (op x)
def asB : D → Option Bool
  | .bl b => some b
  | _ => none
theorem asB_some : ∀ {d : D} {b : Bool}, asB d = some b → d = .bl b
  | .bl _, _, h => by cases h; rfl
def tV (a : M G D) : M G Bool := M.bind a fun x => M.lift (asB x)
def tAndM (a b : M G Bool) : M G Bool := M.bind a fun c => if c = true then b else M.pure false
def tOrM (a b : M G Bool) : M G Bool := M.bind a fun c => if c = true then M.pure true else b
def tNotM (a : M G Bool) : M G Bool := M.bind a fun c => M.pure (!c)
def eAndM (a b : M G D) : M G D := M.bind a fun x => M.bind (M.lift (asB x)) fun c => if c = true then b else M.pure (.bl false)
def eOrM (a b : M G D) : M G D := M.bind a fun x => M.bind (M.lift (asB x)) fun c => if c = true then M.pure (.bl true) else b
def eNotM (a : M G D) : M G D := M.bind a fun x => M.bind (M.lift (asB x)) fun c => M.pure (.bl (!c))
def eIfM (c : M G Bool) (a b : M G D) : M G D := M.bind c fun k => if k = true then a else b
def aNil : M G (List D) := M.pure []
def aCons (a : M G D) (b : M G (List D)) : M G (List D) := M.bind a fun x => M.bind b fun xs => M.pure (x :: xs)
def eTup (a : M G (List D)) : M G D := M.bind a fun xs => M.lift (if xs.length ≤ LIM then some (.tup xs) else none)
def eLst (a : M G (List D)) : M G D := M.bind a fun xs => M.lift (if xs.length ≤ LIM then some (.lst xs) else none)
end

/-! ### expressions: the rules -/
section
variable {X : Cx} {Z : Cn} {E : Ent Z.W} {Wx : WX} {e a b c : Expr} {pos : Pos} {fe fa fb fc : M Z.W.G D} {ft fu : M Z.W.G Bool}
theorem DE.r (h : DE X Z E Wx e fe) : DR X Z E Wx e fe := PE.imp h fun σ H Q ⟨Hf, g, sl, r, q⟩ => ⟨Hf, g, sl, r, q.rel fun _ _ _ _ _ _ z => .inl z⟩
theorem de_name (i : Nat) {x : Str} (hN : X.N[i]? = some x := by rfl) (hv : Vis X.env.scope x := by first | exact Or.inl rfl | exact Or.inr (Or.inl rfl) | exact Or.inr (Or.inr rfl)) (hd : (x == ("__debug__" : Str)) = false := by decide)
    (hcd : (x == ("__classdict__" : Str)) = false := by decide) : DE X Z E Wx (.Name x pos) (eV i) := by
  refine PE.imp (pe_var hN hv hd hcd) fun σ H Q ⟨Hf, g, sl, r, q⟩ => ?_
  unfold eV at q
  match e : sl[i]? with
  | some (some (.d y)) =>
    rw [e] at q
    obtain ⟨v, h1, h2⟩ := r.slot i _ e
    exact ⟨v, h1, q v H Hf r.base.self h2⟩
  | some (some (.oL y)) => rw [e] at q; exact q.elim
  | some (some (.oK y)) => rw [e] at q; exact q.elim
  | some (some (.oT y)) => rw [e] at q; exact q.elim
  | some (some (.kK y)) => rw [e] at q; exact q.elim
  | some none => rw [e] at q; exact q.elim
  | none => rw [e] at q; exact q.elim
theorem dr_name (i : Nat) {x : Str} (hN : X.N[i]? = some x := by rfl) (hv : Vis X.env.scope x := by first | exact Or.inl rfl | exact Or.inr (Or.inl rfl) | exact Or.inr (Or.inr rfl)) (hd : (x == ("__debug__" : Str)) = false := by decide)
    (hcd : (x == ("__classdict__" : Str)) = false := by decide) : DR X Z E Wx (.Name x pos) (eR i) := by
  refine PE.imp (pe_var hN hv hd hcd) fun σ H Q ⟨Hf, g, sl, r, q⟩ => ?_
  unfold eR at q
  match e : sl[i]? with
  | some (some (.d y)) =>
    rw [e] at q
    obtain ⟨v, h1, h2⟩ := r.slot i _ e
    exact ⟨v, h1, q v H Hf r.base.self (.inl h2)⟩
  | some (some (.oL y)) =>
    rw [e] at q
    obtain ⟨v, h1, a, vs, h3, h4, h5, h6⟩ := r.slot i _ e
    exact ⟨v, h1, q v H Hf r.base.self (.inr ⟨a, vs, _, h3, rfl, h4, h5, h6.2.2⟩)⟩
  | some (some (.oK y)) => rw [e] at q; exact q.elim
  | some (some (.oT y)) => rw [e] at q; exact q.elim
  | some (some (.kK y)) => rw [e] at q; exact q.elim
  | some none => rw [e] at q; exact q.elim
  | none => rw [e] at q; exact q.elim
theorem de_c {v : V} {d : D} (h : PE X e (tC v)) (hd : ∀ Hf, Dv X.K Hf v d) : DE X Z E Wx e (eC d) :=
  PE.imp h fun σ H Q ⟨Hf, g, sl, r, q⟩ => go_pure q v H Hf r.base.self (hd Hf)
theorem de_int {i : Int} {j : Nat} : DE X Z E Wx (.Constant (.int i) j pos) (eC (.int i)) := de_c pe_int fun _ => .int i
theorem de_bl {i : Bool} {j : Nat} : DE X Z E Wx (.Constant (.bool i) j pos) (eC (.bl i)) := de_c pe_bl fun _ => .bl i
theorem de_non {j : Nat} : DE X Z E Wx (.Constant .none j pos) (eC .non) := de_c pe_non fun _ => .non
def okSb (s : List Nat) : Bool := decide (s.length ≤ LIM) && s.all fun c => decide (c < 0x110000)
theorem okSb_ok {s : List Nat} (h : okSb s = true) : okS s := by
  unfold okSb at h
  simp only [Bool.and_eq_true, decide_eq_true_eq, List.all_eq_true] at h
  exact h
theorem de_str (s : List Nat) {x : Str} {j : Nat} (h : x = mkS s := by rfl) (hs : okSb s = true := by decide) : DE X Z E Wx (.Constant (.str x) j pos) (eC (.str s)) := by
  subst h
  exact de_c pe_str fun _ => .str s (okSb_ok hs)
/-- a global name: a text of the module -/
theorem de_gstr (s : List Nat) {x : Str} {u : Value} (hg : Gl X x) (hm : X.mg x = some u) (r : RelV (.str (mkS s)) u) (hs : okSb s = true := by decide) (hd : (x == ("__debug__" : Str)) = false := by decide) : DE X Z E Wx (.Name x pos) (eC (.str s)) :=
  de_c (pe_glob hg hm r hd) fun _ => .str s (okSb_ok hs)
theorem de_gref {f : Addr} {x : Str} (hg : Gl X x) (hm : X.mg x = some (.ref f)) (hd : (x == ("__debug__" : Str)) = false := by decide) : DE X Z E Wx (.Name x pos) (eC (.ref f)) :=
  de_c (pe_glob (v := .ref f) hg hm rfl hd) fun _ => .ref f

/-! two-place operations on data -/
def OpD (X : Cx) (f : Value → Value → Sem Value) (op : D → D → Option D) : Prop :=
  ∃ r : R2, OpR X f r ∧ ∀ (W : Wd) (H Hf : Hp) (g : W.G) (x y : V) (a b d : D) (Q : VK), Base W H Hf g H Hf g → Dr X.K g Hf H x a → Dr X.K g Hf H y b → op a b = some d →
    (∀ v H' Hf', Base W H Hf g H' Hf' g → Dv X.K Hf' v d → Q v H') → r x y H Q
theorem op_run {op : D → D → Option D} {r : R2} {σ : St} {H : Hp} {Q : VK} (hr : ∀ (W : Wd) (H Hf : Hp) (g : W.G) (x y : V) (a b d : D) (Q : VK), Base W H Hf g H Hf g → Dr X.K g Hf H x a → Dr X.K g Hf H y b → op a b = some d →
    (∀ v H' Hf', Base W H Hf g H' Hf' g → Dv X.K Hf' v d → Q v H') → r x y H Q) (h : tG Z X.K E (RlD X.K) Wx (e2 op fa fb) σ H Q) : tOp r (tG Z X.K E (RlR X.K) Wx fa) (tG Z X.K E (RlR X.K) Wx fb) σ H Q := by
  obtain ⟨Hf, g, sl, r, q⟩ := h
  refine ⟨Hf, g, sl, r, (go_bind (Rm := RlR X.K) q).mono fun x H1 ⟨Hf1, g1, a, b1, d1, q1⟩ => ⟨Hf1, g1, sl, r.step b1, (go_bind (Rm := RlR X.K) q1).mono fun y H2 ⟨Hf2, g2, b, b2, d2, q2⟩ => ?_⟩⟩
  obtain ⟨d, ed, k⟩ := go_lift q2
  exact hr Z.W H2 Hf2 g2 x y a b d Q b2.self (d1.step b2) d2 ed k
theorem de_op {o : Operator} {op : D → D → Option D} (ho : OpD X (binaryOp o) op) (ha : DR X Z E Wx a fa) (hb : DR X Z E Wx b fb) : DE X Z E Wx (.BinOp a o b pos) (e2 op fa fb) := by
  obtain ⟨r, hr, k⟩ := ho
  exact PE.imp (pe_op hr ha hb) fun σ H Q h => op_run k h
theorem de_cmp {o : CmpOp} {op : D → D → Option D} (ho : OpD X (compareOp o) op) (ha : DR X Z E Wx a fa) (hb : DR X Z E Wx b fb) (hm : behindInMarks o b = false := by rfl) : DE X Z E Wx (.Compare a [o] [b] pos) (e2 op fa fb) := by
  obtain ⟨r, hr, k⟩ := ho
  exact PE.imp (pe_cmpR hr ha hb hm) fun σ H Q h => op_run k h
theorem tTest_of {t : TE} {σ : St} {H : Hp} {Q : Bool → Hp → Prop} (h : tG Z X.K E RlB Wx (tV fe) σ H Q) (k : ∀ Q', tG Z X.K E (RlD X.K) Wx fe σ H Q' → t σ H Q') : tTest t σ H Q := by
  obtain ⟨Hf, g, sl, r, q⟩ := h
  refine k _ ⟨Hf, g, sl, r, (go_bind (Rm := RlD X.K) q).mono fun x H1 ⟨Hf1, g1, a, b1, d1, q1⟩ => ?_⟩
  obtain ⟨c, ec, k1⟩ := go_lift q1
  obtain rfl := asB_some ec
  cases d1
  exact ⟨_, rfl, k1 _ H1 Hf1 b1.self rfl⟩
theorem dt_cmp {o : CmpOp} {op : D → D → Option D} (ho : OpD X (compareOp o) op) (ha : DR X Z E Wx a fa) (hb : DR X Z E Wx b fb) (hm : behindInMarks o b = false := by rfl) : DT X Z E Wx (.Compare a [o] [b] pos) (tV (e2 op fa fb)) := by
  obtain ⟨r, hr, k⟩ := ho
  exact PT.imp (pt_cmpR hr ha hb hm) fun σ H Q h => tTest_of h fun Q' q => op_run k q
/-- a op1 b op2 c, op1's answer a truth value -/
def e3 {G : Type} (op op' : D → D → Option D) (a b c : M G D) : M G D := M.bind a fun x => M.bind b fun y => M.bind (M.lift (op x y)) fun z => M.bind (M.lift (asB z)) fun k => if k = true then M.bind c fun w => M.lift (op' y w) else M.pure (.bl false)
theorem chain_run {op op' : D → D → Option D} {r r' : R2} {σ : St} {H : Hp} {Q : VK} (hr : ∀ (W : Wd) (H Hf : Hp) (g : W.G) (x y : V) (a b d : D) (Q : VK), Base W H Hf g H Hf g → Dr X.K g Hf H x a → Dr X.K g Hf H y b → op a b = some d →
    (∀ v H' Hf', Base W H Hf g H' Hf' g → Dv X.K Hf' v d → Q v H') → r x y H Q) (hr' : ∀ (W : Wd) (H Hf : Hp) (g : W.G) (x y : V) (a b d : D) (Q : VK), Base W H Hf g H Hf g → Dr X.K g Hf H x a → Dr X.K g Hf H y b → op' a b = some d →
    (∀ v H' Hf', Base W H Hf g H' Hf' g → Dv X.K Hf' v d → Q v H') → r' x y H Q) (h : tG Z X.K E (RlD X.K) Wx (e3 op op' fa fb fc) σ H Q) :
    tChain r r' (tG Z X.K E (RlR X.K) Wx fa) (tG Z X.K E (RlR X.K) Wx fb) (tG Z X.K E (RlR X.K) Wx fc) σ H Q := by
  obtain ⟨Hf, g, sl, r, q⟩ := h
  refine ⟨Hf, g, sl, r, (go_bind (Rm := RlR X.K) q).mono fun x H1 ⟨Hf1, g1, a, b1, d1, q1⟩ => ⟨Hf1, g1, sl, r.step b1, (go_bind (Rm := RlR X.K) q1).mono fun y H2 ⟨Hf2, g2, b, b2, d2, q2⟩ => ?_⟩⟩
  obtain ⟨z, ez, q3⟩ := go_bl q2
  refine hr Z.W H2 Hf2 g2 x y a b z _ b2.self (d1.step b2) d2 ez fun v H3 Hf3 b3 dz => ?_
  obtain ⟨k, ek, q4⟩ := go_bl q3
  obtain rfl := asB_some ek
  cases dz
  refine ⟨_, rfl, ?_⟩
  cases k with
  | true =>
    rw [if_pos rfl] at q4 ⊢
    refine ⟨Hf3, g2, sl, (r.step (b1.trans b2)).step b3, (go_bind (Rm := RlR X.K) (q4.later b3)).mono fun w H4 ⟨Hf4, g4, c, b4, d4, q5⟩ => ?_⟩
    obtain ⟨d, ed, k'⟩ := go_lift q5
    exact hr' Z.W H4 Hf4 g4 y w b c d Q b4.self ((d2.step b3).step b4) d4 ed k'
  | false =>
    rw [if_neg (by decide)] at q4 ⊢
    exact q4 _ _ _ b3 (.bl false)
theorem de_chain {o o' : CmpOp} {op op' : D → D → Option D} (ho : OpD X (compareOp o) op) (ho' : OpD X (compareOp o') op') (ha : DR X Z E Wx a fa) (hb : DR X Z E Wx b fb) (hc : DR X Z E Wx c fc)
    (hm : lastMarks [o, o'] [b, c] = false := by with_unfolding_all rfl) : DE X Z E Wx (.Compare a [o, o'] [b, c] pos) (e3 op op' fa fb fc) := by
  obtain ⟨r, hr, k⟩ := ho
  obtain ⟨r', hr', k'⟩ := ho'
  exact PE.imp (pe_chain hr hr' ha hb hc hm) fun σ H Q h => chain_run k k' h
theorem dt_chain {o o' : CmpOp} {op op' : D → D → Option D} (ho : OpD X (compareOp o) op) (ho' : OpD X (compareOp o') op') (ha : DR X Z E Wx a fa) (hb : DR X Z E Wx b fb) (hc : DR X Z E Wx c fc)
    (hm : lastMarks [o, o'] [b, c] = false := by with_unfolding_all rfl) : DT X Z E Wx (.Compare a [o, o'] [b, c] pos) (tV (e3 op op' fa fb fc)) := by
  obtain ⟨r, hr, k⟩ := ho
  obtain ⟨r', hr', k'⟩ := ho'
  exact PT.imp (pt_chain hr hr' ha hb hc hm) fun σ H Q h => tTest_of h fun Q' q => chain_run k k' q

/-! tests and truth values -/
theorem tB_of {σ : St} {H : Hp} {Q : Bool → Hp → Prop} {t : TE} (h : tG Z X.K E RlB Wx (tV fe) σ H Q) (k : ∀ Q', tG Z X.K E (RlD X.K) Wx fe σ H Q' → t σ H Q') : tB t σ H Q := tTest_of h k
theorem dt_val (h : DE X Z E Wx e fe) (he : ∀ whole, isTrue e X.env whole = (do let v ← whole; standAt e.pos; holding [v] (truthy v)) := by intro _; rfl) : DT X Z E Wx e (tV fe) :=
  PT.imp (pt_val h he) fun σ H Q q => tB_of q fun _ z => z
theorem dw_and1 (ha : DT X Z E Wx a ft) : DW X Z E Wx (.BoolOp .And [a] pos) ft := pw_and1 ha
theorem dw_or1 (ha : DT X Z E Wx a ft) : DW X Z E Wx (.BoolOp .Or [a] pos) ft := pw_or1 ha
theorem dw_and {rest : List Expr} (ha : DT X Z E Wx a ft) (hb : DW X Z E Wx (.BoolOp .And (b :: rest) pos) fu) : DW X Z E Wx (.BoolOp .And (a :: b :: rest) pos) (tAndM ft fu) := by
  refine PW.imp (pw_and ha hb) fun σ H Q ⟨Hf, g, sl, r, q⟩ => ⟨Hf, g, sl, r, (go_bind (Rm := RlB) q).mono fun x H1 ⟨Hf1, g1, c, b1, e1, q1⟩ => ?_⟩
  cases e1
  cases x with
  | true => rw [if_pos rfl] at q1 ⊢; exact ⟨Hf1, g1, sl, r.step b1, q1⟩
  | false => rw [if_neg (by decide)] at q1 ⊢; exact q1 _ _ _ b1.self rfl
theorem dw_or {rest : List Expr} (ha : DT X Z E Wx a ft) (hb : DW X Z E Wx (.BoolOp .Or (b :: rest) pos) fu) : DW X Z E Wx (.BoolOp .Or (a :: b :: rest) pos) (tOrM ft fu) := by
  refine PW.imp (pw_or ha hb) fun σ H Q ⟨Hf, g, sl, r, q⟩ => ⟨Hf, g, sl, r, (go_bind (Rm := RlB) q).mono fun x H1 ⟨Hf1, g1, c, b1, e1, q1⟩ => ?_⟩
  cases e1
  cases x with
  | true => rw [if_pos rfl] at q1 ⊢; exact q1 _ _ _ b1.self rfl
  | false => rw [if_neg (by decide)] at q1 ⊢; exact ⟨Hf1, g1, sl, r.step b1, q1⟩
theorem DW.pt (h : DW X Z E Wx e ft) : DT X Z E Wx e ft := PW.pt h
theorem dt_not (ha : DT X Z E Wx a ft) : DT X Z E Wx (.UnaryOp .Not a pos) (tNotM ft) := by
  refine PT.imp (pt_not ha) fun σ H Q ⟨Hf, g, sl, r, q⟩ => ⟨Hf, g, sl, r, (go_bind (Rm := RlB) q).mono fun x H1 ⟨Hf1, g1, c, b1, e1, q1⟩ => ?_⟩
  cases e1
  exact q1 _ _ _ b1.self rfl
theorem de_one {op : BoolOp} (h : DE X Z E Wx a fa) : DE X Z E Wx (.BoolOp op [a] pos) fa := pe_one h
theorem de_and {rest : List Expr} (ha : DE X Z E Wx a fa) (hb : DE X Z E Wx (.BoolOp .And (b :: rest) pos) fb) : DE X Z E Wx (.BoolOp .And (a :: b :: rest) pos) (eAndM fa fb) := by
  refine PE.imp (pe_and ha hb) fun σ H Q ⟨Hf, g, sl, r, q⟩ => ⟨Hf, g, sl, r, (go_bind (Rm := RlD X.K) q).mono fun x H1 ⟨Hf1, g1, c, b1, d1, q1⟩ => ?_⟩
  obtain ⟨k, ek, q2⟩ := go_bl q1
  obtain rfl := asB_some ek
  cases d1
  refine ⟨_, rfl, ?_⟩
  cases k with
  | true => rw [if_pos rfl] at q2 ⊢; exact ⟨Hf1, g1, sl, r.step b1, q2⟩
  | false => rw [if_neg (by decide)] at q2 ⊢; exact q2 _ _ _ b1.self (.bl false)
theorem de_or {rest : List Expr} (ha : DE X Z E Wx a fa) (hb : DE X Z E Wx (.BoolOp .Or (b :: rest) pos) fb) : DE X Z E Wx (.BoolOp .Or (a :: b :: rest) pos) (eOrM fa fb) := by
  refine PE.imp (pe_or ha hb) fun σ H Q ⟨Hf, g, sl, r, q⟩ => ⟨Hf, g, sl, r, (go_bind (Rm := RlD X.K) q).mono fun x H1 ⟨Hf1, g1, c, b1, d1, q1⟩ => ?_⟩
  obtain ⟨k, ek, q2⟩ := go_bl q1
  obtain rfl := asB_some ek
  cases d1
  refine ⟨_, rfl, ?_⟩
  cases k with
  | true => rw [if_pos rfl] at q2 ⊢; exact q2 _ _ _ b1.self (.bl true)
  | false => rw [if_neg (by decide)] at q2 ⊢; exact ⟨Hf1, g1, sl, r.step b1, q2⟩
theorem de_not (ha : DE X Z E Wx a fa) : DE X Z E Wx (.UnaryOp .Not a pos) (eNotM fa) := by
  refine PE.imp (pe_not ha) fun σ H Q ⟨Hf, g, sl, r, q⟩ => ⟨Hf, g, sl, r, (go_bind (Rm := RlD X.K) q).mono fun x H1 ⟨Hf1, g1, c, b1, d1, q1⟩ => ?_⟩
  obtain ⟨k, ek, q2⟩ := go_bl q1
  obtain rfl := asB_some ek
  cases d1
  exact ⟨_, rfl, q2 _ _ _ b1.self (.bl _)⟩
theorem de_if (hc : DT X Z E Wx c ft) (ha : DE X Z E Wx a fa) (hb : DE X Z E Wx b fb) : DE X Z E Wx (.IfExp c a b pos) (eIfM ft fa fb) := by
  refine PE.imp (pe_ifExp hc ha hb) fun σ H Q ⟨Hf, g, sl, r, q⟩ => ⟨Hf, g, sl, r, (go_bind (Rm := RlB) q).mono fun x H1 ⟨Hf1, g1, c, b1, e1, q1⟩ => ?_⟩
  cases e1
  cases x with
  | true => rw [if_pos rfl] at q1 ⊢; exact ⟨Hf1, g1, sl, r.step b1, q1⟩
  | false => rw [if_neg (by decide)] at q1 ⊢; exact ⟨Hf1, g1, sl, r.step b1, q1⟩

/-! displays, arguments -/
theorem da_nil : DA X Z E Wx [] aNil := PA.imp pa_nil fun σ H Q ⟨Hf, g, sl, r, q⟩ => q _ _ _ r.base.self .nil
theorem da_cons {es : List Expr} {fs : M Z.W.G (List D)} (ha : DE X Z E Wx e fe) (hr : DA X Z E Wx es fs) (hs : starEach (e :: es) X.env = (false, eval e X.env) :: starEach es X.env := by rfl) : DA X Z E Wx (e :: es) (aCons fe fs) := by
  refine PA.imp (pa_cons ha hr hs) fun σ H Q ⟨Hf, g, sl, r, q⟩ => ⟨Hf, g, sl, r, (go_bind (Rm := RlD X.K) q).mono fun x H1 ⟨Hf1, g1, c, b1, d1, q1⟩ => ⟨Hf1, g1, sl, r.step b1, (go_bind (Rm := RlA X.K) q1).mono fun xs H2 ⟨Hf2, g2, cs, b2, d2, q2⟩ => ?_⟩⟩
  exact q2 _ _ _ b2.self (.cons (Dv.mono b2.ff c d1) d2)
theorem de_tup {es : List Expr} {fs : M Z.W.G (List D)} {k : Nat} (h : DA X Z E Wx es fs) : DE X Z E Wx (.Tuple es k pos) (eTup fs) := by
  refine PE.imp (pe_tup h) fun σ H Q ⟨Hf, g, sl, r, q⟩ => ⟨Hf, g, sl, r, (go_bind (Rm := RlA X.K) q).mono fun vs H1 ⟨Hf1, g1, cs, b1, d1, q1⟩ => ?_⟩
  obtain ⟨d, ed, k1⟩ := go_lift q1
  split at ed
  · rename_i hl
    cases ed
    refine ⟨by rw [d1.len]; exact lim_line2 hl, fun p hp => k1 _ _ _ (b1.alloc (.tup vs) hp) (.tup upd_same (DvAll.mono (same_new (b1.hn hp)) cs d1))⟩
  · cases ed
theorem de_lst {es : List Expr} {fs : M Z.W.G (List D)} (h : DA X Z E Wx es fs) : DE X Z E Wx (.List es pos) (eLst fs) := by
  refine PE.imp (pe_lst h) fun σ H Q ⟨Hf, g, sl, r, q⟩ => ⟨Hf, g, sl, r, (go_bind (Rm := RlA X.K) q).mono fun vs H1 ⟨Hf1, g1, cs, b1, d1, q1⟩ => ?_⟩
  obtain ⟨d, ed, k1⟩ := go_lift q1
  split at ed
  · rename_i hl
    cases ed
    refine ⟨by rw [d1.len]; exact lim_line2 hl, fun p hp => k1 _ _ _ (b1.alloc (.lst vs) hp) (.lst upd_same (DvAll.mono (same_new (b1.hn hp)) cs d1))⟩
  · cases ed
end
end DL
namespace DL
open PySem L2

/-! ### operations on data -/
def addD : D → D → Option D
  | .int a, .int b => some (.int (a + b))
  | .str a, .str b => if a.length + b.length ≤ LIM then some (.str (a ++ b)) else none
  | .lst a, .lst b => if a.length + b.length ≤ LIM then some (.lst (a ++ b)) else none
  | .tup a, .tup b => if a.length + b.length ≤ LIM then some (.tup (a ++ b)) else none
  | _, _ => none
def subD : D → D → Option D
  | .int a, .int b => some (.int (a - b))
  | _, _ => none
def smallI (i : Int) : Bool := decide (-(2 ^ 64) < i) && decide (i < 2 ^ 64)
def mulD : D → D → Option D
  | .int a, .int b => if smallI a || smallI b then some (.int (a * b)) else none
  | .str a, .int k => if 0 ≤ k ∧ k ≤ 1000 ∧ a.length ≤ 100 then some (.str (List.replicate k.toNat a).flatten) else none
  | .lst a, .int k => if 0 ≤ k ∧ k ≤ 1000 ∧ a.length ≤ 100 then some (.lst (List.replicate k.toNat a).flatten) else none
  | .tup a, .int k => if a ≠ [] ∧ 2 ≤ k ∧ k ≤ 1000 ∧ a.length ≤ 100 then some (.tup (List.replicate k.toNat a).flatten) else none
  | _, _ => none
def fdivD : D → D → Option D
  | .int a, .int b => if 0 < b ∧ b < 1073741824 then some (.int (a / b)) else none
  | _, _ => none
def modD : D → D → Option D
  | .int a, .int b => if 0 < b then some (.int (a % b)) else none
  | _, _ => none
def powD : D → D → Option D
  | .int a, .int b => if 0 ≤ b ∧ b ≤ 1000000 ∧ a.natAbs < 2 ^ 64 then some (.int (a ^ b.toNat)) else none
  | _, _ => none
def negD : D → Option D
  | .int a => some (.int (-a))
  | _ => none
def ltD : D → D → Option D
  | .int a, .int b => some (.bl (decide (a < b)))
  | .str a, .str b => some (.bl (decide (a < b)))
  | _, _ => none
def leD : D → D → Option D
  | .int a, .int b => some (.bl (decide (a ≤ b)))
  | _, _ => none
def gtD : D → D → Option D
  | .int a, .int b => some (.bl (decide (b < a)))
  | _, _ => none
def geD : D → D → Option D
  | .int a, .int b => some (.bl (decide (b ≤ a)))
  | _, _ => none
mutual
/-- as data of the library -/
def toPy : D → PyData
  | .non => .none
  | .bl b => .bool b
  | .int i => .int i
  | .str s => .str (mkS s)
  | .ref _ => .none
  | .tup xs => .tuple (toPys xs)
  | .lst xs => .list (toPys xs)
def toPys : List D → List PyData
  | [] => []
  | d :: ds => toPy d :: toPys ds
end
mutual
/-- no objects within, not too deep -/
def flat : Nat → D → Bool
  | _, .non => true
  | _, .bl _ => true
  | _, .int _ => true
  | _, .str _ => true
  | _, .ref _ => false
  | 0, .tup _ => false
  | 0, .lst _ => false
  | n + 1, .tup xs => flats n xs
  | n + 1, .lst xs => flats n xs
def flats : Nat → List D → Bool
  | _, [] => true
  | n, d :: ds => flat n d && flats n ds
end
mutual
/-- == -/
def eqB : D → D → Bool
  | .non, .non => true
  | .bl a, .bl b => a == b
  | .bl a, .int j => (if a then 1 else 0) == j
  | .int i, .bl b => i == (if b then 1 else 0)
  | .int i, .int j => i == j
  | .str x, .str y => x == y
  | .lst xs, .lst ys => eqBs xs ys
  | .tup xs, .tup ys => eqBs xs ys
  | _, _ => false
def eqBs : List D → List D → Bool
  | [], [] => true
  | x :: xs, y :: ys => eqB x y && eqBs xs ys
  | _, _ => false
end
def eqD (a b : D) : Option D := if flat 8 a && flat 8 b then some (.bl (eqB a b)) else none
def neD (a b : D) : Option D := if flat 8 a && flat 8 b then some (.bl (!eqB a b)) else none
def isN (a b : D) : Option D := match b with
  | .non => match a with
    | .non => some (.bl true)
    | _ => some (.bl false)
  | _ => none
def notN (a b : D) : Option D := match b with
  | .non => match a with
    | .non => some (.bl false)
    | _ => some (.bl true)
  | _ => none
def flat0 : D → Bool
  | .non => true
  | .bl _ => true
  | .int _ => true
  | .str _ => true
  | _ => false
/-- a stands in b, from the left -/
def isPre : List Nat → List Nat → Bool
  | [], _ => true
  | _ :: _, [] => false
  | a :: as, b :: bs => a == b && isPre as bs
def isSub (a : List Nat) : List Nat → Bool
  | [] => a.isEmpty
  | b :: bs => isPre a (b :: bs) || isSub a bs
def inB (a b : D) : Option Bool := match b with
  | .tup xs => if flat0 a && xs.all flat0 then some (xs.any fun y => eqB y a) else none
  | .lst xs => if flat0 a && xs.all flat0 then some (xs.any fun y => eqB y a) else none
  | .str t => match a with
    | .str s => some (isSub s t)
    | _ => none
  | _ => none
def inD (a b : D) : Option D := (inB a b).map D.bl
def ninD (a b : D) : Option D := (inB a b).map fun c => D.bl (!c)

/-! ### what is read -/
section
variable {W : Wd} {K : PySem.W.Frag} {H Hf : Hp} {g : W.G} {v : V}
theorem Dr.int {i : Int} (h : Dr K g Hf H v (.int i)) : v = .int i := by
  rcases h with h | ⟨_, _, _, _, e, _⟩
  · cases h; rfl
  · cases e
theorem Dr.bl {i : Bool} (h : Dr K g Hf H v (.bl i)) : v = .bl i := by
  rcases h with h | ⟨_, _, _, _, e, _⟩
  · cases h; rfl
  · cases e
theorem Dr.non (h : Dr K g Hf H v .non) : v = .non := by
  rcases h with h | ⟨_, _, _, _, e, _⟩
  · cases h; rfl
  · cases e
theorem Dr.str {i : List Nat} (h : Dr K g Hf H v (.str i)) : v = .str (mkS i) ∧ okS i := by
  rcases h with h | ⟨_, _, _, _, e, _⟩
  · cases h with | str _ ok => exact ⟨rfl, ok⟩
  · cases e
theorem Dr.lst {ds : List D} (s : Same Hf H) (h : Dr K g Hf H v (.lst ds)) : ∃ a vs, v = .ref a ∧ H a = some (.lst vs) ∧ DvAll K Hf vs ds := by
  rcases h with h | ⟨a, vs, _, e1, e, h1, h2, _⟩
  · cases h with | lst h1 h2 => exact ⟨_, _, rfl, s _ _ h1, h2⟩
  · cases e
    exact ⟨a, vs, e1, h1, h2⟩
theorem Dr.tup {ds : List D} (h : Dr K g Hf H v (.tup ds)) : ∃ a vs, v = .ref a ∧ Hf a = some (.tup vs) ∧ DvAll K Hf vs ds := by
  rcases h with h | ⟨a, vs, _, e1, e, h1, h2, _⟩
  · cases h with | tup h1 h2 => exact ⟨_, _, rfl, h1, h2⟩
  · cases e
theorem Dv.dr {d : D} (h : Dv K Hf v d) : Dr K g Hf H v d := .inl h
end
theorem mkS_app (a b : List Nat) : mkS a ++ mkS b = mkS (a ++ b) := by
  apply TL.ext_tl
  rw [TL.tl_append]
  simp [TL.tl, mkS]
theorem okS_app {a b : List Nat} (ha : okS a) (hb : okS b) (h : a.length + b.length ≤ LIM) : okS (a ++ b) :=
  ⟨by rw [List.length_append]; exact h, fun c hc => by rcases List.mem_append.mp hc with z | z; exact ha.2 c z; exact hb.2 c z⟩
theorem okS_sub {a b : List Nat} (ha : okS a) (hl : b.length ≤ a.length) (h : ∀ c ∈ b, c ∈ a) : okS b := ⟨Nat.le_trans hl ha.1, fun c hc => ha.2 c (h c hc)⟩
theorem okS_lim {a : List Nat} (h : okS a) : (mkS a).length ≤ sizeLine := by rw [mkS_len]; exact lim_line2 h.1

section
variable {X : Cx}
theorem od_add : OpD X (binaryOp .Add) addD := by
  refine ⟨_, OpR.or op_add (OpR.or op_add_str (OpR.or op_cat op_catA)), fun W H Hf g x y a b d Q B ha hb ed k => ?_⟩
  match a, b, ed, ha, hb with
  | .int i, .int j, ed, ha, hb =>
    cases ed
    obtain rfl := ha.int
    obtain rfl := hb.int
    exact .inl ⟨i, j, rfl, rfl, k _ _ _ B (.int _)⟩
  | .str i, .str j, ed, ha, hb =>
    obtain ⟨rfl, o1⟩ := ha.str
    obtain ⟨rfl, o2⟩ := hb.str
    simp only [addD] at ed
    split at ed
    · rename_i hl
      cases ed
      refine .inr (.inl ⟨_, _, rfl, rfl, by rw [mkS_len, mkS_len]; exact lim_line2 hl, ?_⟩)
      rw [mkS_app]
      exact k _ _ _ B (.str _ (okS_app o1 o2 hl))
    · cases ed
  | .lst i, .lst j, ed, ha, hb =>
    obtain ⟨a, vs, rfl, h1, d1⟩ := ha.lst B.fh
    obtain ⟨b, ws, rfl, h2, d2⟩ := hb.lst B.fh
    simp only [addD] at ed
    split at ed
    · rename_i hl
      cases ed
      refine .inr (.inr (.inl ⟨a, b, vs, ws, rfl, rfl, h1, h2, by rw [d1.len, d2.len]; exact lim_line2 hl, fun p hp => ?_⟩))
      exact k _ _ _ (B.alloc _ hp) (.lst upd_same (DvAll.mono (same_new (B.hn hp)) _ (d1.append d2)))
    · cases ed
  | .tup i, .tup j, ed, ha, hb =>
    obtain ⟨a, vs, rfl, h1, d1⟩ := ha.tup
    obtain ⟨b, ws, rfl, h2, d2⟩ := hb.tup
    simp only [addD] at ed
    split at ed
    · rename_i hl
      cases ed
      refine .inr (.inr (.inr ⟨a, b, vs, ws, rfl, rfl, SqT.of (B.fh _ _ h1), SqT.of (B.fh _ _ h2), by rw [d1.len, d2.len]; exact lim_line2 hl, fun e => ?_, fun _ e => ?_, fun _ _ p hp => ?_⟩))
      · subst e
        cases d1
        exact k _ _ _ B (.tup h2 d2)
      · subst e
        cases d2
        refine k _ _ _ B (.tup h1 ?_)
        rw [List.append_nil]; exact d1
      · exact k _ _ _ (B.alloc _ hp) (.tup upd_same (DvAll.mono (same_new (B.hn hp)) _ (d1.append d2)))
    · cases ed
theorem od_sub : OpD X (binaryOp .Sub) subD := by
  refine ⟨_, op_sub, fun W H Hf g x y a b d Q B ha hb ed k => ?_⟩
  match a, b, ed, ha, hb with
  | .int i, .int j, ed, ha, hb =>
    cases ed
    obtain rfl := ha.int
    obtain rfl := hb.int
    exact ⟨i, j, rfl, rfl, k _ _ _ B (.int _)⟩
theorem od_fdiv : OpD X (binaryOp .FloorDiv) fdivD := by
  refine ⟨_, op_fdiv, fun W H Hf g x y a b d Q B ha hb ed k => ?_⟩
  match a, b, ed, ha, hb with
  | .int i, .int j, ed, ha, hb =>
    obtain rfl := ha.int
    obtain rfl := hb.int
    simp only [fdivD] at ed
    split at ed
    · rename_i hc
      cases ed
      exact ⟨i, j, rfl, rfl, hc, k _ _ _ B (.int _)⟩
    · cases ed
theorem od_mod : OpD X (binaryOp .Mod) modD := by
  refine ⟨_, op_mod, fun W H Hf g x y a b d Q B ha hb ed k => ?_⟩
  match a, b, ed, ha, hb with
  | .int i, .int j, ed, ha, hb =>
    obtain rfl := ha.int
    obtain rfl := hb.int
    simp only [modD] at ed
    split at ed
    · rename_i hc
      cases ed
      exact ⟨i, j, rfl, rfl, hc, k _ _ _ B (.int _)⟩
    · cases ed
theorem od_pow : OpD X (binaryOp .Pow) powD := by
  refine ⟨_, op_pow, fun W H Hf g x y a b d Q B ha hb ed k => ?_⟩
  match a, b, ed, ha, hb with
  | .int i, .int j, ed, ha, hb =>
    obtain rfl := ha.int
    obtain rfl := hb.int
    simp only [powD] at ed
    split at ed
    · rename_i hc
      cases ed
      exact ⟨i, j, rfl, rfl, hc, k _ _ _ B (.int _)⟩
    · cases ed
theorem od_lt : OpD X (compareOp .Lt) ltD := by
  refine ⟨_, OpR.or op_lt op_lt_str, fun W H Hf g x y a b d Q B ha hb ed k => ?_⟩
  match a, b, ed, ha, hb with
  | .int i, .int j, ed, ha, hb =>
    cases ed
    obtain rfl := ha.int
    obtain rfl := hb.int
    exact .inl ⟨i, j, rfl, rfl, k _ _ _ B (.bl _)⟩
  | .str i, .str j, ed, ha, hb =>
    cases ed
    obtain ⟨rfl, o1⟩ := ha.str
    obtain ⟨rfl, o2⟩ := hb.str
    refine .inr ⟨_, _, rfl, rfl, ?_⟩
    rw [mkS_cps, mkS_cps]
    exact k _ _ _ B (.bl _)
theorem od_le : OpD X (compareOp .LtE) leD := by
  refine ⟨_, op_le, fun W H Hf g x y a b d Q B ha hb ed k => ?_⟩
  match a, b, ed, ha, hb with
  | .int i, .int j, ed, ha, hb =>
    cases ed
    obtain rfl := ha.int
    obtain rfl := hb.int
    exact ⟨i, j, rfl, rfl, k _ _ _ B (.bl _)⟩
theorem od_gt : OpD X (compareOp .Gt) gtD := by
  refine ⟨_, op_gt, fun W H Hf g x y a b d Q B ha hb ed k => ?_⟩
  match a, b, ed, ha, hb with
  | .int i, .int j, ed, ha, hb =>
    cases ed
    obtain rfl := ha.int
    obtain rfl := hb.int
    exact ⟨i, j, rfl, rfl, k _ _ _ B (.bl _)⟩
theorem od_ge : OpD X (compareOp .GtE) geD := by
  refine ⟨_, op_ge, fun W H Hf g x y a b d Q B ha hb ed k => ?_⟩
  match a, b, ed, ha, hb with
  | .int i, .int j, ed, ha, hb =>
    cases ed
    obtain rfl := ha.int
    obtain rfl := hb.int
    exact ⟨i, j, rfl, rfl, k _ _ _ B (.bl _)⟩
theorem od_isN : OpD X (compareOp .Is) isN := by
  refine ⟨_, op_isN, fun W H Hf g x y a b d Q B ha hb ed k => ?_⟩
  match b, ed, hb with
  | .non, ed, hb =>
    obtain rfl := hb.non
    refine ⟨rfl, ?_⟩
    have ha' := ha.h B.fh
    match a, ed, ha' with
    | .non, ed, h => cases ed; cases h; exact k _ _ _ B (.bl _)
    | .bl _, ed, h => cases ed; cases h; exact k _ _ _ B (.bl _)
    | .int _, ed, h => cases ed; cases h; exact k _ _ _ B (.bl _)
    | .str _, ed, h => cases ed; cases h; exact k _ _ _ B (.bl _)
    | .ref _, ed, h => cases ed; cases h; exact k _ _ _ B (.bl _)
    | .tup _, ed, h => cases ed; cases h; exact k _ _ _ B (.bl _)
    | .lst _, ed, h => cases ed; cases h; exact k _ _ _ B (.bl _)
theorem od_notN : OpD X (compareOp .IsNot) notN := by
  refine ⟨_, op_notN, fun W H Hf g x y a b d Q B ha hb ed k => ?_⟩
  match b, ed, hb with
  | .non, ed, hb =>
    obtain rfl := hb.non
    refine ⟨rfl, ?_⟩
    have ha' := ha.h B.fh
    match a, ed, ha' with
    | .non, ed, h => cases ed; cases h; exact k _ _ _ B (.bl _)
    | .bl _, ed, h => cases ed; cases h; exact k _ _ _ B (.bl _)
    | .int _, ed, h => cases ed; cases h; exact k _ _ _ B (.bl _)
    | .str _, ed, h => cases ed; cases h; exact k _ _ _ B (.bl _)
    | .ref _, ed, h => cases ed; cases h; exact k _ _ _ B (.bl _)
    | .tup _, ed, h => cases ed; cases h; exact k _ _ _ B (.bl _)
    | .lst _, ed, h => cases ed; cases h; exact k _ _ _ B (.bl _)

/-! == by the library's data -/
mutual
theorem dp_of {K : PySem.W.Frag} {H : Hp} : ∀ (n : Nat) (d : D) {v : V}, flat n d = true → Dv K H v d → Dp K H v (toPy d) ∧ (toPy d).canLay0 = true ∧ (toPy d).depth ≤ n
  | n, .non, _, f, h => by cases h; exact ⟨.non, rfl, Nat.zero_le _⟩
  | n, .bl b, _, f, h => by cases h; exact ⟨.bl b, rfl, Nat.zero_le _⟩
  | n, .int b, _, f, h => by cases h; exact ⟨.int b, rfl, Nat.zero_le _⟩
  | n, .str b, _, f, h => by
    cases h with
    | str _ ok =>
      refine ⟨.str _, ?_, Nat.zero_le _⟩
      show PyData.strOk (mkS b) = true
      unfold PyData.strOk mkS
      simp only [List.all_toArray, List.all_eq_true, decide_eq_true_eq]
      exact ok.2
  | n, .ref b, _, f, h => by cases n <;> simp [flat] at f
  | 0, .tup xs, _, f, h => by simp [flat] at f
  | 0, .lst xs, _, f, h => by simp [flat] at f
  | n + 1, .tup xs, _, f, h => by
    cases h with
    | tup h1 h2 =>
      obtain ⟨a, b, c⟩ := dps_of n xs (by simpa [flat] using f) h2
      exact ⟨.tup (SqT.of h1) a, b, Nat.succ_le_succ c⟩
  | n + 1, .lst xs, _, f, h => by
    cases h with
    | lst h1 h2 =>
      obtain ⟨a, b, c⟩ := dps_of n xs (by simpa [flat] using f) h2
      exact ⟨.lst (SqL.of h1) a, b, Nat.succ_le_succ c⟩
theorem dps_of {K : PySem.W.Frag} {H : Hp} : ∀ (n : Nat) (ds : List D) {vs : List V}, flats n ds = true → DvAll K H vs ds → DpAll K H vs (toPys ds) ∧ PyData.canLayAll0 (toPys ds) = true ∧ PyData.depthAll (toPys ds) ≤ n
  | n, [], _, f, h => by cases h; exact ⟨.nil, rfl, Nat.zero_le _⟩
  | n, d :: ds, _, f, h => by
    cases h with
    | cons h1 h2 =>
      have f' : flat n d = true ∧ flats n ds = true := by simpa [flats] using f
      obtain ⟨a, b, c⟩ := dp_of n d f'.1 h1
      obtain ⟨a', b', c'⟩ := dps_of n ds f'.2 h2
      refine ⟨.cons a a', ?_, ?_⟩
      · show ((toPy d).canLay0 && PyData.canLayAll0 (toPys ds)) = true
        rw [b, b']; rfl
      · show max (toPy d).depth (PyData.depthAll (toPys ds)) ≤ n
        exact Nat.max_le.mpr ⟨c, c'⟩
end
theorem mkS_beq (a b : List Nat) : (mkS a == mkS b) = (a == b) := by
  by_cases h : a = b
  · subst h; simp
  · have : ¬ mkS a = mkS b := fun z => h (mkS_inj z)
    rw [beq_eq_false_iff_ne.mpr h]
    exact beq_eq_false_iff_ne.mpr this
mutual
theorem eqv_of : ∀ (n m : Nat) (a b : D), flat n a = true → flat m b = true → PyData.eqv (toPy a) (toPy b) = eqB a b
  | n, m, a, .ref _, _, f => by cases m <;> simp [flat] at f
  | n, m, .ref _, b, f, _ => by cases n <;> simp [flat] at f
  | n, m, .non, .non, _, _ => rfl
  | n, m, .non, .bl _, _, _ => rfl
  | n, m, .non, .int _, _, _ => rfl
  | n, m, .non, .str _, _, _ => rfl
  | n, m, .non, .tup _, _, _ => rfl
  | n, m, .non, .lst _, _, _ => rfl
  | n, m, .bl _, .non, _, _ => rfl
  | n, m, .bl _, .bl _, _, _ => rfl
  | n, m, .bl _, .int _, _, _ => rfl
  | n, m, .bl _, .str _, _, _ => rfl
  | n, m, .bl _, .tup _, _, _ => rfl
  | n, m, .bl _, .lst _, _, _ => rfl
  | n, m, .int _, .non, _, _ => rfl
  | n, m, .int _, .bl _, _, _ => rfl
  | n, m, .int _, .int _, _, _ => rfl
  | n, m, .int _, .str _, _, _ => rfl
  | n, m, .int _, .tup _, _, _ => rfl
  | n, m, .int _, .lst _, _, _ => rfl
  | n, m, .str _, .non, _, _ => rfl
  | n, m, .str _, .bl _, _, _ => rfl
  | n, m, .str _, .int _, _, _ => rfl
  | n, m, .str a, .str b, _, _ => mkS_beq a b
  | n, m, .str _, .tup _, _, _ => rfl
  | n, m, .str _, .lst _, _, _ => rfl
  | n, m, .tup _, .non, _, _ => rfl
  | n, m, .tup _, .bl _, _, _ => rfl
  | n, m, .tup _, .int _, _, _ => rfl
  | n, m, .tup _, .str _, _, _ => rfl
  | n, m, .tup _, .lst _, _, _ => rfl
  | n, m, .lst _, .non, _, _ => rfl
  | n, m, .lst _, .bl _, _, _ => rfl
  | n, m, .lst _, .int _, _, _ => rfl
  | n, m, .lst _, .str _, _, _ => rfl
  | n, m, .lst _, .tup _, _, _ => rfl
  | 0, _, .tup _, .tup _, f, _ => by simp [flat] at f
  | _ + 1, 0, .tup _, .tup _, _, f => by simp [flat] at f
  | n + 1, m + 1, .tup xs, .tup ys, f, f' => eqvs_of n m xs ys (by simpa [flat] using f) (by simpa [flat] using f')
  | 0, _, .lst _, .lst _, f, _ => by simp [flat] at f
  | _ + 1, 0, .lst _, .lst _, _, f => by simp [flat] at f
  | n + 1, m + 1, .lst xs, .lst ys, f, f' => eqvs_of n m xs ys (by simpa [flat] using f) (by simpa [flat] using f')
theorem eqvs_of : ∀ (n m : Nat) (a b : List D), flats n a = true → flats m b = true → PyData.eqvAll (toPys a) (toPys b) = eqBs a b
  | _, _, [], [], _, _ => rfl
  | _, _, [], _ :: _, _, _ => rfl
  | _, _, _ :: _, [], _, _ => rfl
  | n, m, x :: xs, y :: ys, f, f' => by
    have g : flat n x = true ∧ flats n xs = true := by simpa [flats] using f
    have g' : flat m y = true ∧ flats m ys = true := by simpa [flats] using f'
    show (PyData.eqv (toPy x) (toPy y) && PyData.eqvAll (toPys xs) (toPys ys)) = (eqB x y && eqBs xs ys)
    rw [eqv_of n m x y g.1 g'.1, eqvs_of n m xs ys g.2 g'.2]
end
theorem shaped_of {K : PySem.W.Frag} {H : Hp} {d : D} {v : V} (f : flat 8 d = true) (h : Dv K H v d) : SeqAt.shaped (toPy d) = true := by
  obtain ⟨_, b, c⟩ := dp_of 8 d f h
  unfold SeqAt.shaped
  rw [b]
  simp only [Bool.true_and, decide_eq_true_eq]
  omega
theorem od_eq (hu : X.A.units + 64 < cLine) : OpD X (compareOp .Eq) eqD := by
  refine ⟨_, op_eqD hu, fun W H Hf g x y a b d Q B ha hb ed k => ?_⟩
  unfold eqD at ed
  split at ed
  · rename_i hc
    cases ed
    have hc' : flat 8 a = true ∧ flat 8 b = true := by simpa using hc
    have h1 := ha.h B.fh
    have h2 := hb.h B.fh
    refine ⟨toPy a, toPy b, (dp_of 8 a hc'.1 h1).1, (dp_of 8 b hc'.2 h2).1, shaped_of hc'.1 h1, shaped_of hc'.2 h2, ?_⟩
    rw [eqv_of 8 8 a b hc'.1 hc'.2]
    exact k _ _ _ B (.bl _)
  · cases ed
theorem od_ne (hu : X.A.units + 64 < cLine) : OpD X (compareOp .NotEq) neD := by
  refine ⟨_, op_neD hu, fun W H Hf g x y a b d Q B ha hb ed k => ?_⟩
  unfold neD at ed
  split at ed
  · rename_i hc
    cases ed
    have hc' : flat 8 a = true ∧ flat 8 b = true := by simpa using hc
    have h1 := ha.h B.fh
    have h2 := hb.h B.fh
    refine ⟨toPy a, toPy b, (dp_of 8 a hc'.1 h1).1, (dp_of 8 b hc'.2 h2).1, shaped_of hc'.1 h1, shaped_of hc'.2 h2, ?_⟩
    rw [eqv_of 8 8 a b hc'.1 hc'.2]
    exact k _ _ _ B (.bl _)
  · cases ed
end
end DL
namespace DL
open PySem L2

/-! ### in -/
theorem isPre_iff : ∀ (a b : List Nat), isPre a b = true ↔ b.take a.length = a
  | [], b => by simp [isPre]
  | x :: a, [] => by simp [isPre]
  | x :: a, y :: b => by
    simp only [isPre, Bool.and_eq_true, beq_iff_eq, List.length_cons, List.take_succ_cons, List.cons.injEq]
    rw [isPre_iff a b]
    constructor
    · rintro ⟨rfl, h⟩; exact ⟨rfl, h⟩
    · rintro ⟨rfl, h⟩; exact ⟨rfl, h⟩
theorem isSub_iff (a : List Nat) : ∀ t : List Nat, isSub a t = true ↔ ∃ i, i + a.length ≤ t.length ∧ (t.drop i).take a.length = a
  | [] => by
    constructor
    · intro h
      have : a = [] := by simpa [isSub] using h
      subst this
      exact ⟨0, by simp, by simp⟩
    · rintro ⟨i, h1, h2⟩
      have : a = [] := by
        have h3 : a.length = 0 := by
          have : i + a.length ≤ 0 := h1
          omega
        exact List.length_eq_zero_iff.mp h3
      subst this
      rfl
  | b :: bs => by
    have ih := isSub_iff a bs
    show (isPre a (b :: bs) || isSub a bs) = true ↔ _
    rw [Bool.or_eq_true, isPre_iff, ih]
    constructor
    · rintro (h | ⟨i, h1, h2⟩)
      · refine ⟨0, ?_, by simpa using h⟩
        have := congrArg List.length h
        rw [List.length_take] at this
        omega
      · exact ⟨i + 1, by simp; omega, by simpa using h2⟩
    · rintro ⟨i, h1, h2⟩
      cases i with
      | zero => exact .inl (by simpa using h2)
      | succ i => exact .inr ⟨i, by simp at h1; omega, by simpa using h2⟩
theorem occ_isSub (s t : List Nat) : (!(Builtin.Str.occurrences (mkS t) (mkS s) 0 (mkS t).length 1).isEmpty) = isSub s t := by
  rw [Bool.eq_iff_iff, StrLaws.found_iff, isSub_iff]
  have key : ∀ i, Builtin.Str.subAt (mkS t) (mkS s) i = true ↔ (t.drop i).take s.length = s := by
    intro i
    unfold Builtin.Str.subAt mkS
    rw [beq_iff_eq]
    simp only [Str.length, List.size_toArray, List.extract_toArray]
    constructor
    · intro h
      have := congrArg Array.toList h
      simp [List.extract] at this
      exact this
    · intro h
      congr 1
      simp only [List.extract]
      rw [show i + s.length - i = s.length by omega]
      exact h
  constructor
  · rintro ⟨i, h1, h2⟩
    rw [mkS_len, mkS_len] at h1
    exact ⟨i, h1, (key i).mp h2⟩
  · rintro ⟨i, h1, h2⟩
    exact ⟨i, by rw [mkS_len, mkS_len]; exact h1, (key i).mpr h2⟩
theorem flat0_V {K : PySem.W.Frag} {H : Hp} : ∀ {d : D} {v : V}, flat0 d = true → Dv K H v d → flatV v = true
  | .non, _, _, h => by cases h; rfl
  | .bl _, _, _, h => by cases h; rfl
  | .int _, _, _, h => by cases h; rfl
  | .str _, _, _, h => by cases h; rfl
theorem flat0_Vs {K : PySem.W.Frag} {H : Hp} : ∀ {ds : List D} {vs : List V}, ds.all flat0 = true → DvAll K H vs ds → vs.all flatV = true
  | [], _, _, h => by cases h; rfl
  | d :: ds, _, f, h => by
    cases h with
    | cons h1 h2 =>
      simp only [List.all_cons, Bool.and_eq_true] at f ⊢
      exact ⟨flat0_V f.1 h1, flat0_Vs f.2 h2⟩
theorem eqV_of {K : PySem.W.Frag} {H : Hp} : ∀ {a b : D} {x y : V}, flat0 a = true → flat0 b = true → Dv K H x a → Dv K H y b → eqV x y = eqB a b
  | .non, .non, _, _, _, _, h, h' => by cases h; cases h'; rfl
  | .non, .bl _, _, _, _, _, h, h' => by cases h; cases h'; rfl
  | .non, .int _, _, _, _, _, h, h' => by cases h; cases h'; rfl
  | .non, .str _, _, _, _, _, h, h' => by cases h; cases h'; rfl
  | .bl _, .non, _, _, _, _, h, h' => by cases h; cases h'; rfl
  | .bl _, .bl _, _, _, _, _, h, h' => by cases h; cases h'; rfl
  | .bl _, .int _, _, _, _, _, h, h' => by cases h; cases h'; rfl
  | .bl _, .str _, _, _, _, _, h, h' => by cases h; cases h'; rfl
  | .int _, .non, _, _, _, _, h, h' => by cases h; cases h'; rfl
  | .int _, .bl _, _, _, _, _, h, h' => by cases h; cases h'; rfl
  | .int _, .int _, _, _, _, _, h, h' => by cases h; cases h'; rfl
  | .int _, .str _, _, _, _, _, h, h' => by cases h; cases h'; rfl
  | .str _, .non, _, _, _, _, h, h' => by cases h; cases h'; rfl
  | .str _, .bl _, _, _, _, _, h, h' => by cases h; cases h'; rfl
  | .str _, .int _, _, _, _, _, h, h' => by cases h; cases h'; rfl
  | .str a, .str b, _, _, _, _, h, h' => by cases h; cases h'; exact mkS_beq a b
theorem inV_of {K : PySem.W.Frag} {H : Hp} {a : D} {x : V} (fa : flat0 a = true) (ha : Dv K H x a) : ∀ {ds : List D} {vs : List V}, ds.all flat0 = true → DvAll K H vs ds → inV x vs = ds.any fun y => eqB y a
  | [], _, _, h => by cases h; rfl
  | d :: ds, _, f, h => by
    cases h with
    | cons h1 h2 =>
      simp only [List.all_cons, Bool.and_eq_true] at f
      have ih := inV_of fa ha f.2 h2
      unfold inV at ih ⊢
      rw [List.any_cons, List.any_cons, ih, eqV_of f.1 fa h1 ha]
section
variable {X : Cx}
theorem in_run {W : Wd} {H Hf : Hp} {g : W.G} {x y : V} {a b : D} {c : Bool} {Q : VK} (neg : Bool) (B : Base W H Hf g H Hf g) (ha : Dr X.K g Hf H x a) (hb : Dr X.K g Hf H y b) (ed : inB a b = some c) (k : Q (.bl (if neg then !c else c)) H) :
    (∃ i j, x = .str i ∧ y = .str j ∧ Q (.bl (if neg then !(!(Builtin.Str.occurrences j i 0 j.length 1).isEmpty) else !(Builtin.Str.occurrences j i 0 j.length 1).isEmpty)) H) ∨ rIn X.K neg x y H Q := by
  unfold inB at ed
  match b, ed, hb with
  | .tup xs, ed, hb =>
    simp only at ed
    split at ed
    · rename_i hc
      cases ed
      have hc' : flat0 a = true ∧ xs.all flat0 = true := by simpa using hc
      obtain ⟨p, vs, rfl, h1, h2⟩ := hb.tup
      have h2' := DvAll.mono B.fh _ h2
      refine .inr ⟨p, vs, rfl, .inr (SqT.of (B.fh _ _ h1)), flat0_V hc'.1 (ha.h B.fh), flat0_Vs hc'.2 h2', ?_⟩
      rw [inV_of hc'.1 (ha.h B.fh) hc'.2 h2']
      exact k
    · cases ed
  | .lst xs, ed, hb =>
    simp only at ed
    split at ed
    · rename_i hc
      cases ed
      have hc' : flat0 a = true ∧ xs.all flat0 = true := by simpa using hc
      obtain ⟨p, vs, rfl, h1, h2⟩ := hb.lst B.fh
      have h2' := DvAll.mono B.fh _ h2
      refine .inr ⟨p, vs, rfl, .inl (SqL.of h1), flat0_V hc'.1 (ha.h B.fh), flat0_Vs hc'.2 h2', ?_⟩
      rw [inV_of hc'.1 (ha.h B.fh) hc'.2 h2']
      exact k
    · cases ed
  | .str t, ed, hb =>
    match a, ed, ha with
    | .str s, ed, ha =>
      cases ed
      obtain ⟨rfl, _⟩ := ha.str
      obtain ⟨rfl, _⟩ := hb.str
      refine .inl ⟨_, _, rfl, rfl, ?_⟩
      rw [occ_isSub]
      exact k
theorem od_in : OpD X (compareOp .In) inD := by
  refine ⟨_, OpR.or op_in_str op_in_seq, fun W H Hf g x y a b d Q B ha hb ed k => ?_⟩
  unfold inD at ed
  obtain ⟨c, e1, rfl⟩ := Option.map_eq_some_iff.mp ed
  exact in_run false B ha hb e1 (k _ _ _ B (.bl _))
theorem od_nin : OpD X (compareOp .NotIn) ninD := by
  refine ⟨_, OpR.or op_notin_str op_notIn_seq, fun W H Hf g x y a b d Q B ha hb ed k => ?_⟩
  unfold ninD at ed
  obtain ⟨c, e1, rfl⟩ := Option.map_eq_some_iff.mp ed
  exact in_run true B ha hb e1 (k _ _ _ B (.bl _))

/-! ### times -/
theorem rep_flat (n : Nat) (a : List Nat) : (List.replicate n a.toArray).foldl (· ++ ·) #[] = ((List.replicate n a).flatten).toArray := by
  have key : ∀ (n : Nat) (acc : List Nat), (List.replicate n a.toArray).foldl (· ++ ·) acc.toArray = (acc ++ (List.replicate n a).flatten).toArray := by
    intro n
    induction n with
    | zero => intro acc; simp
    | succ n ih =>
      intro acc
      rw [List.replicate_succ, List.foldl_cons, List.append_toArray, ih, List.replicate_succ, List.flatten_cons, List.append_assoc]
  have := key n []
  simpa using this
theorem rep_len {α : Type} (n : Nat) (a : List α) : ((List.replicate n a).flatten).length = n * a.length := by
  induction n with
  | zero => simp
  | succ n ih => rw [List.replicate_succ, List.flatten_cons, List.length_append, ih, Nat.succ_mul, Nat.add_comm]
theorem op_rep_str : OpR X (binaryOp .Mult) (fun x y H Q => ∃ (s : List Nat) (k : Int), x = .str (mkS s) ∧ y = .int k ∧ 0 ≤ k ∧ k ≤ 1000 ∧ s.length ≤ 100 ∧ Q (.str (mkS (List.replicate k.toNat s).flatten)) H) := by
  intro pins s σ H x y v u Q I rx ry h
  obtain ⟨i, k, rfl, rfl, h0, h1, h2, q⟩ := h
  obtain ⟨t, rfl⟩ := rx
  obtain ⟨t', rfl⟩ := ry
  have hl : i.length * k.toNat ≤ 100000 := by
    have e1 : k.toNat ≤ 1000 := by omega
    calc i.length * k.toNat ≤ 100 * 1000 := Nat.mul_le_mul h2 e1
      _ = 100000 := rfl
  refine P.mul_str ?_ (fun hk hz => ?_) (fun hk hz => ?_) ?_
  · have a1 : ¬ k < -(2 ^ 63 : Int) := by omega
    have a2 : ¬ k ≥ (2 ^ 63 : Int) := by omega
    rw [decide_eq_false a1, decide_eq_false a2]; rfl
  · intro hgt
    rw [mkS_len] at hgt
    have e1 : (2 ^ 63 - 1 : Int) / k ≥ (2 ^ 63 - 1) / 1000 := by
      apply Int.le_ediv_of_mul_le (by omega)
      have : (2 ^ 63 - 1 : Int) / 1000 * k ≤ (2 ^ 63 - 1) / 1000 * 1000 := Int.mul_le_mul_of_nonneg_left h1 (by decide)
      omega
    omega
  · rw [mkS_len]
    unfold PySem.Builtin.Str.tooLong
    simp only [decide_eq_false_iff_not]
    have : (100000 : Nat) ≤ sizeLine := by decide
    omega
  · split
    · rename_i hk
      refine ⟨by decide, .str Str.empty, H, I.tok _, ⟨_, rfl⟩, ?_⟩
      have : k.toNat = 0 := by omega
      rw [this] at q
      exact q
    · split
      · rename_i hk hz
        refine ⟨.str (mkS i), H, I, ⟨_, rfl⟩, ?_⟩
        have : (List.replicate k.toNat i).flatten = i := by
          rcases Bool.or_eq_true_iff.mp hz with z | z
          · have : k = 1 := eq_of_beq z
            subst this
            simp
          · rw [mkS_len] at z
            have : i = [] := List.length_eq_zero_iff.mp (eq_of_beq z)
            subst this
            simp
        rw [this] at q
        exact q
      · have e : (⟨(List.replicate k.toNat (mkS i).cps).foldl (· ++ ·) #[]⟩ : Str) = mkS (List.replicate k.toNat i).flatten := by
          unfold mkS
          rw [rep_flat]
        rw [e]
        refine ⟨?_, .str _, H, I.tok _, ⟨_, rfl⟩, q⟩
        rw [mkS_len, rep_len, Nat.mul_comm]
        exact Nat.le_trans hl (by decide)
theorem od_mul : OpD X (binaryOp .Mult) mulD := by
  refine ⟨_, OpR.or op_mul (OpR.or op_rep_str (OpR.or op_rep op_repT)), fun W H Hf g x y a b d Q B ha hb ed k => ?_⟩
  match a, b, ed, ha, hb with
  | .int i, .int j, ed, ha, hb =>
    obtain rfl := ha.int
    obtain rfl := hb.int
    simp only [mulD] at ed
    split at ed
    · rename_i hc
      cases ed
      refine .inl ⟨i, j, rfl, rfl, ?_, k _ _ _ B (.int _)⟩
      unfold CMul
      simp only [smallI, Bool.or_eq_true, Bool.and_eq_true, decide_eq_true_eq] at hc
      exact hc
    · cases ed
  | .str i, .int j, ed, ha, hb =>
    obtain ⟨rfl, o1⟩ := ha.str
    obtain rfl := hb.int
    simp only [mulD] at ed
    split at ed
    · rename_i hc
      cases ed
      refine .inr (.inl ⟨i, j, rfl, rfl, hc.1, hc.2.1, hc.2.2, k _ _ _ B (.str _ ⟨?_, ?_⟩)⟩)
      · rw [rep_len]
        have e1 : j.toNat ≤ 1000 := by omega
        calc j.toNat * i.length ≤ 1000 * 100 := Nat.mul_le_mul e1 hc.2.2
          _ = 100000 := rfl
      · intro c hc'
        obtain ⟨l, h1, h2⟩ := List.mem_flatten.mp hc'
        obtain ⟨_, rfl⟩ := List.mem_replicate.mp h1
        exact o1.2 c h2
    · cases ed
  | .lst i, .int j, ed, ha, hb =>
    obtain ⟨p, vs, rfl, h1, h2⟩ := ha.lst B.fh
    obtain rfl := hb.int
    simp only [mulD] at ed
    split at ed
    · rename_i hc
      cases ed
      refine .inr (.inr (.inl ⟨p, j, vs, rfl, rfl, h1, by omega, by omega, ?_, fun q hq => ?_⟩))
      · rw [h2.len]
        have e1 : j.toNat ≤ 1000 := by omega
        calc i.length * j.toNat ≤ 100 * 1000 := Nat.mul_le_mul hc.2.2 e1
          _ ≤ sizeLine := by decide
      · exact k _ _ _ (B.alloc _ hq) (.lst upd_same (DvAll.mono (same_new (B.hn hq)) _ (h2.rep _)))
    · cases ed
  | .tup i, .int j, ed, ha, hb =>
    obtain ⟨p, vs, rfl, h1, h2⟩ := ha.tup
    obtain rfl := hb.int
    simp only [mulD] at ed
    split at ed
    · rename_i hc
      cases ed
      refine .inr (.inr (.inr ⟨p, j, vs, rfl, rfl, SqT.of (B.fh _ _ h1), ?_, hc.2.1, hc.2.2.1, by rw [h2.len]; omega, fun q hq => ?_⟩))
      · intro e
        subst e
        cases h2
        exact hc.1 rfl
      · exact k _ _ _ (B.alloc _ hq) (.tup upd_same (DvAll.mono (same_new (B.hn hq)) _ (h2.rep _)))
    · cases ed
end
end DL
namespace DL
open PySem L2

/-! ### places and slices -/
def ixD : D → D → Option D
  | .lst xs, .int i => atI xs i
  | .tup xs, .int i => atI xs i
  | .str s, .int i => (atI s i).map fun c => .str [c]
  | _, _ => none
def cut {α : Type} (xs : List α) (lo hi : Option Int) : List α := (xs.drop (HT.sIx xs.length 0 lo)).take (HT.sIx xs.length xs.length hi - HT.sIx xs.length 0 lo)
def slD (d : D) (lo hi : Option Int) : Option D := match d with
  | .str s => some (.str (cut s lo hi))
  | .lst s => some (.lst (cut s lo hi))
  | .tup s => some (.tup (cut s lo hi))
  | _ => none
theorem atI_iff {α : Type} {xs : List α} {i : Int} {x : α} : atI xs i = some x ↔ ∃ j, ixN xs.length i = some j ∧ xs[j]? = some x := by
  unfold atI
  rw [Option.bind_eq_some_iff]
theorem DvAll.atI {K : PySem.W.Frag} {H : Hp} {vs : List V} {ds : List D} {i : Int} {d : D} (h : DvAll K H vs ds) (e : atI ds i = some d) : ∃ v, L2.atI vs i = some v ∧ Dv K H v d := by
  obtain ⟨j, e1, e2⟩ := atI_iff.mp e
  obtain ⟨v, e3, e4⟩ := h.get' e2
  exact ⟨v, atI_iff.mpr ⟨j, by rw [h.len]; exact e1, e3⟩, e4⟩
theorem cut_len {α : Type} (xs : List α) (lo hi : Option Int) : (cut xs lo hi).length ≤ xs.length := by
  unfold cut
  rw [List.length_take, List.length_drop]
  omega
theorem cut_mem {α : Type} {xs : List α} {lo hi : Option Int} {x : α} (h : x ∈ cut xs lo hi) : x ∈ xs := List.mem_of_mem_drop (List.mem_of_mem_take h)
theorem DvAll.cut {K : PySem.W.Frag} {H : Hp} {vs : List V} {ds : List D} (h : DvAll K H vs ds) (lo hi : Option Int) : DvAll K H (cutV vs lo hi) (DL.cut ds lo hi) := by
  unfold cutV DL.cut
  rw [h.len]
  exact (h.drop _).take _

section
variable {X : Cx} {Z : Cn} {E : Ent Z.W} {Wx : WX} {e a b c : Expr} {pos : Pos} {fe fa fb fc : M Z.W.G D} {ft fu : M Z.W.G Bool}
theorem de_ix (ha : DR X Z E Wx a fa) (hb : DR X Z E Wx b fb) (hs : PlainIx b := by intro _ _; rfl) : DE X Z E Wx (.Subscript a b pos) (e2 ixD fa fb) := by
  refine PE.imp (pe_ix ix_seq ha hb hs) fun σ H Q h => op_run (fun W H Hf g x y a b d Q B ha hb ed k => ?_) h
  match a, b, ed, ha, hb with
  | .lst xs, .int i, ed, ha, hb =>
    obtain ⟨p, vs, rfl, h1, h2⟩ := ha.lst B.fh
    obtain rfl := hb.int
    obtain ⟨v, e1, e2⟩ := h2.atI ed
    exact .inl ⟨p, vs, i, v, rfl, rfl, SqL.of h1, e1, k _ _ _ B e2⟩
  | .tup xs, .int i, ed, ha, hb =>
    obtain ⟨p, vs, rfl, h1, h2⟩ := ha.tup
    obtain rfl := hb.int
    obtain ⟨v, e1, e2⟩ := h2.atI ed
    exact .inr (.inl ⟨p, vs, i, v, rfl, rfl, SqT.of (B.fh _ _ h1), e1, k _ _ _ B e2⟩)
  | .str s, .int i, ed, ha, hb =>
    obtain ⟨rfl, ok⟩ := ha.str
    obtain rfl := hb.int
    obtain ⟨c, e1, rfl⟩ := Option.map_eq_some_iff.mp ed
    refine .inr (.inr ⟨mkS s, i, c, rfl, rfl, okS_lim ok, by rw [mkS_cps]; exact e1, k _ _ _ B (.str [c] ?_)⟩)
    obtain ⟨j, e1, e2⟩ := atI_iff.mp e1
    exact okS_sub ok (by
      have := (List.getElem?_eq_some_iff.mp e2).1
      simp; omega) fun x hx => by
        simp at hx
        subst hx
        exact List.mem_of_getElem? e2
def oN {G : Type} : M G (Option Int) := M.pure none
def asI : D → Option Int
  | .int i => some i
  | _ => none
theorem asI_some : ∀ {d : D} {i : Int}, asI d = some i → d = .int i
  | .int _, _, h => by cases h; rfl
def oS {G : Type} (a : M G D) : M G (Option Int) := M.bind a fun x => M.bind (M.lift (asI x)) fun i => M.pure (some i)
theorem do_none : DO X Z E Wx none oN := PO.imp po_none fun σ H Q ⟨Hf, g, sl, r, q⟩ => q _ _ _ r.base.self rfl
theorem do_some (h : DE X Z E Wx e fe) : DO X Z E Wx (some e) (oS fe) := by
  refine PO.imp (po_some h) fun σ H Q ⟨Hf, g, sl, r, q⟩ => ⟨Hf, g, sl, r, (go_bind (Rm := RlD X.K) q).mono fun x H1 ⟨Hf1, g1, c, b1, d1, q1⟩ => ?_⟩
  obtain ⟨i, ei, q2⟩ := go_bl q1
  obtain rfl := asI_some ei
  cases d1
  exact ⟨_, rfl, q2 _ _ _ b1.self rfl⟩
def eSl {G : Type} (a : M G D) (lo hi : M G (Option Int)) : M G D := M.bind a fun x => M.bind lo fun l => M.bind hi fun h => M.lift (slD x l h)
theorem de_slice {lo hi : Option Expr} {fl fh : M Z.W.G (Option Int)} {p2 : Pos} (he : DR X Z E Wx e fe) (hl : DO X Z E Wx lo fl) (hu : DO X Z E Wx hi fh) : DE X Z E Wx (.Subscript e (.Slice lo hi none p2) pos) (eSl fe fl fh) := by
  refine PE.imp (pe_slice (SlR.or sl_str (SlR.or sl_list sl_tupA)) he hl hu) fun σ H Q ⟨Hf, g, sl, r, q⟩ => ?_
  refine ⟨Hf, g, sl, r, (go_bind (Rm := RlR X.K) q).mono fun x H1 ⟨Hf1, g1, c, b1, d1, q1⟩ => ⟨Hf1, g1, sl, r.step b1, (go_bind (Rm := RlO) q1).mono fun l H2 ⟨Hf2, g2, lo, b2, e2, q2⟩ =>
    ⟨Hf2, g2, sl, r.step (b1.trans b2), (go_bind (Rm := RlO) q2).mono fun u H3 ⟨Hf3, g3, hi, b3, e3, q3⟩ => ?_⟩⟩⟩
  obtain ⟨d, ed, k⟩ := go_lift q3
  cases e2
  cases e3
  have d2 := (d1.step b2).step b3
  have B := b3.self
  match c, ed, d2 with
  | .str s, ed, d2 =>
    cases ed
    obtain ⟨rfl, ok⟩ := d2.str
    refine .inl ⟨mkS s, rfl, okS_lim ok, ?_⟩
    have e : cutS (mkS s) l u = mkS (cut s l u) := by
      unfold cutS cut
      rw [mkS_cps, mkS_len]
      rfl
    rw [e]
    exact k _ _ _ B (.str _ (okS_sub ok (cut_len _ _ _) fun c hc => cut_mem hc))
  | .lst s, ed, d2 =>
    cases ed
    obtain ⟨p, vs, rfl, h1, h2⟩ := d2.lst B.fh
    exact .inr (.inl ⟨p, vs, rfl, SqL.of h1, fun q hq => k _ _ _ (B.alloc _ hq) (.lst upd_same (DvAll.mono (same_new (B.hn hq)) _ (h2.cut l u)))⟩)
  | .tup s, ed, d2 =>
    cases ed
    obtain ⟨p, vs, rfl, h1, h2⟩ := d2.tup
    refine .inr (.inr ⟨p, vs, rfl, SqT.of (B.fh _ _ h1), fun hw => ?_, fun hw q hq => k _ _ _ (B.alloc _ hq) (.tup upd_same (DvAll.mono (same_new (B.hn hq)) _ (h2.cut l u)))⟩)
    have e : cut s l u = s := by
      unfold cut
      rw [← h2.len, hw.1, hw.2]
      simp [h2.len]
    refine k _ _ _ B ?_
    rw [e]
    exact .tup h1 h2

/-! ### calls of built-ins with one argument -/
def C1 (X : Cx) (f : Value) (op : D → Option D) : Prop :=
  ∃ r : List V → Hp → VK → Prop, CallR X f r ∧ ∀ (W : Wd) (H Hf : Hp) (g : W.G) (x : V) (a d : D) (Q : VK), Base W H Hf g H Hf g → Dr X.K g Hf H x a → op a = some d →
    (∀ v H' Hf', Base W H Hf g H' Hf' g → Dv X.K Hf' v d → Q v H') → r [x] H Q
theorem c1_run {op : D → Option D} {r : List V → Hp → VK → Prop} {σ : St} {H : Hp} {Q : VK} (hr : ∀ (W : Wd) (H Hf : Hp) (g : W.G) (x : V) (a d : D) (Q : VK), Base W H Hf g H Hf g → Dr X.K g Hf H x a → op a = some d →
    (∀ v H' Hf', Base W H Hf g H' Hf' g → Dv X.K Hf' v d → Q v H') → r [x] H Q) (h : tG Z X.K E (RlD X.K) Wx (e1 op fa) σ H Q) : tCB r (tCons (tG Z X.K E (RlR X.K) Wx fa) tNil) σ H Q := by
  obtain ⟨Hf, g, sl, r, q⟩ := h
  refine ⟨Hf, g, sl, r, (go_bind (Rm := RlR X.K) q).mono fun x H1 ⟨Hf1, g1, a, b1, d1, q1⟩ => ?_⟩
  obtain ⟨d, ed, k⟩ := go_lift q1
  exact hr Z.W H1 Hf1 g1 x a d Q b1.self d1 ed k
theorem de_b1 {id : String} {x : Str} {p : Pos} {op : D → Option D} (hc : C1 X (.builtin id) op) (hg : Gl X x) (hm : X.mg x = none) (hv : bootBuiltins x = some (.builtin id)) (ha : DR X Z E Wx a fa) (hn : x ≠ "__name__" := by decide) (hdb : (x == ("__debug__" : Str)) = false := by decide)
    (hs : starEach [a] X.env = (false, eval a X.env) :: starEach [] X.env := by rfl) (hpl : (backTo pos (starEach [] X.env)).any (·.1) = false := by rfl) : DE X Z E Wx (.Call (.Name x p) [a] [] pos) (e1 op fa) := by
  obtain ⟨r, hr, k⟩ := hc
  exact PE.imp (pe_callB hr hg hm hv (pa_cons ha pa_nil hs) hn hdb hs hpl) fun σ H Q h => c1_run k h
theorem de_t1 {id : String} {x : Str} {p : Pos} {op : D → Option D} (hc : C1 X (.type id) op) (hg : Gl X x) (hm : X.mg x = none) (hv : bootBuiltins x = some (.type id)) (ha : DR X Z E Wx a fa) (hn : x ≠ "__name__" := by decide) (hdb : (x == ("__debug__" : Str)) = false := by decide)
    (hs : starEach [a] X.env = (false, eval a X.env) :: starEach [] X.env := by rfl) (hpl : (backTo pos (starEach [] X.env)).any (·.1) = false := by rfl) : DE X Z E Wx (.Call (.Name x p) [a] [] pos) (e1 op fa) := by
  obtain ⟨r, hr, k⟩ := hc
  exact PE.imp (pe_callTy hr hg hm hv (pa_cons ha pa_nil hs) hn hdb hs hpl) fun σ H Q h => c1_run k h
def lenD : D → Option D
  | .str s => some (.int s.length)
  | .lst s => some (.int s.length)
  | .tup s => some (.int s.length)
  | _ => none
theorem c_len : C1 X (.builtin "len") lenD := by
  refine ⟨_, call_len, fun W H Hf g x a d Q B ha ed k => ?_⟩
  match a, ed, ha with
  | .str s, ed, ha =>
    cases ed
    obtain ⟨rfl, ok⟩ := ha.str
    exact ⟨_, s.length, rfl, ⟨okS_lim ok, (mkS_len s).symm⟩, k _ _ _ B (.int _)⟩
  | .lst s, ed, ha =>
    cases ed
    obtain ⟨p, vs, rfl, h1, h2⟩ := ha.lst B.fh
    exact ⟨_, s.length, rfl, .inl ⟨vs, SqL.of h1, h2.len.symm⟩, k _ _ _ B (.int _)⟩
  | .tup s, ed, ha =>
    cases ed
    obtain ⟨p, vs, rfl, h1, h2⟩ := ha.tup
    exact ⟨_, s.length, rfl, .inr ⟨vs, SqT.of (B.fh _ _ h1), h2.len.symm⟩, k _ _ _ B (.int _)⟩
def asBs : List D → Option (List Bool)
  | [] => some []
  | .bl b :: ds => (asBs ds).map (b :: ·)
  | _ => none
theorem asBs_some : ∀ {ds : List D} {bs : List Bool}, asBs ds = some bs → ds = bs.map D.bl
  | [], _, h => by cases h; rfl
  | .bl b :: ds, bs, h => by
    obtain ⟨l, e1, rfl⟩ := Option.map_eq_some_iff.mp h
    rw [asBs_some e1]; rfl
def allD : D → Option D
  | .lst s => (asBs s).map fun bs => .bl (bs.all id)
  | _ => none
theorem c_all (hc : X.calm = true) : C1 X (.builtin "all") allD := by
  refine ⟨_, cr_all hc, fun W H Hf g x a d Q B ha ed k => ?_⟩
  match a, ed, ha with
  | .lst s, ed, ha =>
    obtain ⟨p, vs, rfl, h1, h2⟩ := ha.lst B.fh
    obtain ⟨bs, e1, rfl⟩ := Option.map_eq_some_iff.mp ed
    obtain rfl := asBs_some e1
    obtain rfl := h2.bls
    exact ⟨p, bs, rfl, SqL.of h1, k _ _ _ B (.bl _)⟩
def tupD : D → Option D
  | .lst s => some (.tup s)
  | .tup s => some (.tup s)
  | _ => none
theorem c_tuple : C1 X (.type "tuple") tupD := by
  refine ⟨_, call_tuple_of, fun W H Hf g x a d Q B ha ed k => ?_⟩
  match a, ed, ha with
  | .lst s, ed, ha =>
    cases ed
    obtain ⟨p, vs, rfl, h1, h2⟩ := ha.lst B.fh
    exact ⟨p, vs, rfl, .inl ⟨SqL.of h1, fun q hq => k _ _ _ (B.alloc _ hq) (.tup upd_same (DvAll.mono (same_new (B.hn hq)) _ h2))⟩⟩
  | .tup s, ed, ha =>
    cases ed
    obtain ⟨p, vs, rfl, h1, h2⟩ := ha.tup
    exact ⟨p, vs, rfl, .inr ⟨SqT.of (B.fh _ _ h1), k _ _ _ B (.tup h1 h2)⟩⟩
def lisD : D → Option D
  | .lst s => some (.lst s)
  | .tup s => some (.lst s)
  | _ => none
theorem c_list : C1 X (.type "list") lisD := by
  refine ⟨_, call_list_of, fun W H Hf g x a d Q B ha ed k => ?_⟩
  match a, ed, ha with
  | .lst s, ed, ha =>
    cases ed
    obtain ⟨p, vs, rfl, h1, h2⟩ := ha.lst B.fh
    exact ⟨p, vs, rfl, .inl (SqL.of h1), fun q hq => k _ _ _ (B.alloc _ hq) (.lst upd_same (DvAll.mono (same_new (B.hn hq)) _ h2))⟩
  | .tup s, ed, ha =>
    cases ed
    obtain ⟨p, vs, rfl, h1, h2⟩ := ha.tup
    exact ⟨p, vs, rfl, .inr (SqT.of (B.fh _ _ h1)), fun q hq => k _ _ _ (B.alloc _ hq) (.lst upd_same (DvAll.mono (same_new (B.hn hq)) _ h2))⟩
/-- isinstance(x, int | bool | str | tuple) -/
inductive Ty where
  | int | bool | str | tuple
def Ty.name : Ty → String
  | .int => "int"
  | .bool => "bool"
  | .str => "str"
  | .tuple => "tuple"
def isiB : Ty → D → Option Bool
  | _, .ref _ => none
  | .int, .int _ => some true
  | .int, .bl _ => some true
  | .bool, .bl _ => some true
  | .str, .str _ => some true
  | .tuple, .tup _ => some true
  | _, _ => some false
def isiD (T : Ty) (d : D) : Option D := (isiB T d).map D.bl
theorem isi_kit {K : PySem.W.Frag} {H : Hp} (T : Ty) : ∀ {d : D} {v : V} {b : Bool}, Dv K H v d → isiB T d = some b → ∃ t, TyX K H v t ∧ PySem.W.kitOne K t (.type T.name) = some b
  | .non, _, b, h, e => by
    cases h
    refine ⟨_, .base .non, ?_⟩
    cases T <;> cases e <;> exact kit_ty (by decide +kernel)
  | .bl x, _, b, h, e => by
    cases h
    refine ⟨_, .base (.bl x), ?_⟩
    cases T <;> cases e <;> exact kit_ty (by decide +kernel)
  | .int x, _, b, h, e => by
    cases h
    refine ⟨_, .base (.int x), ?_⟩
    cases T <;> cases e <;> exact kit_ty (by decide +kernel)
  | .str x, _, b, h, e => by
    cases h
    refine ⟨_, .base (.str _), ?_⟩
    cases T <;> cases e <;> exact kit_ty (by decide +kernel)
  | .tup x, _, b, h, e => by
    cases h with
    | tup h1 h2 =>
      refine ⟨_, .base (.tup h1), ?_⟩
      cases T <;> cases e <;> exact kit_ty (by decide +kernel)
  | .lst x, _, b, h, e => by
    cases h with
    | lst h1 h2 =>
      refine ⟨_, .base (.lst h1), ?_⟩
      cases T <;> cases e <;> exact kit_ty (by decide +kernel)
  | .ref x, _, b, h, e => by cases T <;> cases e
theorem de_isi (T : Ty) {p p2 : Pos} {tn : Str} (hg : Gl X "isinstance") (hm : X.mg "isinstance" = none) (hg2 : Gl X tn) (hm2 : X.mg tn = none) (hv2 : bootBuiltins tn = some (.type T.name)) (ha : DR X Z E Wx a fa)
    (hn2 : tn ≠ "__name__" := by decide) (hd2 : (tn == ("__debug__" : Str)) = false := by decide) (hs : starEach [a, .Name tn p2] X.env = (false, eval a X.env) :: starEach [.Name tn p2] X.env := by rfl) (hpl : (backTo pos (starEach [.Name tn p2] X.env)).any (·.1) = false := by rfl) :
    DE X Z E Wx (.Call (.Name "isinstance" p) [a, .Name tn p2] [] pos) (e1 (isiD T) fa) := by
  refine PE.imp (pe_callB call_isi hg hm (by decide +kernel) (pa_cons ha (pa_cons (pe_bltn (v := .ty T.name) hg2 hm2 hv2 rfl hn2 hd2) pa_nil) hs) (by decide) (by decide) hs hpl) fun σ H Q ⟨Hf, g, sl, r, q⟩ => ?_
  refine ⟨Hf, g, sl, r, (go_bind (Rm := RlR X.K) q).mono fun x H1 ⟨Hf1, g1, c, b1, d1, q1⟩ => ?_⟩
  obtain ⟨d, ed, k⟩ := go_lift q1
  obtain ⟨b, eb, rfl⟩ := Option.map_eq_some_iff.mp ed
  obtain ⟨t, ht, hk⟩ := isi_kit T (d1.h b1.fh) eb
  exact ⟨x, .ty T.name, t, _, b, rfl, .ty _, ht, hk, k _ _ _ b1.self (.bl _)⟩
/-- the truth of a value -/
def truD : D → Option Bool
  | .non => some false
  | .bl b => some b
  | .int i => some (i != 0)
  | .str s => some (!s.isEmpty)
  | .tup s => some (!s.isEmpty)
  | .lst s => some (!s.isEmpty)
  | .ref _ => none
def tTr {G : Type} (a : M G D) : M G Bool := M.bind a fun x => M.lift (truD x)
theorem dt_tru (ha : DR X Z E Wx a fa) (he : ∀ whole, isTrue a X.env whole = (do let v ← whole; standAt a.pos; holding [v] (truthy v)) := by intro _; rfl) : DT X Z E Wx a (tTr fa) := by
  refine PT.imp (pt_truth ha he) fun σ H Q ⟨Hf, g, sl, r, q⟩ => ⟨Hf, g, sl, r, (go_bind (Rm := RlR X.K) q).mono fun x H1 ⟨Hf1, g1, c, b1, d1, q1⟩ => ?_⟩
  obtain ⟨b, eb, k⟩ := go_lift q1
  refine ⟨b, ?_, k _ _ _ b1.self rfl⟩
  match c, eb, d1 with
  | .non, eb, d1 => cases eb; obtain rfl := d1.non; rfl
  | .bl _, eb, d1 => cases eb; obtain rfl := d1.bl; rfl
  | .int _, eb, d1 => cases eb; obtain rfl := d1.int; rfl
  | .str s, eb, d1 =>
    cases eb
    obtain ⟨rfl, ok⟩ := d1.str
    refine ⟨okS_lim ok, ?_⟩
    rw [mkS_len]
    cases s <;> simp <;> omega
  | .tup s, eb, d1 =>
    cases eb
    obtain ⟨p, vs, rfl, h1, h2⟩ := d1.tup
    refine .inr (.inl ⟨vs, SqT.of (b1.fh _ _ h1), ?_⟩)
    have := h2.len
    cases s <;> cases vs <;> simp_all
  | .lst s, eb, d1 =>
    cases eb
    obtain ⟨p, vs, rfl, h1, h2⟩ := d1.lst b1.fh
    refine .inl ⟨vs, SqL.of h1, ?_⟩
    have := h2.len
    cases s <;> cases vs <;> simp_all
theorem un_negD {a : Expr} {fa : M Z.W.G D} (ha : DR X Z E Wx a fa) : DE X Z E Wx (.UnaryOp .USub a pos) (e1 negD fa) := by
  refine PE.imp (pe_un un_neg ha) fun σ H Q ⟨Hf, g, sl, r, q⟩ => ⟨Hf, g, sl, r, (go_bind (Rm := RlR X.K) q).mono fun x H1 ⟨Hf1, g1, c, b1, d1, q1⟩ => ?_⟩
  obtain ⟨d, ed, k⟩ := go_lift q1
  match c, ed, d1 with
  | .int i, ed, d1 =>
    cases ed
    obtain rfl := d1.int
    exact ⟨i, rfl, k _ _ _ b1.self (.int _)⟩
end
end DL
namespace DL
open PySem L2

/-! ### defs -/
abbrev Fn (G : Type) := List D → G → Out G D
/-- the promise of a def that computes F on data -/
def spF (Z : Cn) (K : PySem.W.Frag) (n : Nat) (F : Fn Z.W.G) : Sp := fun vs H Q Ex => vs.length = n ∧ ∃ (Hf : Hp) (g : Z.W.G) (ds : List D), Base Z.W H Hf g H Hf g ∧ DvAll K Hf vs ds ∧
  go Z (RlD K) (fun cls d _ H' => Ex cls d H') [] (F ds g) H Hf g Q
def callM {G : Type} (F : Fn G) (fs : M G (List D)) : M G D := M.bind fs fun ds => fun _ g => F ds g
theorem go_wx {Z : Cn} {α β : Type} {Rl : Z.W.G → Hp → Hp → β → α → Prop} {Wx : WX} {σ : St} {m : Out Z.W.G α} {H Hf : Hp} {g : Z.W.G} {Q : β → Hp → Prop} (h : go Z Rl Wx σ m H Hf g Q) : go Z Rl (fun cls d _ H' => Wx cls d σ H') [] m H Hf g Q := by
  match m, h with
  | some (.ok a, g'), h => exact h
  | some (.exc c, g'), h => exact h
section
variable {X : Cx} {Z : Cn} {E : Ent Z.W} {Wx : WX} {e a b c : Expr} {pos p : Pos} {fe fa fb fc : M Z.W.G D} {ft fu : M Z.W.G Bool} {k n : Nat} {f : Addr} {fd : FuncData} {ps : List Str} {x : Str}
theorem de_call {es : List Expr} {fs : M Z.W.G (List D)} {F : Fn Z.W.G} (G : FnOk X.prog X.w X.K X.mg X.base (L2.CX X.prog X.w) k f fd ps (spF Z X.K n F)) (hr : Room k X.A) (hg : Gl X x) (hm : X.mg x = some (.ref f)) (hk : PySem.W.keepIn X.K (.ref f) = true) (hb : Binds X.K fd ps [])
    (tk : Takes X Wx) (hn : (e :: es).length = n) (ha : DA X Z E Wx (e :: es) fs) (hl : ∀ sl g ds g', fs sl g = some (.ok ds, g') → ds.length = n) (hdb : (x == ("__debug__" : Str)) = false := by decide) (he : starEach (e :: es) X.env = (false, eval e X.env) :: starEach es X.env := by rfl) (hpl : (backTo pos (starEach es X.env)).any (·.1) = false := by rfl) :
    DE X Z E Wx (.Call (.Name x p) (e :: es) [] pos) (callM F fs) := by
  refine PE.imp (pe_callS G hr hg hm hk hb (fun σ => passAt tk σ) ha hdb he hpl) fun σ H Q ⟨Hf, g, sl, r, q⟩ => ?_
  refine ⟨Hf, g, sl, r, ?_⟩
  unfold callM M.bind at q
  match eq : fs sl g with
  | none => rw [eq] at q; exact q
  | some (.exc c, g1) => rw [eq] at q; exact q
  | some (.ok ds, g1) =>
    rw [eq] at q
    intro vs H1 Hf1 b1 d1
    exact ⟨by rw [d1.len]; exact hl sl g ds g1 eq, Hf1, g1, ds, b1.self, d1, go_wx (go.later (g := g) q b1)⟩
end

/-! ### statements: the pure side -/
inductive Fl where
  | nx | bk | ct
  | rt (d : D)
  | ex (c : Nat)
abbrev SM (G : Type) := SL → G → Option (Fl × SL × G)
section
variable {G : Type}
def sSkip : SM G := fun sl g => some (.nx, sl, g)
def sSeq (f1 f2 : SM G) : SM G := fun sl g => match f1 sl g with
  | some (.nx, sl1, g1) => f2 sl1 g1
  | r => r
/-- run an expression, then go on with the slots changed -/
def sDo {α : Type} (f : M G α) (k : α → SM G) : SM G := fun sl g => match f sl g with
  | none => none
  | some (.exc c, g1) => some (.ex c, sl, g1)
  | some (.ok a, g1) => k a sl g1
def sSet (i : Nat) (x : Slot) : SM G := fun sl g => some (.nx, sl.set i (some x), g)
def sAsg (i : Nat) (f : M G Slot) : SM G := sDo f fun x => sSet i x
def sPar (i j : Nat) (f h : M G Slot) : SM G := sDo f fun x => sDo h fun y => sSeq (sSet i x) (sSet j y)
def sPar3 (i j l : Nat) (f h m : M G Slot) : SM G := sDo f fun x => sDo h fun y => sDo m fun z => sSeq (sSet i x) (sSeq (sSet j y) (sSet l z))
def sDrop (f : M G D) : SM G := sDo f fun _ => sSkip
def sRet (f : M G D) : SM G := sDo f fun d => fun sl g => some (.rt d, sl, g)
def sRetN : SM G := fun sl g => some (.rt .non, sl, g)
def sIf (c : M G Bool) (a b : SM G) : SM G := sDo c fun k => if k = true then a else b
def sBrk : SM G := fun sl g => some (.bk, sl, g)
def sCt : SM G := fun sl g => some (.ct, sl, g)
def sRaise (c : Nat) : SM G := fun sl g => some (.ex c, sl, g)
/-- a list of the frame's own is from now on left as it is -/
def frz1 (i : Nat) (sl : SL) : SL := match sl[i]? with
  | some (some (.oL xs)) => sl.set i (some (.d (.lst xs)))
  | _ => sl
def sFrz (i : Nat) (f : SM G) : SM G := fun sl g => f (frz1 i sl) g
/-- names that are not asked any more -/
def wipeS (sl : SL) : List Nat → SL
  | [] => sl
  | v :: vs => (wipeS sl vs).set v none
def sFgt (vs : List Nat) (f : SM G) : SM G := fun sl g => f (wipeS sl vs) g
abbrev Tg := D → SL → Option SL
def tg1 (i : Nat) : Tg := fun d sl => some (sl.set i (some (.d d)))
def tg2 (i j : Nat) : Tg := fun d sl => match d with
  | .tup [a, b] => some ((sl.set i (some (.d a))).set j (some (.d b)))
  | _ => none
def tg3 (i j l : Nat) : Tg := fun d sl => match d with
  | .tup [a, b, c] => some (((sl.set i (some (.d a))).set j (some (.d b))).set l (some (.d c)))
  | _ => none
def forL (tg : Tg) (b : SM G) (vs : List Nat) : List D → SM G
  | [] => fun sl g => some (.nx, sl, g)
  | d :: ds => fun sl g => match tg d sl with
    | none => none
    | some sl1 => match b sl1 g with
      | none => none
      | some (.nx, sl2, g2) => forL tg b vs ds (wipeS sl2 vs) g2
      | some (.ct, sl2, g2) => forL tg b vs ds (wipeS sl2 vs) g2
      | some (.bk, sl2, g2) => some (.nx, sl2, g2)
      | some (.rt d, sl2, g2) => some (.rt d, sl2, g2)
      | some (.ex c, sl2, g2) => some (.ex c, sl2, g2)
def sFor (it : M G (List D)) (tg : Tg) (vs : List Nat) (b : SM G) : SM G := sDo it fun ds => forL tg b vs ds
def sWhile (c : M G Bool) (vs : List Nat) (b : SM G) : Nat → SM G
  | 0 => fun _ _ => none
  | n + 1 => sDo c fun k => if k = true then (fun sl g => match b sl g with
      | none => none
      | some (.nx, sl2, g2) => sWhile c vs b n (wipeS sl2 vs) g2
      | some (.ct, sl2, g2) => sWhile c vs b n (wipeS sl2 vs) g2
      | some (.bk, sl2, g2) => some (.nx, sl2, g2)
      | some (.rt d, sl2, g2) => some (.rt d, sl2, g2)
      | some (.ex c, sl2, g2) => some (.ex c, sl2, g2)) else sSkip
end

/-! ### statements: the rules -/
def goS (Z : Cn) (K : PySem.W.Frag) (E : Ent Z.W) (Wx : WX) (Hf : Hp) (m : Option (Fl × SL × Z.W.G)) (D : Ends) : Prop :=
  match m with
  | none => False
  | some (.nx, sl', g') => ∀ σ' H' Hf', Same Hf Hf' → R K E H' Hf' g' sl' σ' → D.nx σ' H'
  | some (.bk, sl', g') => ∀ σ' H' Hf', Same Hf Hf' → R K E H' Hf' g' sl' σ' → D.bk σ' H'
  | some (.ct, sl', g') => ∀ σ' H' Hf', Same Hf Hf' → R K E H' Hf' g' sl' σ' → D.ct σ' H'
  | some (.rt d, sl', g') => ∀ v H' Hf', Base Z.W E.H E.Hf E.g H' Hf' g' → Dv K Hf' v d → D.rt v H'
  | some (.ex c, sl', g') => ∀ σ' H' Hf', R K E H' Hf' g' sl' σ' → Wx (Z.cls c) none σ' H'
def tS (Z : Cn) (K : PySem.W.Frag) (E : Ent Z.W) (Wx : WX) (f : SM Z.W.G) : TS := fun D σ H => ∃ (Hf : Hp) (g : Z.W.G) (sl : SL), R K E H Hf g sl σ ∧ goS Z K E Wx Hf (f sl g) D
section
variable {Z : Cn} {K : PySem.W.Frag} {E : Ent Z.W} {Wx : WX} {H Hf Hf1 : Hp} {g : Z.W.G} {sl : SL} {σ : St}
theorem goS.later {m : Option (Fl × SL × Z.W.G)} {D : Ends} (h : goS Z K E Wx Hf m D) (s : Same Hf Hf1) : goS Z K E Wx Hf1 m D := by
  match m, h with
  | some (.nx, sl', g'), h => exact fun σ' H' Hf' q r => h σ' H' Hf' (Same.tr s q) r
  | some (.bk, sl', g'), h => exact fun σ' H' Hf' q r => h σ' H' Hf' (Same.tr s q) r
  | some (.ct, sl', g'), h => exact fun σ' H' Hf' q r => h σ' H' Hf' (Same.tr s q) r
  | some (.rt d, sl', g'), h => exact h
  | some (.ex c, sl', g'), h => exact h
theorem goS.mono {m : Option (Fl × SL × Z.W.G)} {D D' : Ends} (h : goS Z K E Wx Hf m D) (h1 : ∀ σ H, D.nx σ H → D'.nx σ H) (h2 : ∀ σ H, D.bk σ H → D'.bk σ H) (h3 : ∀ σ H, D.ct σ H → D'.ct σ H) (h4 : ∀ σ H, D.rt σ H → D'.rt σ H) : goS Z K E Wx Hf m D' := by
  match m, h with
  | some (.nx, sl', g'), h => exact fun σ' H' Hf' q r => h1 _ _ (h σ' H' Hf' q r)
  | some (.bk, sl', g'), h => exact fun σ' H' Hf' q r => h2 _ _ (h σ' H' Hf' q r)
  | some (.ct, sl', g'), h => exact fun σ' H' Hf' q r => h3 _ _ (h σ' H' Hf' q r)
  | some (.rt d, sl', g'), h => exact fun σ' H' Hf' q r => h4 _ _ (h σ' H' Hf' q r)
  | some (.ex c, sl', g'), h => exact h
/-- an expression ahead of the rest -/
theorem goS_do {α β : Type} {Rl : Z.W.G → Hp → Hp → β → α → Prop} {f : M Z.W.G α} {k : α → SM Z.W.G} {D : Ends} (r : R K E H Hf g sl σ) (h : goS Z K E Wx Hf (sDo f k sl g) D) :
    go Z Rl Wx σ (f sl g) H Hf g (fun v H1 => ∃ (Hf1 : Hp) (g1 : Z.W.G) (a : α), Base Z.W H Hf g H1 Hf1 g1 ∧ R K E H1 Hf1 g1 sl σ ∧ Rl g1 Hf1 H1 v a ∧ goS Z K E Wx Hf1 (k a sl g1) D) := by
  unfold sDo at h
  match e : f sl g with
  | none => rw [e] at h; exact h
  | some (.exc c, g1) =>
    rw [e] at h
    exact fun H' Hf' b => h σ H' Hf' (r.step b)
  | some (.ok a, g1) =>
    rw [e] at h
    exact fun v H1 Hf1 b rl => ⟨Hf1, g1, a, b, r.step b, rl, h.later b.ff⟩
theorem goS_seq {f1 f2 : SM Z.W.G} {D : Ends} (h : goS Z K E Wx Hf (sSeq f1 f2 sl g) D) : goS Z K E Wx Hf (f1 sl g) { D with nx := tS Z K E Wx f2 D } := by
  unfold sSeq at h
  match e : f1 sl g with
  | none => rw [e] at h; exact h
  | some (.nx, sl1, g1) =>
    rw [e] at h
    exact fun σ' H' Hf' s r => ⟨Hf', g1, sl1, r, goS.later (m := f2 sl1 g1) h s⟩
  | some (.bk, sl1, g1) => rw [e] at h; exact h
  | some (.ct, sl1, g1) => rw [e] at h; exact h
  | some (.rt d, sl1, g1) => rw [e] at h; exact h
  | some (.ex d, sl1, g1) => rw [e] at h; exact h

/-! ghost steps -/
theorem wipeS_some {i : Nat} {x : Slot} : ∀ {vs : List Nat}, (wipeS sl vs)[i]? = some (some x) → sl[i]? = some (some x)
  | [], h => h
  | v :: vs, h => by
    unfold wipeS at h
    rw [List.getElem?_set] at h
    split at h
    · split at h
      · cases h
      · cases h
    · exact wipeS_some h
theorem wipeS_len : ∀ (vs : List Nat), (wipeS sl vs).length = sl.length
  | [] => rfl
  | v :: vs => by unfold wipeS; rw [List.length_set, wipeS_len vs]
theorem R.fgt (r : R K E H Hf g sl σ) (vs : List Nat) : R K E H Hf g (wipeS sl vs) σ :=
  ⟨r.base, fun i x e => r.slot i x (wipeS_some e), fun i j x y a n e1 e2 => r.apart i j x y a n (wipeS_some e1) (wipeS_some e2), by rw [wipeS_len]; exact r.len⟩
/-- also where the frame's own slots are wiped -/
theorem R.wipe (r : R K E H Hf g sl σ) (vs : List Nat) : R K E H Hf g (wipeS sl vs) (L2.wipe σ vs) := by
  have key : ∀ (vs : List Nat) (i : Nat) (x : Slot), (wipeS sl vs)[i]? = some (some x) → (L2.wipe σ vs)[i]? = σ[i]? := by
    intro vs
    induction vs with
    | nil => intro i x _; rfl
    | cons v vs ih =>
      intro i x h
      unfold wipeS at h
      unfold L2.wipe
      rw [List.getElem?_set] at h ⊢
      split at h
      · split at h
        · cases h
        · cases h
      · rename_i hv
        rw [if_neg hv]
        exact ih i x h
  refine ⟨r.base, fun i x e => ?_, fun i j x y a n e1 e2 => ?_, by rw [wipeS_len, wipe_length]; exact r.len⟩
  · rw [key vs i x e]
    exact r.slot i x (wipeS_some e)
  · rw [key vs i x e1, key vs j y e2]
    exact r.apart i j x y a n (wipeS_some e1) (wipeS_some e2)
theorem frz_step {a : Addr} {vs : List V} (b : Base Z.W E.H E.Hf E.g H Hf g) (h : H a = some (.lst vs)) (k : OwnOk E Hf g a) : Base Z.W E.H E.Hf E.g H (upd Hf a (.lst vs)) g where
  ff := Same.tr b.ff (same_new k.2.1)
  fh := fun x u e => by
    by_cases hx : x = a
    · subst hx; rw [upd_same] at e; cases e; exact h
    · rw [upd_ne hx] at e; exact b.fh x u e
  keep := b.keep
  old := fun x e => by
    have hx : x ≠ a := fun q => by subst q; exact e k.1
    rw [upd_ne hx]; exact b.old x e
  there := b.there
  rep := Wd.loc3 b.rep (same_new k.2.1)
  dis := fun x q => by
    have hx : x ≠ a := fun z => by subst z; exact k.2.2 q
    rw [upd_ne hx]; exact b.dis x q
  fpo := b.fpo
theorem OwnOk.frz {a b : Addr} {o : HO} (k : OwnOk E Hf g b) (h : b ≠ a) : OwnOk E (upd Hf a o) g b := ⟨k.1, by rw [upd_ne h]; exact k.2.1, k.2.2⟩
theorem SlotOk.frz {a : Addr} {o : HO} {v : V} (hn : Hf a = none) : ∀ {x : Slot}, SlotOk K E H Hf g v x → (x.own = true → v ≠ .ref a) → SlotOk K E H (upd Hf a o) g v x
  | .d x, h, _ => Dv.mono (same_new hn) x h
  | .oL xs, ⟨b, vs, e, h1, h2, h3⟩, n => ⟨b, vs, e, h1, DvAll.mono (same_new hn) xs h2, h3.frz fun z => n rfl (by rw [e, z])⟩
  | .oK xs, ⟨b, vs, e, h1, h2, h3⟩, n => ⟨b, vs, e, h1, KVd.mono (same_new hn) h2, h3.frz fun z => n rfl (by rw [e, z])⟩
  | .kK xs, ⟨b, vs, o, e, h1, h2⟩, n => ⟨b, vs, o, e, same_new hn _ _ h1, KVd.mono (same_new hn) h2⟩
  | .oT xs, ⟨b, vs, e, h1, h2, h3⟩, n => ⟨b, vs, e, h1, TVd.mono (same_new hn) h2, h3.frz fun z => n rfl (by rw [e, z])⟩
theorem R.frz (r : R K E H Hf g sl σ) (i : Nat) : ∃ Hf', Same Hf Hf' ∧ R K E H Hf' g (frz1 i sl) σ := by
  unfold frz1
  match e : sl[i]? with
  | some (some (.oL xs)) =>
    obtain ⟨v, h1, a, vs, rfl, h2, h3, h4⟩ := r.slot i _ e
    refine ⟨upd Hf a (.lst vs), same_new h4.2.1, frz_step r.base h2 h4, fun j x ej => ?_, fun j l x y b n ej el ox oy => ?_, by simp only; rw [List.length_set]; exact r.len⟩
    · simp only at ej
      rw [List.getElem?_set] at ej
      split at ej
      · rename_i hij
        subst hij
        split at ej
        · cases ej
          exact ⟨_, h1, .lst upd_same (DvAll.mono (same_new h4.2.1) xs h3)⟩
        · cases ej
      · rename_i hij
        obtain ⟨w, q1, q2⟩ := r.slot j x ej
        exact ⟨w, q1, q2.frz h4.2.1 fun ox z => by subst z; exact r.apart i j _ x a hij e ej rfl ox h1 q1⟩
    · have aux : ∀ (j : Nat) (x : Slot), (sl.set i (some (.d (.lst xs))))[j]? = some (some x) → x.own = true → sl[j]? = some (some x) := by
        intro j x ej ox
        rw [List.getElem?_set] at ej
        split at ej
        · split at ej
          · cases ej; cases ox
          · cases ej
        · exact ej
      exact r.apart j l x y b n (aux j x ej ox) (aux l y el oy) ox oy
  | some (some (.d x)) => exact ⟨Hf, same_refl _, r⟩
  | some (some (.oK x)) => exact ⟨Hf, same_refl _, r⟩
  | some (some (.oT x)) => exact ⟨Hf, same_refl _, r⟩
  | some (some (.kK x)) => exact ⟨Hf, same_refl _, r⟩
  | some none => exact ⟨Hf, same_refl _, r⟩
  | none => exact ⟨Hf, same_refl _, r⟩
/-- a name is stored -/
theorem R.set (r : R K E H Hf g sl σ) (i : Nat) {v : V} {x : Slot} (h : SlotOk K E H Hf g v x) (new : x.own = true → ∀ a j y, v = .ref a → sl[j]? = some (some y) → y.own = true → j ≠ i → σ[j]? ≠ some (some (.ref a))) : R K E H Hf g (sl.set i (some x)) (σ.set i (some v)) := by
  have hl := r.len
  refine ⟨r.base, fun j y e => ?_, fun j l y z a n e1 e2 o1 o2 => ?_, by rw [List.length_set, List.length_set]; exact hl⟩
  · rw [List.getElem?_set] at e ⊢
    split at e
    · rename_i hij
      subst hij
      split at e
      · rename_i hi
        cases e
        rw [if_pos rfl, if_pos (by rw [← hl]; exact hi)]
        exact ⟨v, rfl, h⟩
      · cases e
    · rename_i hij
      rw [if_neg hij]
      exact r.slot j y e
  · rw [List.getElem?_set] at e1 e2
    rw [List.getElem?_set, List.getElem?_set]
    split at e1
    · rename_i hij
      subst hij
      have hil : i ≠ l := n
      rw [if_neg hil] at e2 ⊢
      split at e1
      · rename_i hi
        cases e1
        rw [if_pos rfl, if_pos (by rw [← hl]; exact hi)]
        intro q
        have q' : v = .ref a := Option.some.inj (Option.some.inj q)
        exact new o1 a l z q' e2 o2 hil.symm
      · cases e1
    · rename_i hij
      rw [if_neg hij]
      split at e2
      · rename_i hil
        subst hil
        split at e2
        · rename_i hi
          cases e2
          rw [if_pos rfl, if_pos (by rw [← hl]; exact hi)]
          intro q z
          have q' : v = .ref a := Option.some.inj (Option.some.inj z)
          exact new o2 a j y q' e1 o1 (fun w => hij w.symm) q
        · cases e2
      · rename_i hil
        rw [if_neg hil]
        exact r.apart j l y z a n e1 e2 o1 o2
end
end DL
namespace DL
open PySem L2

theorem PS.imp {X : Cx} {st : Stmt} {t t' : TS} (h : PS X st t) (k : ∀ D σ H, t' D σ H → t D σ H) : PS X st t' := ⟨fun pins s σ H D I q => h.run pins s σ H D I (k D σ H q)⟩
theorem PSs.imp {X : Cx} {st : List Stmt} {t t' : TS} (h : PSs X st t) (k : ∀ D σ H, t' D σ H → t D σ H) : PSs X st t' := ⟨fun pins s σ H D I q => h.run pins s σ H D I (k D σ H q)⟩

/-- what a name may be given: data that stands, or something new of the frame's own -/
abbrev RlX {Z : Cn} (K : PySem.W.Frag) (E : Ent Z.W) (H0 : Hp) : Z.W.G → Hp → Hp → V → Slot → Prop := fun g Hf H v x => SlotOk K E H Hf g v x ∧ (x.own = true → ∀ a, v = .ref a → H0 a = none)
def tX (Z : Cn) (K : PySem.W.Frag) (E : Ent Z.W) (Wx : WX) (f : M Z.W.G Slot) : TE :=
  fun σ H Q => ∃ (Hf : Hp) (g : Z.W.G) (sl : SL), R K E H Hf g sl σ ∧ go Z (RlX K E H) Wx σ (f sl g) H Hf g Q
section
variable (X : Cx) (Z : Cn) (E : Ent Z.W) (Wx : WX)
abbrev DX (e : Expr) (f : M Z.W.G Slot) : Prop := PE X e (tX Z X.K E Wx f)
abbrev DS (st : Stmt) (f : SM Z.W.G) : Prop := PS X st (tS Z X.K E Wx f)
abbrev DSs (st : List Stmt) (f : SM Z.W.G) : Prop := PSs X st (tS Z X.K E Wx f)
end
def xD {G : Type} (f : M G D) : M G Slot := M.bind f fun d => M.pure (.d d)
def asL : D → Option (List D)
  | .lst xs => some xs
  | _ => none
theorem asL_some : ∀ {d : D} {xs : List D}, asL d = some xs → d = .lst xs
  | .lst _, _, h => by cases h; rfl
/-- a new list of one's own -/
def xL {G : Type} (f : M G D) : M G Slot := M.bind f fun d => M.bind (M.lift (asL d)) fun xs => M.pure (.oL xs)

section
variable {X : Cx} {Z : Cn} {E : Ent Z.W} {Wx : WX} {e a b c : Expr} {pos p : Pos} {fe fa fb fc : M Z.W.G D} {ft fu : M Z.W.G Bool} {fx fy fz : M Z.W.G Slot} {st : Stmt} {sts : List Stmt} {fs fs' : SM Z.W.G}
theorem dx_e (h : DE X Z E Wx e fe) : DX X Z E Wx e (xD fe) := by
  refine PE.imp h fun σ H Q ⟨Hf, g, sl, r, q⟩ => ⟨Hf, g, sl, r, (go_bind (Rm := RlD X.K) q).mono fun v H1 ⟨Hf1, g1, d, b1, d1, q1⟩ => ?_⟩
  exact q1 _ _ _ b1.self ⟨d1, fun z => by cases z⟩
/-- an expression that makes a new list which is not yet told to stand -/
def NewL (K : PySem.W.Frag) {Z : Cn} (H0 : Hp) : Z.W.G → Hp → Hp → V → D → Prop := fun g Hf H v d => ∃ a vs ds, v = .ref a ∧ d = .lst ds ∧ H0 a = none ∧ H a = some (.lst vs) ∧ Hf a = none ∧ DvAll K Hf vs ds ∧ ¬ Z.W.fp g a
def tN (Z : Cn) (K : PySem.W.Frag) (E : Ent Z.W) (Wx : WX) (f : M Z.W.G D) : TE :=
  fun σ H Q => ∃ (Hf : Hp) (g : Z.W.G) (sl : SL), R K E H Hf g sl σ ∧ go Z (NewL K H) Wx σ (f sl g) H Hf g Q
abbrev DN (X : Cx) (Z : Cn) (E : Ent Z.W) (Wx : WX) (e : Expr) (f : M Z.W.G D) : Prop := PE X e (tN Z X.K E Wx f)
theorem dx_n (h : DN X Z E Wx e fe) : DX X Z E Wx e (xL fe) := by
  refine PE.imp h fun σ H Q ⟨Hf, g, sl, r, q⟩ => ⟨Hf, g, sl, r, (go_bind (Rm := NewL X.K H) q).mono fun v H1 ⟨Hf1, g1, d, b1, d1, q1⟩ => ?_⟩
  obtain ⟨p, vs, ds, rfl, rfl, h0, h1, h2, h3, h4⟩ := d1
  obtain ⟨xs, ex, q2⟩ := go_bl q1
  cases ex
  have hE : E.H p = none := by
    cases e : E.H p with
    | none => rfl
    | some o => exact absurd h0 (r.base.there p (by rw [e]; simp))
  exact q2 _ _ _ b1.self ⟨⟨p, vs, rfl, h1, h3, hE, h2, h4⟩, fun _ a ea => by cases ea; exact h0⟩
/-- .. told to stand -/
theorem de_n (h : DN X Z E Wx e fe) : DE X Z E Wx e fe := by
  refine PE.imp h fun σ H Q ⟨Hf, g, sl, r, q⟩ => ⟨Hf, g, sl, r, ?_⟩
  match em : fe sl g with
  | none => rw [em] at q; exact q
  | some (.exc c, g1) => rw [em] at q; exact q
  | some (.ok d, g1) =>
    rw [em] at q
    intro v H1 Hf1 b1 ⟨p, vs, ds, e1, e2, h0, h1, h2, h3, h4⟩
    subst e1 e2
    refine q _ H1 (upd Hf1 p (.lst vs)) ?_ (.lst upd_same (DvAll.mono (same_new h2) ds h3))
    exact { ff := Same.tr b1.ff (same_new h2)
            fh := fun x u e => by
              by_cases hx : x = p
              · subst hx; rw [upd_same] at e; cases e; exact h1
              · rw [upd_ne hx] at e; exact b1.fh x u e
            keep := b1.keep
            old := fun x e => by
              have hx : x ≠ p := fun q => by subst q; exact e h0
              rw [upd_ne hx]; exact b1.old x e
            there := b1.there
            rep := Wd.loc3 b1.rep (same_new h2)
            dis := fun x q => by
              have hx : x ≠ p := fun z => by subst z; exact h4 q
              rw [upd_ne hx]; exact b1.dis x q
            fpo := b1.fpo }
theorem new_n {W : Wd} {H Hf H1 Hf1 : Hp} {g g1 : W.G} {q : Addr} (b : Base W H Hf g H1 Hf1 g1) (hq : H1 q = none) : H q = none ∧ Hf1 q = none ∧ ¬ W.fp g1 q := by
  refine ⟨?_, b.hn hq, fun z => W.there g1 H1 _ q b.rep z hq⟩
  cases e : H q with
  | none => rfl
  | some o => exact absurd hq (b.there q (by rw [e]; simp))
theorem dn_lst {es : List Expr} {fs : M Z.W.G (List D)} (h : DA X Z E Wx es fs) : DN X Z E Wx (.List es pos) (eLst fs) := by
  refine PE.imp (pe_lst h) fun σ H Q ⟨Hf, g, sl, r, q⟩ => ⟨Hf, g, sl, r, (go_bind (Rm := RlA X.K) q).mono fun vs H1 ⟨Hf1, g1, cs, b1, d1, q1⟩ => ?_⟩
  obtain ⟨d, ed, k1⟩ := go_lift q1
  split at ed
  · rename_i hl
    cases ed
    refine ⟨by rw [d1.len]; exact lim_line2 hl, fun p hp => ?_⟩
    obtain ⟨n1, n2, n3⟩ := new_n b1 hp
    exact k1 _ _ _ (b1.allocU (.lst vs) hp) ⟨p, vs, cs, rfl, rfl, n1, upd_same, n2, d1, n3⟩
  · cases ed
/-- [..] * k -/
def repD : D → D → Option D
  | .lst a, .int k => if 0 ≤ k ∧ k ≤ 1000 ∧ a.length ≤ 100 then some (.lst (List.replicate k.toNat a).flatten) else none
  | _, _ => none
theorem dn_rep (ha : DR X Z E Wx a fa) (hb : DR X Z E Wx b fb) : DN X Z E Wx (.BinOp a .Mult b pos) (e2 repD fa fb) := by
  refine PE.imp (pe_op op_rep ha hb) fun σ H Q ⟨Hf, g, sl, r, q⟩ => ⟨Hf, g, sl, r, (go_bind (Rm := RlR X.K) q).mono fun x H1 ⟨Hf1, g1, a, b1, d1, q1⟩ => ⟨Hf1, g1, sl, r.step b1, (go_bind (Rm := RlR X.K) q1).mono fun y H2 ⟨Hf2, g2, b, b2, d2, q2⟩ => ?_⟩⟩
  obtain ⟨d, ed, k⟩ := go_lift q2
  have d1' := d1.step b2
  match a, b, ed, d1', d2 with
  | .lst i, .int j, ed, ha, hb =>
    obtain ⟨p, vs, rfl, h1, h2⟩ := ha.lst b2.fh
    obtain rfl := hb.int
    simp only [repD] at ed
    split at ed
    · rename_i hc
      cases ed
      refine ⟨p, j, vs, rfl, rfl, h1, by omega, by omega, ?_, fun q hq => ?_⟩
      · rw [h2.len]
        have e1 : j.toNat ≤ 1000 := by omega
        calc i.length * j.toNat ≤ 100 * 1000 := Nat.mul_le_mul hc.2.2 e1
          _ ≤ sizeLine := by decide
      · obtain ⟨n1, n2, n3⟩ := new_n (b1.trans b2) hq
        exact k _ _ _ (b2.allocU _ hq) ⟨q, _, _, rfl, rfl, n1, upd_same, n2, h2.rep _, n3⟩
    · cases ed
/-- list(x) -/
theorem dn_list {x : Str} {p : Pos} (hg : Gl X x) (hm : X.mg x = none) (hv : bootBuiltins x = some (.type "list")) (ha : DR X Z E Wx a fa) (hn : x ≠ "__name__" := by decide) (hdb : (x == ("__debug__" : Str)) = false := by decide)
    (hs : starEach [a] X.env = (false, eval a X.env) :: starEach [] X.env := by rfl) (hpl : (backTo pos (starEach [] X.env)).any (·.1) = false := by rfl) : DN X Z E Wx (.Call (.Name x p) [a] [] pos) (e1 lisD fa) := by
  refine PE.imp (pe_callTy call_list_of hg hm hv (pa_cons ha pa_nil hs) hn hdb hs hpl) fun σ H Q ⟨Hf, g, sl, r, q⟩ => ⟨Hf, g, sl, r, (go_bind (Rm := RlR X.K) q).mono fun x H1 ⟨Hf1, g1, a, b1, d1, q1⟩ => ?_⟩
  obtain ⟨d, ed, k⟩ := go_lift q1
  match a, ed, d1 with
  | .lst s, ed, ha =>
    cases ed
    obtain ⟨p, vs, rfl, h1, h2⟩ := ha.lst b1.fh
    refine ⟨p, vs, rfl, .inl (SqL.of h1), fun q hq => ?_⟩
    obtain ⟨n1, n2, n3⟩ := new_n b1 hq
    exact k _ _ _ (b1.allocU _ hq) ⟨q, _, _, rfl, rfl, n1, upd_same, n2, h2, n3⟩
  | .tup s, ed, ha =>
    cases ed
    obtain ⟨p, vs, rfl, h1, h2⟩ := ha.tup
    refine ⟨p, vs, rfl, .inr (SqT.of (b1.fh _ _ h1)), fun q hq => ?_⟩
    obtain ⟨n1, n2, n3⟩ := new_n b1 hq
    exact k _ _ _ (b1.allocU _ hq) ⟨q, _, _, rfl, rfl, n1, upd_same, n2, h2, n3⟩
/-- xs[lo:hi] of a list -/
def slL (d : D) (lo hi : Option Int) : Option D := match d with
  | .lst s => some (.lst (cut s lo hi))
  | _ => none
def eSlL {G : Type} (a : M G D) (lo hi : M G (Option Int)) : M G D := M.bind a fun x => M.bind lo fun l => M.bind hi fun h => M.lift (slL x l h)
theorem dn_slice {lo hi : Option Expr} {fl fh : M Z.W.G (Option Int)} {p2 : Pos} (he : DR X Z E Wx e fe) (hl : DO X Z E Wx lo fl) (hu : DO X Z E Wx hi fh) : DN X Z E Wx (.Subscript e (.Slice lo hi none p2) pos) (eSlL fe fl fh) := by
  refine PE.imp (pe_slice sl_list he hl hu) fun σ H Q ⟨Hf, g, sl, r, q⟩ => ?_
  refine ⟨Hf, g, sl, r, (go_bind (Rm := RlR X.K) q).mono fun x H1 ⟨Hf1, g1, c, b1, d1, q1⟩ => ⟨Hf1, g1, sl, r.step b1, (go_bind (Rm := RlO) q1).mono fun l H2 ⟨Hf2, g2, lo, b2, e2, q2⟩ =>
    ⟨Hf2, g2, sl, r.step (b1.trans b2), (go_bind (Rm := RlO) q2).mono fun u H3 ⟨Hf3, g3, hi, b3, e3, q3⟩ => ?_⟩⟩⟩
  obtain ⟨d, ed, k⟩ := go_lift q3
  cases e2
  cases e3
  have d2 := (d1.step b2).step b3
  match c, ed, d2 with
  | .lst s, ed, d2 =>
    cases ed
    obtain ⟨p, vs, rfl, h1, h2⟩ := d2.lst b3.fh
    refine ⟨p, vs, rfl, SqL.of h1, fun q hq => ?_⟩
    obtain ⟨n1, n2, n3⟩ := new_n ((b1.trans b2).trans b3) hq
    exact k _ _ _ (b3.allocU _ hq) ⟨q, _, _, rfl, rfl, n1, upd_same, n2, h2.cut l u, n3⟩

/-! ### blocks -/
theorem dss_nil : DSs X Z E Wx [] sSkip := PSs.imp pss_nil fun D σ H ⟨Hf, g, sl, r, q⟩ => q σ H Hf (same_refl _) r
theorem dss_cons (h1 : DS X Z E Wx st fs) (h2 : DSs X Z E Wx sts fs') : DSs X Z E Wx (st :: sts) (sSeq fs fs') :=
  PSs.imp (pss_cons h1 h2) fun D σ H ⟨Hf, g, sl, r, q⟩ => ⟨Hf, g, sl, r, goS_seq q⟩
theorem dss_one (h1 : DS X Z E Wx st fs) : DSs X Z E Wx [st] fs := pss_one h1
theorem ds_frz (i : Nat) (h : DS X Z E Wx st fs) : DS X Z E Wx st (sFrz i fs) := PS.imp h fun D σ H ⟨Hf, g, sl, r, q⟩ => by
  obtain ⟨Hf', s, r'⟩ := r.frz i
  exact ⟨Hf', g, _, r', goS.later (m := fs (frz1 i sl) g) q s⟩
theorem ds_fgt (vs : List Nat) (h : DS X Z E Wx st fs) : DS X Z E Wx st (sFgt vs fs) := PS.imp h fun D σ H ⟨Hf, g, sl, r, q⟩ => ⟨Hf, g, _, r.fgt vs, q⟩
theorem dss_frz (i : Nat) (h : DSs X Z E Wx sts fs) : DSs X Z E Wx sts (sFrz i fs) := PSs.imp h fun D σ H ⟨Hf, g, sl, r, q⟩ => by
  obtain ⟨Hf', s, r'⟩ := r.frz i
  exact ⟨Hf', g, _, r', goS.later (m := fs (frz1 i sl) g) q s⟩
theorem dss_fgt (vs : List Nat) (h : DSs X Z E Wx sts fs) : DSs X Z E Wx sts (sFgt vs fs) := PSs.imp h fun D σ H ⟨Hf, g, sl, r, q⟩ => ⟨Hf, g, _, r.fgt vs, q⟩
theorem ds_pass : DS X Z E Wx (.Pass pos) sSkip := PS.imp ps_pass fun D σ H ⟨Hf, g, sl, r, q⟩ => q σ H Hf (same_refl _) r
theorem ds_brk : DS X Z E Wx (.Break pos) sBrk := PS.imp ps_break fun D σ H ⟨Hf, g, sl, r, q⟩ => q σ H Hf (same_refl _) r
theorem ds_ct : DS X Z E Wx (.Continue pos) sCt := PS.imp ps_continue fun D σ H ⟨Hf, g, sl, r, q⟩ => q σ H Hf (same_refl _) r
theorem ds_drop (h : DE X Z E Wx e fe) (hs : swapsWith e none pos.line X.env = pure false := by rfl) : DS X Z E Wx (.Expr e pos) (sDrop fe) :=
  PS.imp (ps_expr h hs) fun D σ H ⟨Hf, g, sl, r, q⟩ => ⟨Hf, g, sl, r, (goS_do (Rl := RlD X.K) r q).mono fun v H1 ⟨Hf1, g1, d, b1, r1, d1, q1⟩ => q1 σ H1 Hf1 (same_refl _) r1⟩
theorem ds_ret (h : DE X Z E Wx e fe) : DS X Z E Wx (.Return (some e) pos) (sRet fe) :=
  PS.imp (ps_ret h) fun D σ H ⟨Hf, g, sl, r, q⟩ => ⟨Hf, g, sl, r, (goS_do (Rl := RlD X.K) r q).mono fun v H1 ⟨Hf1, g1, d, b1, r1, d1, q1⟩ => q1 v H1 Hf1 r1.base d1⟩
theorem ds_retN : DS X Z E Wx (.Return none pos) sRetN := PS.imp ps_retN fun D σ H ⟨Hf, g, sl, r, q⟩ => q .non H Hf r.base .non
theorem ds_if {ca cb : List Stmt} (hc : DT X Z E Wx c ft) (ha : DSs X Z E Wx ca fs) (hb : DSs X Z E Wx cb fs') : DS X Z E Wx (.If c ca cb pos) (sIf ft fs fs') := by
  refine PS.imp (ps_if hc ha hb) fun D σ H ⟨Hf, g, sl, r, q⟩ => ⟨Hf, g, sl, r, (goS_do (Rl := RlB) r q).mono fun v H1 ⟨Hf1, g1, k, b1, r1, e1, q1⟩ => ?_⟩
  cases e1
  cases v with
  | true => rw [if_pos rfl] at q1 ⊢; exact ⟨Hf1, g1, sl, r1, q1⟩
  | false => rw [if_neg (by decide)] at q1 ⊢; exact ⟨Hf1, g1, sl, r1, q1⟩
/-- x = e -/
theorem R.set_new {H Hf H1 Hf1 : Hp} {g g1 : Z.W.G} {sl : SL} {σ : St} {x : Slot} {v : V} {i : Nat} (r : R X.K E H Hf g sl σ) (r1 : R X.K E H1 Hf1 g1 sl σ) (h : RlX X.K E H g1 Hf1 H1 v x) : R X.K E H1 Hf1 g1 (sl.set i (some x)) (σ.set i (some v)) := by
  refine r1.set i h.1 fun ox a j y ea ej oy hj z => ?_
  have hn := h.2 ox a ea
  obtain ⟨w, hw, sw⟩ := r.slot j y ej
  rw [z] at hw
  cases hw
  cases y with
  | d _ => cases oy
  | kK _ => cases oy
  | oL _ => obtain ⟨_, _, e, h1, _⟩ := sw; cases e; rw [hn] at h1; cases h1
  | oK _ => obtain ⟨_, _, e, h1, _⟩ := sw; cases e; rw [hn] at h1; cases h1
  | oT _ => obtain ⟨_, _, e, h1, _⟩ := sw; cases e; rw [hn] at h1; cases h1
theorem ds_set {i : Nat} {x : Str} {pos' : Pos} (hN : X.N.Nodup) (hi : X.N[i]? = some x) (hx : Loc X.env.scope x) (he : DX X Z E Wx e fx) (hs : swapsWith e (some (.Name x pos')) pos.line X.env = pure false := by rfl)
    (hf : X.fn x = true ∨ X.env.scope.names.lookup x = some .local := by first | exact .inl rfl | exact .inr rfl | assumption) : DS X Z E Wx (.Assign [.Name x pos'] e pos) (sAsg i fx) :=
  PS.imp (ps_set hN hi hx he hs hf) fun D σ H ⟨Hf, g, sl, r, q⟩ => ⟨Hf, g, sl, r, (goS_do (Rl := RlX X.K E H) r q).mono fun v H1 ⟨Hf1, g1, s, b1, r1, d1, q1⟩ => q1 _ H1 Hf1 (same_refl _) (R.set_new r r1 d1)⟩

/-! ### a, b = x, y -/
theorem goS_dos {α β : Type} {Rl : Z.W.G → Hp → Hp → β → α → Prop} {f : M Z.W.G α} {k : α → SM Z.W.G} {D : Ends} {sl : SL} {σ : St} {H Hf : Hp} {g : Z.W.G} (r : R X.K E H Hf g sl σ) (h : goS Z X.K E Wx Hf (sDo f k sl g) D) :
    go Z Rl Wx σ (f sl g) H Hf g (fun v H1 => ∃ (Hf1 : Hp) (g1 : Z.W.G) (a : α), Base Z.W H Hf g H1 Hf1 g1 ∧ R X.K E H1 Hf1 g1 sl σ ∧ Rl g1 Hf1 H1 v a ∧ goS Z X.K E Wx Hf1 (k a sl g1) D) := goS_do r h
theorem RlX.step {H H1 Hf1 H2 Hf2 : Hp} {g1 g2 : Z.W.G} {v : V} {x : Slot} (b : Base Z.W H1 Hf1 g1 H2 Hf2 g2) (h : RlX X.K E H g1 Hf1 H1 v x) : RlX X.K E H g2 Hf2 H2 v x := ⟨h.1.step b, h.2⟩
theorem ds_par {i j : Nat} {x y : Str} {px py pt : Pos} {kt k2 pt2} (hc : X.calm = true) (hN : X.N.Nodup) (hi : X.N[i]? = some x) (hj : X.N[j]? = some y) (hij : i ≠ j)
    (hx : X.env.scope.names.lookup x = some .local) (hy : X.env.scope.names.lookup y = some .local) (ha : DX X Z E Wx a fx) (hb : DX X Z E Wx b fy)
    (hw : swappedStores [.Tuple [.Name x px, .Name y py] kt pt] (.Tuple [a, b] k2 pt2) X.env = pure (some [x, y]))
    (hs : swapsWithSole [.Tuple [.Name x px, .Name y py] kt pt] (.Tuple [a, b] k2 pt2) pos.line X.env = pure false := by rfl) (h1 : starEach [a, b] X.env = (false, eval a X.env) :: starEach [b] X.env := by rfl) (h2 : starEach [b] X.env = (false, eval b X.env) :: starEach [] X.env := by rfl) :
    DS X Z E Wx (.Assign [.Tuple [.Name x px, .Name y py] kt pt] (.Tuple [a, b] k2 pt2) pos) (sPar i j fx fy) := by
  refine PS.imp (ps_par hc hN hi hj hij hx hy (pa_cons ha (pa_cons hb pa_nil h2) h1) hw hs) fun D σ H ⟨Hf, g, sl, r, q⟩ => ?_
  refine ⟨Hf, g, sl, r, (goS_do (Rl := RlX X.K E H) r q).mono fun v H1 ⟨Hf1, g1, s1, b1, r1, d1, q1⟩ => ⟨Hf1, g1, sl, r1, (goS_do (Rl := RlX X.K E H1) r1 q1).mono fun w H2 ⟨Hf2, g2, s2, b2, r2, d2, q2⟩ => ?_⟩⟩
  refine ⟨v, w, rfl, ?_⟩
  have rA := R.set_new (X := X) (i := i) r r1 d1
  exact q2 _ H2 Hf2 (same_refl _) (R.set_new (X := X) (i := j) rA (rA.step b2) d2)
theorem ds_par3 {d : Expr} {i j l : Nat} {x y z : Str} {px py pz pt : Pos} {kt k2 pt2} (hc : X.calm = true) (hN : X.N.Nodup) (hi : X.N[i]? = some x) (hj : X.N[j]? = some y) (hl : X.N[l]? = some z) (hij : i ≠ j) (hil : i ≠ l) (hjl : j ≠ l)
    (hx : X.env.scope.names.lookup x = some .local) (hy : X.env.scope.names.lookup y = some .local) (hz : X.env.scope.names.lookup z = some .local) (ha : DX X Z E Wx a fx) (hb : DX X Z E Wx b fy) (hd : DX X Z E Wx d fz)
    (hw : swappedStores [.Tuple [.Name x px, .Name y py, .Name z pz] kt pt] (.Tuple [a, b, d] k2 pt2) X.env = pure (some [x, y, z]))
    (hs : swapsWithSole [.Tuple [.Name x px, .Name y py, .Name z pz] kt pt] (.Tuple [a, b, d] k2 pt2) pos.line X.env = pure false := by rfl) (h1 : starEach [a, b, d] X.env = (false, eval a X.env) :: starEach [b, d] X.env := by rfl)
    (h2 : starEach [b, d] X.env = (false, eval b X.env) :: starEach [d] X.env := by rfl) (h3 : starEach [d] X.env = (false, eval d X.env) :: starEach [] X.env := by rfl) :
    DS X Z E Wx (.Assign [.Tuple [.Name x px, .Name y py, .Name z pz] kt pt] (.Tuple [a, b, d] k2 pt2) pos) (sPar3 i j l fx fy fz) := by
  refine PS.imp (ps_par3 hc hN hi hj hl hij hil hjl hx hy hz (pa_cons ha (pa_cons hb (pa_cons hd pa_nil h3) h2) h1) hw hs) fun D σ H ⟨Hf, g, sl, r, q⟩ => ?_
  refine ⟨Hf, g, sl, r, (goS_do (Rl := RlX X.K E H) r q).mono fun v H1 ⟨Hf1, g1, s1, b1, r1, d1, q1⟩ => ⟨Hf1, g1, sl, r1, (goS_do (Rl := RlX X.K E H1) r1 q1).mono fun w H2 ⟨Hf2, g2, s2, b2, r2, d2, q2⟩ =>
    ⟨Hf2, g2, sl, r2, (goS_do (Rl := RlX X.K E H2) r2 q2).mono fun u H3 ⟨Hf3, g3, s3, b3, r3, d3, q3⟩ => ?_⟩⟩⟩
  refine ⟨v, w, u, rfl, ?_⟩
  have rA := R.set_new (X := X) (i := i) r r1 d1
  have rB := R.set_new (X := X) (i := j) rA (rA.step b2) d2
  exact q3 _ H3 Hf3 (same_refl _) (R.set_new (X := X) (i := l) rB (rB.step b3) d3)

end
end DL
namespace DL
open PySem L2

/-! ### targets -/
theorem wipe_out1 {σ : St} {i : Nat} {x : Option V} : ∀ {vs : List Nat}, i ∉ vs → L2.wipe (σ.set i x) vs = (L2.wipe σ vs).set i x
  | [], _ => rfl
  | v :: vs, h => by
    have hv : v ≠ i := fun e => h (by rw [e]; exact List.mem_cons_self)
    show (L2.wipe (σ.set i x) vs).set v none = ((L2.wipe σ vs).set v none).set i x
    rw [wipe_out1 (fun m => h (List.mem_cons_of_mem _ m)), List.set_comm _ _ (Ne.symm hv)]
theorem wipe_in {σ : St} {i : Nat} {x : Option V} : ∀ {vs : List Nat}, i ∈ vs → L2.wipe (σ.set i x) vs = L2.wipe σ vs
  | v :: vs, h => by
    show (L2.wipe (σ.set i x) vs).set v none = (L2.wipe σ vs).set v none
    by_cases hm : i ∈ vs
    · rw [wipe_in hm]
    · have e : i = v := by
        rcases List.mem_cons.mp h with e | e
        · exact e
        · exact absurd e hm
      subst e
      rw [wipe_out1 hm, List.set_set]
theorem wipe_wipe {σ : St} : ∀ {vs ws : List Nat}, (∀ i ∈ vs, i ∈ ws) → L2.wipe (L2.wipe σ vs) ws = L2.wipe σ ws
  | [], ws, _ => rfl
  | v :: vs, ws, h => by
    show L2.wipe ((L2.wipe σ vs).set v none) ws = L2.wipe σ ws
    rw [wipe_in (h v List.mem_cons_self), wipe_wipe fun i hi => h i (List.mem_cons_of_mem _ hi)]
/-- a target: the data given to it, the slots behind it; ixs: the slots that it changes -/
def TgOk (K : PySem.W.Frag) (u : TG) (ixs : List Nat) (t : Tg) : Prop := ∀ (Z : Cn) (E : Ent Z.W) (H Hf : Hp) (g : Z.W.G) (sl sl' : SL) (σ : St) (v : V) (d : D) (Q : St → Hp → Prop), R K E H Hf g sl σ → Dv K Hf v d → t d sl = some sl' →
  (∀ σ', R K E H Hf g sl' σ' → (∀ vs : List Nat, (∀ i ∈ ixs, i ∈ vs) → L2.wipe σ' vs = L2.wipe σ vs) → Q σ' H) → u v σ H Q
structure DG (X : Cx) (tg : Expr) (u : TG) (ixs : List Nat) (t : Tg) : Prop where
  pg : PG X tg u
  ok : TgOk X.K u ixs t
section
variable {X : Cx} {pos : Pos}
theorem R.setd {Z : Cn} {K : PySem.W.Frag} {E : Ent Z.W} {H Hf : Hp} {g : Z.W.G} {sl : SL} {σ : St} (r : R K E H Hf g sl σ) (i : Nat) {v : V} {d : D} (h : Dv K Hf v d) : R K E H Hf g (sl.set i (some (.d d))) (σ.set i (some v)) :=
  r.set i (x := .d d) h fun z => by cases z
theorem tgok1 {K : PySem.W.Frag} (i : Nat) : TgOk K (gName i) [i] (tg1 i) := by
  intro Z E H Hf g sl sl' σ v d Q r dv e k
  cases e
  exact k _ (r.setd i dv) fun vs h => wipe_in (h i (by simp))
theorem tgok2 {K : PySem.W.Frag} (i j : Nat) : TgOk K (gTup K 2 (gCons (gName i) (gCons (gName j) gNil))) [i, j] (tg2 i j) := by
  intro Z E H Hf g sl sl' σ v d Q r dv e k
  match d, e, dv with
  | .tup [a, b], e, dv =>
    cases e
    cases dv with
    | tup h1 h2 =>
      cases h2 with
      | cons ha h2 =>
        cases h2 with
        | cons hb h2 =>
          cases h2
          exact ⟨_, _, rfl, SqT.of (r.base.fh _ _ h1), rfl, _, _, rfl, _, _, rfl, rfl, k _ ((r.setd i ha).setd j hb) fun vs h => by rw [wipe_in (h j (by simp)), wipe_in (h i (by simp))]⟩
theorem dg_name {i : Nat} {x : Str} (hN : X.N.Nodup) (hi : X.N[i]? = some x) (hx : Loc X.env.scope x) (hf : X.fn x = true ∨ X.env.scope.names.lookup x = some .local := by first | exact .inl rfl | exact .inr rfl | assumption) : DG X (.Name x pos) (gName i) [i] (tg1 i) := by
  refine ⟨pg_name hN hi hx hf, fun Z E H Hf g sl sl' σ v d Q r dv e k => ?_⟩
  cases e
  exact k _ (r.setd i dv) fun vs h => wipe_in (h i (by simp))
theorem dg_tup2 {i j : Nat} {x y : Str} {k : Nat} {p1 p2 : Pos} (hc : X.calm = true) (hN : X.N.Nodup) (hi : X.N[i]? = some x) (hx : Loc X.env.scope x) (hj : X.N[j]? = some y) (hy : Loc X.env.scope y)
    (hf : X.fn x = true ∨ X.env.scope.names.lookup x = some .local := by first | exact .inl rfl | exact .inr rfl | assumption) (hf2 : X.fn y = true ∨ X.env.scope.names.lookup y = some .local := by first | exact .inl rfl | exact .inr rfl | assumption)
    (hn : (assignEach [.Name x p1, .Name y p2] X.env).length = 2 := by rfl) (hst : (assignEach [.Name x p1, .Name y p2] X.env).findIdx? (·.1) = none := by rfl)
    (hs : (assignEach [.Name x p1, .Name y p2] X.env).map (·.2) = assign (.Name x p1) X.env :: (assignEach [.Name y p2] X.env).map (·.2) := by rfl) (hs2 : (assignEach [.Name y p2] X.env).map (·.2) = assign (.Name y p2) X.env :: (assignEach [] X.env).map (·.2) := by rfl) :
    DG X (.Tuple [.Name x p1, .Name y p2] k pos) (gTup X.K 2 (gCons (gName i) (gCons (gName j) gNil))) [i, j] (tg2 i j) := by
  refine ⟨pg_tup hc (pgs_cons (pg_name hN hi hx hf) (pgs_cons (pg_name hN hj hy hf2) pgs_nil hs2) hs) hn hst, fun Z E H Hf g sl sl' σ v d Q r dv e k => ?_⟩
  match d, e, dv with
  | .tup [a, b], e, dv =>
    cases e
    cases dv with
    | tup h1 h2 =>
      cases h2 with
      | cons ha h2 =>
        cases h2 with
        | cons hb h2 =>
          cases h2
          exact ⟨_, _, rfl, SqT.of (r.base.fh _ _ h1), rfl, _, _, rfl, _, _, rfl, rfl, k _ ((r.setd i ha).setd j hb) fun vs h => by rw [wipe_in (h j (by simp)), wipe_in (h i (by simp))]⟩
theorem dg_tup3 {i j l : Nat} {x y z : Str} {k : Nat} {p1 p2 p3 : Pos} (hc : X.calm = true) (hN : X.N.Nodup) (hi : X.N[i]? = some x) (hx : Loc X.env.scope x) (hj : X.N[j]? = some y) (hy : Loc X.env.scope y) (hl : X.N[l]? = some z) (hz : Loc X.env.scope z)
    (hf : X.fn x = true ∨ X.env.scope.names.lookup x = some .local := by first | exact .inl rfl | exact .inr rfl | assumption) (hf2 : X.fn y = true ∨ X.env.scope.names.lookup y = some .local := by first | exact .inl rfl | exact .inr rfl | assumption)
    (hf3 : X.fn z = true ∨ X.env.scope.names.lookup z = some .local := by first | exact .inl rfl | exact .inr rfl | assumption)
    (hn : (assignEach [.Name x p1, .Name y p2, .Name z p3] X.env).length = 3 := by rfl) (hst : (assignEach [.Name x p1, .Name y p2, .Name z p3] X.env).findIdx? (·.1) = none := by rfl)
    (hs : (assignEach [.Name x p1, .Name y p2, .Name z p3] X.env).map (·.2) = assign (.Name x p1) X.env :: (assignEach [.Name y p2, .Name z p3] X.env).map (·.2) := by rfl) (hs2 : (assignEach [.Name y p2, .Name z p3] X.env).map (·.2) = assign (.Name y p2) X.env :: (assignEach [.Name z p3] X.env).map (·.2) := by rfl)
    (hs3 : (assignEach [.Name z p3] X.env).map (·.2) = assign (.Name z p3) X.env :: (assignEach [] X.env).map (·.2) := by rfl) :
    DG X (.Tuple [.Name x p1, .Name y p2, .Name z p3] k pos) (gTup X.K 3 (gCons (gName i) (gCons (gName j) (gCons (gName l) gNil)))) [i, j, l] (tg3 i j l) := by
  refine ⟨pg_tup hc (pgs_cons (pg_name hN hi hx hf) (pgs_cons (pg_name hN hj hy hf2) (pgs_cons (pg_name hN hl hz hf3) pgs_nil hs3) hs2) hs) hn hst, fun Z E H Hf g sl sl' σ v d Q r dv e k => ?_⟩
  match d, e, dv with
  | .tup [a, b, c], e, dv =>
    cases e
    cases dv with
    | tup h1 h2 =>
      cases h2 with
      | cons ha h2 =>
        cases h2 with
        | cons hb h2 =>
          cases h2 with
          | cons hc h2 =>
            cases h2
            exact ⟨_, _, rfl, SqT.of (r.base.fh _ _ h1), rfl, _, _, rfl, _, _, rfl, _, _, rfl, rfl, k _ (((r.setd i ha).setd j hb).setd l hc) fun vs h => by rw [wipe_in (h l (by simp)), wipe_in (h j (by simp)), wipe_in (h i (by simp))]⟩
end

/-! ### what is walked -/
/-- how a turn's item lies to the data: as it stands, or in a new tuple -/
def YD (K : PySem.W.Frag) (Hf0 : Hp) (ds : List D) : Nat → Hp → V → Hp → Prop := fun i H x H' => ∃ d, ds[i]? = some d ∧ ((H' = H ∧ Dv K Hf0 x d) ∨ ∃ (T : Addr) (vs : List V) (es : List D), x = .ref T ∧ H T = none ∧ H' = upd H T (.tup vs) ∧ d = .tup es ∧ DvAll K Hf0 vs es)
abbrev WalkD (K : PySem.W.Frag) (J : It) (ds : List D) (Hf0 : Hp) : Prop := Walk J ds.length (fun H => Same Hf0 H) (YD K Hf0 ds)
def tI (Z : Cn) (K : PySem.W.Frag) (E : Ent Z.W) (Wx : WX) (f : M Z.W.G (List D)) : TI := fun σ H Rk => ∃ (Hf : Hp) (g : Z.W.G) (sl : SL), R K E H Hf g sl σ ∧ go Z (fun _ Hf' _ J ds => WalkD K J ds Hf') Wx σ (f sl g) H Hf g Rk
def DI (X : Cx) (Z : Cn) (E : Ent Z.W) (Wx : WX) (tg iter : Expr) (f : M Z.W.G (List D)) : Prop := PI X tg iter (tI Z X.K E Wx f)
theorem PI.imp {X : Cx} {tg iter : Expr} {t t' : TI} (h : PI X tg iter t) (k : ∀ σ H Q, t' σ H Q → t σ H Q) : PI X tg iter t' := ⟨fun pins s σ H Rk I q => h.run pins s σ H Rk I (k σ H Rk q)⟩
/-- behind a turn -/
theorem YD.run {W : Wd} {K : PySem.W.Frag} {Hf0 H Hf H' : Hp} {g : W.G} {ds : List D} {i : Nat} {x : V} (b : Base W H Hf g H Hf g) (s : Same Hf0 Hf) (y : YD K Hf0 ds i H x H') : ∃ d Hf', ds[i]? = some d ∧ Base W H Hf g H' Hf' g ∧ Dv K Hf' x d := by
  obtain ⟨d, e, ⟨rfl, h⟩ | ⟨T, vs, es, rfl, hT, rfl, rfl, h⟩⟩ := y
  · exact ⟨d, Hf, e, b, Dv.mono s d h⟩
  · exact ⟨_, upd Hf T (.tup vs), e, b.alloc _ hT, .tup upd_same (DvAll.mono (Same.tr s (same_new (b.hn hT))) es h)⟩

section
variable {X : Cx} {Z : Cn} {E : Ent Z.W} {Wx : WX} {e a b c tg : Expr} {pos p : Pos} {fe fa fb fc : M Z.W.G D} {ft fu : M Z.W.G Bool} {fs fs' : SM Z.W.G}
theorem ds_for {iter : Expr} {body : List Stmt} {fi : M Z.W.G (List D)} {u : TG} {ixs : List Nat} {t : Tg} {vs : List Nat} (hp : PassesOwn (model X.prog X.w) X.A X.env X.xe) (hc : X.calm = true) (hi : DI X Z E Wx tg iter fi) (hg : DG X tg u ixs t) (hb : DSs X Z E Wx body fs)
    (hs : ∀ x, foldedSetIterable iter X.env x = pure x := by intro _; rfl) : DS X Z E Wx (.For tg iter body [] pos) (sFor fi t vs fs) := by
  obtain ⟨pg, kg⟩ := hg
  refine PS.imp (ps_for hp hc hi pg hb hs) fun D σ H ⟨Hf, g, sl, r, q⟩ => ?_
  refine ⟨Hf, g, sl, r, (goS_do (Rl := fun _ Hf' _ J ds => WalkD X.K J ds Hf') r q).mono fun J H1 ⟨Hf1, g1, ds, b1, r1, wk, q1⟩ => ?_⟩
  refine for_it wk (fun i σ H => ∃ (Hf2 : Hp) (g2 : Z.W.G) (sl2 : SL), Same Hf1 Hf2 ∧ R X.K E H Hf2 g2 sl2 σ ∧ goS Z X.K E Wx Hf2 (forL t fs vs (ds.drop i) sl2 g2) D) ⟨Hf1, g1, sl, same_refl _, r1, q1⟩ ?_ ?_ ?_
  · rintro i σ H _ ⟨Hf2, g2, sl2, s2, r2, q2⟩
    exact Same.tr s2 r2.base.fh
  · rintro i x σ H H' hi ⟨Hf2, g2, sl2, s2, r2, q2⟩ y
    obtain ⟨d, Hf3, ed, b3, dv⟩ := y.run r2.base.self s2
    have ed' : ds.drop i = d :: ds.drop (i + 1) := by
      obtain ⟨hlt, ee⟩ := List.getElem?_eq_some_iff.mp ed
      rw [List.drop_eq_getElem_cons hlt, ee]
    rw [ed'] at q2
    unfold forL at q2
    have r3 := r2.step b3
    match et : t d sl2 with
    | none => rw [et] at q2; exact q2.elim
    | some sl3 =>
      rw [et] at q2
      refine kg Z E H' Hf3 g2 sl2 sl3 σ x d _ r3 dv et fun σ' r4 _ => ⟨Hf3, g2, sl3, r4, ?_⟩
      simp only at q2
      match eb : fs sl3 g2 with
      | none => rw [eb] at q2; exact q2.elim
      | some (.nx, sl4, g4) =>
        rw [eb] at q2
        exact fun σ5 H5 Hf5 s5 r5 => ⟨Hf5, g4, _, Same.tr s2 (Same.tr b3.ff s5), r5.fgt vs, goS.later (m := forL t fs vs (ds.drop (i + 1)) (wipeS sl4 vs) g4) q2 (Same.tr b3.ff s5)⟩
      | some (.ct, sl4, g4) =>
        rw [eb] at q2
        exact fun σ5 H5 Hf5 s5 r5 => ⟨Hf5, g4, _, Same.tr s2 (Same.tr b3.ff s5), r5.fgt vs, goS.later (m := forL t fs vs (ds.drop (i + 1)) (wipeS sl4 vs) g4) q2 (Same.tr b3.ff s5)⟩
      | some (.bk, sl4, g4) =>
        rw [eb] at q2
        exact fun σ5 H5 Hf5 s5 r5 => q2 σ5 H5 Hf5 (Same.tr b3.ff s5) r5
      | some (.rt d, sl4, g4) => rw [eb] at q2; exact q2
      | some (.ex d, sl4, g4) => rw [eb] at q2; exact q2
  · rintro σ H ⟨Hf2, g2, sl2, s2, r2, q2⟩
    rw [List.drop_length] at q2
    exact q2 σ H Hf2 (same_refl _) r2
theorem ds_while {body : List Stmt} {vs : List Nat} (n : Nat) (hp : PassesOwn (model X.prog X.w) X.A X.env X.xe) (hc : DT X Z E Wx c ft) (hb : DSs X Z E Wx body fs) : DS X Z E Wx (.While c body [] pos) (sWhile ft vs fs n) := by
  refine PS.imp (ps_while hp hc hb) fun D σ H ⟨Hf, g, sl, r, q⟩ => ?_
  refine ⟨fun m σ H => ∃ (Hf2 : Hp) (g2 : Z.W.G) (sl2 : SL), R X.K E H Hf2 g2 sl2 σ ∧ goS Z X.K E Wx Hf2 (sWhile ft vs fs m sl2 g2) D, ⟨n, Hf, g, sl, r, q⟩, ?_⟩
  rintro m σ H ⟨Hf2, g2, sl2, r2, q2⟩
  cases m with
  | zero => exact q2.elim
  | succ m =>
    unfold sWhile at q2
    refine ⟨Hf2, g2, sl2, r2, (goS_do (Rl := RlB) r2 q2).mono fun v H1 ⟨Hf1, g1, k, b1, r1, e1, q1⟩ => ?_⟩
    cases e1
    cases v with
    | false =>
      rw [if_neg (by decide)] at q1 ⊢
      exact q1 σ H1 Hf1 (same_refl _) r1
    | true =>
      rw [if_pos rfl] at q1 ⊢
      refine ⟨fun σ H => ∃ (Hf2 : Hp) (g2 : Z.W.G) (sl2 : SL), R X.K E H Hf2 g2 sl2 σ ∧ goS Z X.K E Wx Hf2 (sWhile ft vs fs m sl2 g2) D, fun σ' H' z => ⟨m, Nat.lt_succ_self _, z⟩, Hf1, g1, sl2, r1, ?_⟩
      match eb : fs sl2 g1 with
      | none => rw [eb] at q1; exact q1.elim
      | some (.nx, sl4, g4) =>
        rw [eb] at q1
        exact fun σ5 H5 Hf5 s5 r5 => ⟨Hf5, g4, _, r5.fgt vs, goS.later (m := sWhile ft vs fs m (wipeS sl4 vs) g4) q1 s5⟩
      | some (.ct, sl4, g4) =>
        rw [eb] at q1
        exact fun σ5 H5 Hf5 s5 r5 => ⟨Hf5, g4, _, r5.fgt vs, goS.later (m := sWhile ft vs fs m (wipeS sl4 vs) g4) q1 s5⟩
      | some (.bk, sl4, g4) =>
        rw [eb] at q1
        exact q1
      | some (.rt d, sl4, g4) => rw [eb] at q1; exact q1
      | some (.ex d, sl4, g4) => rw [eb] at q1; exact q1

/-! iterables -/
def asSeq : D → Option (List D)
  | .lst xs => some xs
  | .tup xs => some xs
  | .str s => some (s.map fun c => .str [c])
  | _ => none
def iSeq {G : Type} (f : M G D) : M G (List D) := M.bind f fun d => M.lift (asSeq d)
def asT : D → Option (List D)
  | .tup xs => some xs
  | _ => none
theorem walk_dl {K : PySem.W.Frag} {a : Addr} {xs : List V} {ds : List D} {Hf : Hp} (h : Hf a = some (.lst xs)) (d : DvAll K Hf xs ds) : WalkD K (Itl K a) ds Hf := by
  unfold WalkD
  rw [← d.len]
  refine (walk_list (xs := xs)).mono (fun H s => SqL.of (s _ _ h)) fun i H x H' _ _ y => ?_
  obtain ⟨d', e1, e2⟩ := d.get y.2
  exact ⟨d', e1, .inl ⟨y.1, e2⟩⟩
theorem walk_dt {K : PySem.W.Frag} {a : Addr} {xs : List V} {ds : List D} {Hf : Hp} (h : Hf a = some (.tup xs)) (d : DvAll K Hf xs ds) : WalkD K (Itt K a) ds Hf := by
  unfold WalkD
  rw [← d.len]
  refine (walk_tup (xs := xs)).mono (fun H s => SqT.of (s _ _ h)) fun i H x H' _ _ y => ?_
  obtain ⟨d', e1, e2⟩ := d.get y.2
  exact ⟨d', e1, .inl ⟨y.1, e2⟩⟩
theorem walk_ds {K : PySem.W.Frag} {s : List Nat} {Hf : Hp} (ok : okS s) : WalkD K (Its (mkS s)) (s.map fun c => D.str [c]) Hf := by
  unfold WalkD
  have hn : (s.map fun c => D.str [c]).length = (mkS s).cps.size := by simp [mkS]
  rw [hn]
  refine (walk_str (z := mkS s)).mono (fun H s => True.intro) fun i H x H' _ _ y => ?_
  obtain ⟨e, c, h1, rfl⟩ := y
  have h2 : s[i]? = some c := by simpa [mkS] using h1
  refine ⟨.str [c], by simp [h2], .inl ⟨e, .str [c] (okS_sub ok ?_ fun x hx => ?_)⟩⟩
  · have := (List.getElem?_eq_some_iff.mp h2).1
    simp; omega
  · simp at hx; subst hx; exact List.mem_of_getElem? h2
/-- a list, a tuple or a text: three rules, one for each (the text of the program tells which) -/
def iL {G : Type} (f : M G D) : M G (List D) := M.bind f fun d => M.lift (asL d)
def iT {G : Type} (f : M G D) : M G (List D) := M.bind f fun d => M.lift (asT d)
def asS : D → Option (List Nat)
  | .str s => some s
  | _ => none
def iS {G : Type} (f : M G D) : M G (List D) := M.bind f fun d => M.bind (M.lift (asS d)) fun s => M.pure (s.map fun c => .str [c])
theorem di_list (h : DE X Z E Wx e fe) : DI X Z E Wx tg e (iL fe) := by
  refine PI.imp (pi_list h) fun σ H Rk ⟨Hf, g, sl, r, q⟩ => ⟨Hf, g, sl, r, (go_bind (Rm := RlD X.K) q).mono fun v H1 ⟨Hf1, g1, d, b1, d1, q1⟩ => ?_⟩
  obtain ⟨xs, ex, k⟩ := go_lift q1
  obtain rfl := asL_some ex
  cases d1 with
  | lst h1 h2 => exact ⟨_, rfl, ⟨_, SqL.of (b1.fh _ _ h1)⟩, k _ _ _ b1.self (walk_dl h1 h2)⟩
theorem di_tup (h : DE X Z E Wx e fe) : DI X Z E Wx tg e (iT fe) := by
  refine PI.imp (pi_tup h) fun σ H Rk ⟨Hf, g, sl, r, q⟩ => ⟨Hf, g, sl, r, (go_bind (Rm := RlD X.K) q).mono fun v H1 ⟨Hf1, g1, d, b1, d1, q1⟩ => ?_⟩
  obtain ⟨xs, ex, k⟩ := go_lift q1
  match d, ex, d1 with
  | .tup ds, ex, d1 =>
    cases ex
    cases d1 with
    | tup h1 h2 => exact ⟨_, rfl, ⟨_, SqT.of (b1.fh _ _ h1)⟩, k _ _ _ b1.self (walk_dt h1 h2)⟩
theorem di_str (h : DE X Z E Wx e fe) : DI X Z E Wx tg e (iS fe) := by
  refine PI.imp (pi_str h) fun σ H Rk ⟨Hf, g, sl, r, q⟩ => ⟨Hf, g, sl, r, (go_bind (Rm := RlD X.K) q).mono fun v H1 ⟨Hf1, g1, d, b1, d1, q1⟩ => ?_⟩
  obtain ⟨s, es, q2⟩ := go_bl q1
  match d, es, d1 with
  | .str s, es, d1 =>
    cases es
    cases d1 with
    | str _ ok => exact ⟨mkS s, rfl, q2 _ _ _ b1.self (walk_ds ok)⟩
/-- range(n), range(a, b) -/
def rgD (lo hi : Int) : List D := (List.range (hi - lo).toNat).map fun i => .int (lo + (i : Nat))
def rgOk (lo hi : Int) : Bool := decide (-(2 ^ 62) ≤ lo) && decide (lo < 2 ^ 62) && decide (-(2 ^ 62) ≤ hi) && decide (hi < 2 ^ 62)
def iR1 {G : Type} (f : M G D) : M G (List D) := M.bind f fun d => M.bind (M.lift (asI d)) fun n => M.lift (if rgOk 0 n then some (rgD 0 n) else none)
def iR2 {G : Type} (f h : M G D) : M G (List D) := M.bind f fun d => M.bind h fun e => M.bind (M.lift (asI d)) fun n => M.bind (M.lift (asI e)) fun m => M.lift (if rgOk n m then some (rgD n m) else none)
theorem walk_dr {K : PySem.W.Frag} {lo hi : Int} {Hf : Hp} : WalkD K (Itr lo (hi - lo).toNat) (rgD lo hi) Hf := by
  unfold WalkD
  have hn : (rgD lo hi).length = (hi - lo).toNat := by simp [rgD]
  rw [hn]
  refine (walk_range (lo := lo)).mono (fun H s => True.intro) fun i H x H' hi _ y => ?_
  obtain ⟨e, rfl⟩ := y
  exact ⟨.int (lo + i), by simp [rgD, hi], .inl ⟨e, .int _⟩⟩
theorem di_range1 (hg : Gl X "range") (hm : X.mg "range" = none) (ha : DE X Z E Wx a fa) (hs : starEach [a] X.env = [(false, eval a X.env)] := by rfl) : DI X Z E Wx tg (.Call (.Name "range" p) [a] [] pos) (iR1 fa) := by
  refine PI.imp (pi_range1 hg hm (pa_cons ha pa_nil hs) hs) fun σ H Rk ⟨Hf, g, sl, r, q⟩ => ⟨Hf, g, sl, r, (go_bind (Rm := RlD X.K) q).mono fun v H1 ⟨Hf1, g1, d, b1, d1, q1⟩ => ?_⟩
  obtain ⟨n, en, q2⟩ := go_bl q1
  obtain rfl := asI_some en
  cases d1
  obtain ⟨xs, ex, k⟩ := go_lift q2
  split at ex
  · rename_i hc
    cases ex
    simp only [rgOk, Bool.and_eq_true, decide_eq_true_eq] at hc
    refine ⟨n, rfl, hc.1.2, hc.2, ?_⟩
    have := k _ _ _ b1.self (walk_dr (K := X.K) (lo := 0) (hi := n) (Hf := Hf1))
    rw [show (n - 0) = n by omega] at this
    exact this
  · cases ex
theorem di_range2 (hg : Gl X "range") (hm : X.mg "range" = none) (ha : DE X Z E Wx a fa) (hb : DE X Z E Wx b fb) (hs : starEach [a, b] X.env = [(false, eval a X.env), (false, eval b X.env)] := by rfl) (hs2 : starEach [b] X.env = [(false, eval b X.env)] := by rfl) :
    DI X Z E Wx tg (.Call (.Name "range" p) [a, b] [] pos) (iR2 fa fb) := by
  refine PI.imp (pi_range2 hg hm (pa_cons ha (pa_cons hb pa_nil hs2) (hs.trans (by rw [hs2]))) hs hs2) fun σ H Rk ⟨Hf, g, sl, r, q⟩ => ⟨Hf, g, sl, r, (go_bind (Rm := RlD X.K) q).mono fun v H1 ⟨Hf1, g1, d, b1, d1, q1⟩ =>
    ⟨Hf1, g1, sl, r.step b1, (go_bind (Rm := RlD X.K) q1).mono fun w H2 ⟨Hf2, g2, d', b2, d2, q2⟩ => ?_⟩⟩
  obtain ⟨n, en, q3⟩ := go_bl q2
  obtain ⟨m, em, q4⟩ := go_bl q3
  obtain rfl := asI_some en
  obtain rfl := asI_some em
  cases d1
  cases d2
  obtain ⟨xs, ex, k⟩ := go_lift q4
  split at ex
  · rename_i hc
    cases ex
    simp only [rgOk, Bool.and_eq_true, decide_eq_true_eq] at hc
    exact ⟨n, m, rfl, ⟨hc.1.1.1, hc.1.1.2, hc.1.2, hc.2⟩, k _ _ _ b2.self walk_dr⟩
  · cases ex
end
end DL
namespace L2
open PySem PySem.Spec PyProof.Rows
/-! ### enumerate(tuple), enumerate(text), zip(text, text) -/
def IeT (K : PySem.W.Frag) (a : Addr) : It :=
  ⟨fun i H => ∃ (xs : List V) (x : V), SqT K H a xs ∧ xs[i]? = some x, fun i H v H' => ∃ T x, v = .ref T ∧ H T = none ∧ H' = upd H T (.tup [.int (i : Nat), x]) ∧ ∀ xs, SqT K H a xs → xs[i]? = some x, fun i H => ∃ xs : List V, SqT K H a xs ∧ xs.length = i⟩
theorem turn_enumT {P : Program} {w : World} {K : PySem.W.Frag} {elts : List Expr} {kk : Nat} {tpos : Pos} (a e it : Addr) :
    Turn P w K (.Tuple elts kk tpos) (IeT K a) [e, it] e (fun i h => (∃ old, IsEnum h e it ((i : Nat) : Int) old) ∧ h.IsTupleIter it a i ∧ e ≠ it ∧ a ≠ it ∧ a ≠ e) where
  mem := by simp
  obj := fun i h st b hb => by
    obtain ⟨⟨old, he⟩, ⟨o, ho, hc, hd⟩, _⟩ := st
    have e' : b = e ∨ b = it := by simpa using hb
    rcases e' with z | z
    · rw [z]; exact ⟨_, he, fun v q => nomatch q⟩
    · rw [z]; exact ⟨o, ho, fun v q => by rw [hd] at q; cases q⟩
  keep := fun i h h' st k => let ⟨⟨old, he⟩, hi, hne⟩ := st; ⟨⟨old, k e (by simp) _ he⟩, hi.at fun o q => k it (by simp) o q, hne⟩
  item := by
    intro X hP hw hK hc i pins s σ H E I hf st hg
    subst hP hw hK
    obtain ⟨⟨old, he⟩, hit, hne, hna, hnb⟩ := st
    obtain ⟨xs, x, hq, hx⟩ := hg
    obtain ⟨its, rv, p, hz⟩ := I.tuple hq
    have hel : e < s.heap.objs.size := Heap.lt_size he
    have hil : it < s.heap.objs.size := by obtain ⟨_, q, _⟩ := hit; exact Heap.lt_size q
    have hlt : i < its.toArray.size := by
      have := (List.getElem?_eq_some_iff.mp hx).1
      rw [List.size_toArray, ← rv.length]; exact this
    refine wpAny_pyNext_enum_itemD (Draws.tuple (show X.A.in1.handled = none from I.ok.hd hc) it a hna its.toArray) he ⟨hit, p⟩ hlt hne (by simp; exact ⟨hne, fun z => hnb z.symm⟩) fun u h' tk hu ho hst' hT hsz hk => ?_
    have hu' : its[i]? = some u := by simpa using hu
    obtain ⟨u2, hu2, ru⟩ := rv.get hx
    rw [hu'] at hu2
    cases hu2
    refine ⟨_, rfl, wpAny_letOwnedTupleGo_enum (s := { s with heap := h', toks := tk + 1 }) ho fun h'' he' sb => ?_⟩
    have hT2 : h''.get? s.heap.objs.size = some { cls := .type "tuple", data := .seq #[.int i tk, u] } := (sb.2 _ (Nat.ne_of_gt hel)).trans hT
    have new : ObjOk X.prog X.w (upd H s.heap.objs.size (.tup [.int (i : Nat), x])) h'' s.heap.objs.size (.tup [.int (i : Nat), x]) :=
      ⟨by show 2 ≤ sizeLine; decide, [.int i tk, u], .cons ⟨_, rfl⟩ (.cons ru .nil), ⟨_, hT2, rfl, _, rfl⟩⟩
    have I1 : Inv X pins σ (upd H s.heap.objs.size (.tup [.int (i : Nat), x])) { s with heap := h'', toks := tk + 1 } :=
      I.turnedNew (ch := [e, it]) (fun b ob hb q => (sb.2 b (fun z => hb (by simp [z]))).trans (hk b ob (fun z => hb (by simp [z])) (fun z => hb (by simp [z])) q)) hf (Nat.le_refl _) new
    refine ⟨.ref s.heap.objs.size, _, I1, rfl, ⟨_, x, rfl, I.hok.fresh (Nat.le_refl _), rfl, fun ys hy => by rw [I.tuple_inj hy hq]; exact hx⟩, ⟨⟨u, ?_⟩, hst'.1.at fun o q => (sb.2 it (Ne.symm hne)).trans q, hne, hna, hnb⟩, fun b hb => ?_⟩
    · have e1 : ((i + 1 : Nat) : Int) = (i : Int) + 1 := by omega
      rw [e1]; exact he'
    · have hb' : b < s.heap.objs.size := by
        have e' : b = e ∨ b = it := by simpa using hb
        rcases e' with z | z
        · rw [z]; exact hel
        · rw [z]; exact hil
      rw [upd_ne (Nat.ne_of_lt hb')]
      exact (hf b hb).1
  done := by
    intro X hP hw hK hc i pins s σ H E I hf st hg
    subst hP hw hK
    obtain ⟨⟨old, he⟩, hit, hne, hna, hnb⟩ := st
    obtain ⟨xs, hq, hx⟩ := hg
    obtain ⟨its, rv, p, hz⟩ := I.tuple hq
    obtain ⟨f0, f1, f2, f3, f4, f5⟩ := hf it (by simp)
    have hl := rv.length
    have hn : its.toArray.size = i := by rw [List.size_toArray]; omega
    exact wpAny_pyNext_enum_endD (Draws.tuple (show X.A.in1.handled = none from I.ok.hd hc) it a hna its.toArray) he ⟨by rw [hn]; exact hit, p⟩ fun h' eb => ⟨rfl, I.turned (t' := s.toks) (fun b o hb q => eb b o hb q) f0 f1 f3 f4 f5⟩
  self := fun A i s Q E st h => let ⟨⟨_, he⟩, _⟩ := st; wpAny_pyIter_enum he h
/-- enumerate's making, of any thing that begins -/
theorem meets_enum1B {v : Value} {o : Obj} {Hh : Heap → Prop} (B : Begins v o Hh) :
    Meets (Builtin.«enumerate.__new__» ⟨[.type "enumerate", v], []⟩) (fun _ R s => Hh s.heap ∧
      R (.ok (.ret (.ref (s.heap.push o).objs.size))) { s with heap := (s.heap.push o).push { cls := .type "enumerate", data := .fields #[.none, .bool false, .ref s.heap.objs.size, rawInt 0, .none, .none] } }) :=
  .of_wp fun prog w A R s h => by
    obtain ⟨hp, g, d, tk, os⟩ := s; obtain ⟨hl, h⟩ := h
    have hsub := sub_enumerate
    have key : ∀ (A : Around) (E : Value → Shared → Prop) (Q : Value → Shared → Prop), Q (.ref hp.objs.size) ⟨hp.push o, g, d, tk, os⟩ → wpAny (model prog w) A (pyIter v) Q E ⟨hp, g, d, tk, os⟩ := fun A E Q q => B.iter prog w A E ⟨hp, g, d, tk, os⟩ Q hl q
    wp_walk
    refine wpAny_stack_any fun st => wpAny_pure ?_
    split
    · rename_i c _ _ _ _ _
      cases (c == Value.type "enumerate")
      · wp_walk using key
        exact ⟨_, rfl, h⟩
      · wp_walk using key
        exact ⟨_, rfl, h⟩
    · wp_walk using key
      exact ⟨_, rfl, h⟩
theorem enum1_begins {prog : Program} {w : World} {A : Around} {E : Value → Shared → Prop} {s : Shared} {v : Value} {o : Obj} {Hh : Heap → Prop} {Q : Value → Shared → Prop} (B : Begins v o Hh) (h1 : Hh s.heap)
    (h : ∀ h', IsEnum h' (s.heap.objs.size + 1) s.heap.objs.size 0 .none → h'.get? s.heap.objs.size = some o → h'.objs.size = s.heap.objs.size + 2 →
      (∀ b o, s.heap.get? b = some o → h'.get? b = some o) → Q (.ref (s.heap.objs.size + 1)) { s with heap := h' }) :
    wpAny (model prog w) A (call (.type "enumerate") [v]) Q E s := by
  refine callType_new F.called_enumerate (by decide) (F.typeCall_enumerate_1 _) (F.newCall_enumerate_1 _) (fun obj => F.args_object_init_2 obj _) F.entry_enumerate_new
    (meets_enum1B B) ⟨h1, ?_⟩
  have hz : (s.heap.push o).objs.size = s.heap.objs.size + 1 := Heap.size_push ..
  show _ ∧ _
  rw [hz]
  have he : IsEnum ((s.heap.push o).push { cls := .type "enumerate", data := .fields #[.none, .bool false, .ref s.heap.objs.size, rawInt 0, .none, .none] }) (s.heap.objs.size + 1) s.heap.objs.size 0 .none := by
    have := Heap.get?_push_size (s.heap.push o) (o := { cls := .type "enumerate", data := .fields #[.none, .bool false, .ref s.heap.objs.size, rawInt 0, .none, .none] }) rfl
    rw [hz] at this; exact this
  refine ⟨⟨_, he, rfl⟩, h _ he (Heap.get?_push_of_some _ (Heap.get?_push_size _ B.free)) (by rw [Heap.size_push, hz]) fun b o x => Heap.get?_push_of_some _ (Heap.get?_push_of_some _ x)⟩
def iEnumT (K : PySem.W.Frag) (ta : TA) : TI := fun σ H R => ta σ H fun vs H1 => ∃ a xs, vs = [.ref a] ∧ SqT K H1 a xs ∧ R (IeT K a) H1
theorem pi_enumT {X : Cx} {e : Expr} {ta : TA} {p pos tpos : Pos} {elts : List Expr} {kk : Nat} (hg : Gl X "enumerate") (hm : X.mg "enumerate" = none) (ha : PA X [e] ta) (hs : starEach [e] X.env = [(false, eval e X.env)] := by rfl) :
    PI X (.Tuple elts kk tpos) (.Call (.Name "enumerate" p) [e] [] pos) (iEnumT X.K ta) := by
  refine ⟨fun pins s σ H R I h => ?_⟩
  refine Call_ (ld_blt I hg hm boot_enumerate (PyProof.Rows.callWith_type1 (thn (ha.run pos pins s σ H _ I h) fun us s1 ⟨vs, H1, I1, r1, q1⟩ => ?_) hs rfl))
  obtain ⟨a, xs, ex, hq, q⟩ := q1
  subst ex
  cases r1 with
  | cons r rr =>
    cases rr
    cases r
    obtain ⟨its, rv, p', hz⟩ := I1.tuple hq
    refine enum1_begins (begins_tuple a its.toArray) p' fun h' he hit hsz hk => wpAny_pyIter_enum he ?_
    have I2 : Inv X pins σ H1 { s1 with heap := h' } := I1.kept (t' := s1.toks) hk
    have hlt : a < s1.heap.objs.size := p'.lt
    refine ⟨s1.heap.objs.size + 1, [s1.heap.objs.size + 1, s1.heap.objs.size], _, _, H1, rfl, I2, turn_enumT a (s1.heap.objs.size + 1) s1.heap.objs.size, ⟨⟨.none, he⟩, ⟨_, hit, rfl, rfl⟩, Nat.succ_ne_self _, Nat.ne_of_lt hlt, Nat.ne_of_lt (Nat.lt_succ_of_lt hlt)⟩, fun b hb => ?_, q⟩
    have e' : b = s1.heap.objs.size + 1 ∨ b = s1.heap.objs.size := by simpa using hb
    have hle : s1.heap.objs.size ≤ b := by
      rcases e' with z | z
      · rw [z]; exact Nat.le_add_right _ _
      · rw [z]; exact Nat.le_refl _
    exact I1.fpOk hle (I1.hok.fresh hle)
/-! a text -/
def IeS (x : Str) : It :=
  ⟨fun i _ => i < x.cps.size, fun i H v H' => ∃ T c, v = .ref T ∧ H T = none ∧ H' = upd H T (.tup [.int (i : Nat), .str ⟨#[c]⟩]) ∧ x.cps[i]? = some c, fun i _ => x.cps.size = i⟩
theorem turn_enumS {P : Program} {w : World} {K : PySem.W.Frag} {elts : List Expr} {kk : Nat} {tpos : Pos} (x : Str) (t : Tok) (e it : Addr) :
    Turn P w K (.Tuple elts kk tpos) (IeS x) [e, it] e (fun i h => (∃ old, IsEnum h e it ((i : Nat) : Int) old) ∧ h.IsStrIter it (strIterType x) x t i ∧ e ≠ it) where
  mem := by simp
  obj := fun i h st b hb => by
    obtain ⟨⟨old, he⟩, ⟨o, ho, hc, hd⟩, _⟩ := st
    have e' : b = e ∨ b = it := by simpa using hb
    rcases e' with z | z
    · rw [z]; exact ⟨_, he, fun v q => nomatch q⟩
    · rw [z]; exact ⟨o, ho, fun v q => by rw [hd] at q; cases q⟩
  keep := fun i h h' st k => let ⟨⟨old, he⟩, ⟨o, ho, r⟩, hne⟩ := st; ⟨⟨old, k e (by simp) _ he⟩, ⟨o, k it (by simp) o ho, r⟩, hne⟩
  item := by
    intro X hP hw hK hc i pins s σ H E I hf st hg
    subst hP hw hK
    obtain ⟨⟨old, he⟩, hit, hne⟩ := st
    have hel : e < s.heap.objs.size := Heap.lt_size he
    have hil : it < s.heap.objs.size := by obtain ⟨_, q, _⟩ := hit; exact Heap.lt_size q
    refine wpAny_pyNext_enum_itemD (Draws.text (show X.A.in1.handled = none from I.ok.hd hc) it x t) he hit hg hne (by simp; exact hne) fun u h' tk hu ho hst' hT hsz hk => ?_
    obtain ⟨c, t', hcx, rfl⟩ := hu
    refine ⟨_, rfl, wpAny_letOwnedTupleGo_enum (s := { s with heap := h', toks := tk + 1 }) ho fun h'' he' sb => ?_⟩
    have hT2 : h''.get? s.heap.objs.size = some { cls := .type "tuple", data := .seq #[.int i tk, .str ⟨#[c]⟩ t'] } := (sb.2 _ (Nat.ne_of_gt hel)).trans hT
    have new : ObjOk X.prog X.w (upd H s.heap.objs.size (.tup [.int (i : Nat), .str ⟨#[c]⟩])) h'' s.heap.objs.size (.tup [.int (i : Nat), .str ⟨#[c]⟩]) :=
      ⟨by show 2 ≤ sizeLine; decide, [.int i tk, .str ⟨#[c]⟩ t'], .cons ⟨_, rfl⟩ (.cons ⟨_, rfl⟩ .nil), ⟨_, hT2, rfl, _, rfl⟩⟩
    have I1 : Inv X pins σ (upd H s.heap.objs.size (.tup [.int (i : Nat), .str ⟨#[c]⟩])) { s with heap := h'', toks := tk + 1 } :=
      I.turnedNew (ch := [e, it]) (fun b ob hb q => (sb.2 b (fun z => hb (by simp [z]))).trans (hk b ob (fun z => hb (by simp [z])) (fun z => hb (by simp [z])) q)) hf (Nat.le_refl _) new
    obtain ⟨os, hos, hrs⟩ := hst'
    refine ⟨.ref s.heap.objs.size, _, I1, rfl, ⟨_, c, rfl, I.hok.fresh (Nat.le_refl _), rfl, hcx⟩, ⟨⟨.str ⟨#[c]⟩ t', ?_⟩, ⟨os, (sb.2 it (Ne.symm hne)).trans hos, hrs⟩, hne⟩, fun b hb => ?_⟩
    · have e1 : ((i + 1 : Nat) : Int) = (i : Int) + 1 := by omega
      rw [e1]; exact he'
    · have hb' : b < s.heap.objs.size := by
        have e' : b = e ∨ b = it := by simpa using hb
        rcases e' with z | z
        · rw [z]; exact hel
        · rw [z]; exact hil
      rw [upd_ne (Nat.ne_of_lt hb')]
      exact (hf b hb).1
  done := by
    intro X hP hw hK hc i pins s σ H E I hf st hg
    subst hP hw hK
    obtain ⟨⟨old, he⟩, hit, hne⟩ := st
    have hn : x.cps.size = i := hg
    obtain ⟨f0, f1, f2, f3, f4, f5⟩ := hf it (by simp)
    exact wpAny_pyNext_enum_endD (Draws.text (show X.A.in1.handled = none from I.ok.hd hc) it x t) he (by rw [hn]; exact hit) fun h' eb => ⟨rfl, I.turned (t' := s.toks) (fun b o hb q => eb b o hb q) f0 f1 f3 f4 f5⟩
  self := fun A i s Q E st h => let ⟨⟨_, he⟩, _⟩ := st; wpAny_pyIter_enum he h
def iEnumS (ta : TA) : TI := fun σ H R => ta σ H fun vs H1 => ∃ x, vs = [.str x] ∧ R (IeS x) H1
theorem pi_enumS {X : Cx} {e : Expr} {ta : TA} {p pos tpos : Pos} {elts : List Expr} {kk : Nat} (hg : Gl X "enumerate") (hm : X.mg "enumerate" = none) (ha : PA X [e] ta) (hs : starEach [e] X.env = [(false, eval e X.env)] := by rfl) :
    PI X (.Tuple elts kk tpos) (.Call (.Name "enumerate" p) [e] [] pos) (iEnumS ta) := by
  refine ⟨fun pins s σ H R I h => ?_⟩
  refine Call_ (ld_blt I hg hm boot_enumerate (PyProof.Rows.callWith_type1 (thn (ha.run pos pins s σ H _ I h) fun us s1 ⟨vs, H1, I1, r1, q1⟩ => ?_) hs rfl))
  obtain ⟨x, ex, q⟩ := q1
  subst ex
  cases r1 with
  | cons r rr =>
    cases rr
    obtain ⟨t, rfl⟩ := r
    refine enum1_begins (begins_text x t) True.intro fun h' he hit hsz hk => wpAny_pyIter_enum he ?_
    have I2 : Inv X pins σ H1 { s1 with heap := h' } := I1.kept (t' := s1.toks) hk
    refine ⟨s1.heap.objs.size + 1, [s1.heap.objs.size + 1, s1.heap.objs.size], _, _, H1, rfl, I2, turn_enumS x t (s1.heap.objs.size + 1) s1.heap.objs.size, ⟨⟨.none, he⟩, ⟨_, hit, rfl, rfl⟩, Nat.succ_ne_self _⟩, fun b hb => ?_, q⟩
    have e' : b = s1.heap.objs.size + 1 ∨ b = s1.heap.objs.size := by simpa using hb
    have hle : s1.heap.objs.size ≤ b := by
      rcases e' with z | z
      · rw [z]; exact Nat.le_add_right _ _
      · rw [z]; exact Nat.le_refl _
    exact I1.fpOk hle (I1.hok.fresh hle)
/-! zip of two texts -/
def IzS (x y : Str) : It :=
  ⟨fun i _ => i < x.cps.size ∧ i < y.cps.size, fun i H v H' => ∃ T c d, v = .ref T ∧ H T = none ∧ H' = upd H T (.tup [.str ⟨#[c]⟩, .str ⟨#[d]⟩]) ∧ x.cps[i]? = some c ∧ y.cps[i]? = some d, fun i _ => min x.cps.size y.cps.size = i⟩
theorem turn_zipS {P : Program} {w : World} {K : PySem.W.Frag} {elts : List Expr} {kk : Nat} {tpos : Pos} (x y : Str) (t u : Tok) {z TI TO i1 i2 : Addr} (D : ZipSep2 z TI TO i1 i2 [i1] [i2]) :
    Turn P w K (.Tuple elts kk tpos) (IzS x y) [z, TI, TO, i1, i2] z (fun i h => IsZip h z TI TO .none ∧ IsTupOf2 h TI (.ref i1) (.ref i2) ∧ (∃ x y, IsTupOf2 h TO x y) ∧ h.IsStrIter i1 (strIterType x) x t i ∧ h.IsStrIter i2 (strIterType y) y u i) where
  mem := by simp
  obj := fun i h st c hc => by
    obtain ⟨hz, hTI, ⟨x, y, hTO⟩, ⟨o1, e1, _, d1⟩, ⟨o2, e2, _, d2⟩⟩ := st
    have e' : c = z ∨ c = TI ∨ c = TO ∨ c = i1 ∨ c = i2 := by simpa using hc
    rcases e' with q | q | q | q | q
    · rw [q]; exact ⟨_, hz, fun v q => nomatch q⟩
    · rw [q]; exact ⟨_, hTI, fun v q => nomatch q⟩
    · rw [q]; exact ⟨_, hTO, fun v q => nomatch q⟩
    · rw [q]; exact ⟨o1, e1, fun v q => by rw [d1] at q; cases q⟩
    · rw [q]; exact ⟨o2, e2, fun v q => by rw [d2] at q; cases q⟩
  keep := fun i h h' st k => by
    obtain ⟨hz, hTI, ⟨x, y, hTO⟩, ⟨o1, e1, r1⟩, ⟨o2, e2, r2⟩⟩ := st
    exact ⟨k z (by simp) _ hz, k TI (by simp) _ hTI, ⟨x, y, k TO (by simp) _ hTO⟩, ⟨o1, k i1 (by simp) o1 e1, r1⟩, ⟨o2, k i2 (by simp) o2 e2, r2⟩⟩
  item := by
    intro X hP hw hK hc i pins s σ H E I hf st hg
    subst hP hw hK
    obtain ⟨hz, hTI, ⟨x0, y0, hTO⟩, h1, h2⟩ := st
    have hh : X.A.in1.handled = none := I.ok.hd hc
    have hzl : z < s.heap.objs.size := Heap.lt_size hz
    refine wpAny_pyNext_zipD2_item D (Draws.text hh i1 x t) (Draws.text hh i2 y u) hz hTI hTO h1 h2 hg.1 hg.2 fun v1 v2 h' tk p1 p2 z' TO' h1' h2' hT hsz hk => ?_
    obtain ⟨c, t1, hcx, rfl⟩ := p1
    obtain ⟨d, t2, hdy, rfl⟩ := p2
    refine ⟨_, rfl, wpAny_letOwnedTupleGo_zip (s := { s with heap := h', toks := tk }) z' fun h'' z'' sb => ?_⟩
    have hT2 : h''.get? s.heap.objs.size = some { cls := .type "tuple", data := .seq #[.str ⟨#[c]⟩ t1, .str ⟨#[d]⟩ t2] } := (sb.2 _ (Nat.ne_of_gt hzl)).trans hT
    have new : ObjOk X.prog X.w (upd H s.heap.objs.size (.tup [.str ⟨#[c]⟩, .str ⟨#[d]⟩])) h'' s.heap.objs.size (.tup [.str ⟨#[c]⟩, .str ⟨#[d]⟩]) :=
      ⟨by show 2 ≤ sizeLine; decide, [.str ⟨#[c]⟩ t1, .str ⟨#[d]⟩ t2], .cons ⟨_, rfl⟩ (.cons ⟨_, rfl⟩ .nil), ⟨_, hT2, rfl, _, rfl⟩⟩
    have I1 : Inv X pins σ (upd H s.heap.objs.size (.tup [.str ⟨#[c]⟩, .str ⟨#[d]⟩])) { s with heap := h'', toks := tk } :=
      I.turnedNew (t' := tk) (ch := [z, TI, TO, i1, i2]) (fun c o hb q => (sb.2 c (fun q' => hb (by simp [q']))).trans (hk c o (fun q' => hb (by simp [q'])) (fun q' => hb (by simp [q'])) (fun q' => hb (by simp [q'])) (fun q' => hb (by simp [q'])) q)) hf (Nat.le_refl _) new
    obtain ⟨o1, e1, r1⟩ := h1'
    obtain ⟨o2, e2, r2⟩ := h2'
    refine ⟨.ref s.heap.objs.size, _, I1, rfl, ⟨_, c, d, rfl, I.hok.fresh (Nat.le_refl _), rfl, hcx, hdy⟩, ⟨z'', ?_, ⟨.str ⟨#[c]⟩ t1, .str ⟨#[d]⟩ t2, ?_⟩, ⟨o1, (sb.2 _ D.zi1.symm).trans e1, r1⟩, ⟨o2, (sb.2 _ D.zi2.symm).trans e2, r2⟩⟩, fun c hcm => ?_⟩
    · exact (sb.2 _ D.TIz).trans (hk _ _ D.TIz D.TITO D.TIi1 D.TIi2 hTI)
    · exact (sb.2 _ D.TOz).trans TO'
    · have hlt : c < s.heap.objs.size := by
        have e' : c = z ∨ c = TI ∨ c = TO ∨ c = i1 ∨ c = i2 := by simpa using hcm
        rcases e' with q | q | q | q | q
        · rw [q]; exact hzl
        · rw [q]; exact Heap.lt_size hTI
        · rw [q]; exact Heap.lt_size hTO
        · rw [q]; obtain ⟨_, e1, _⟩ := h1; exact Heap.lt_size e1
        · rw [q]; obtain ⟨_, e2, _⟩ := h2; exact Heap.lt_size e2
      rw [upd_ne (Nat.ne_of_lt hlt)]
      exact (hf c hcm).1
  done := by
    intro X hP hw hK hc i pins s σ H E I hf st hg
    subst hP hw hK
    obtain ⟨hz, hTI, ⟨x0, y0, hTO⟩, h1, h2⟩ := st
    have hh : X.A.in1.handled = none := I.ok.hd hc
    have hn : min x.cps.size y.cps.size = i := hg
    exact wpAny_pyNext_zipD2_end D (Draws.text hh i1 x t) (Draws.text hh i2 y u) hz hTI hTO h1 h2 (by omega) (by omega) (by omega) fun h' tk hk => ⟨rfl, I.turnedL (t' := tk) (ch := [z, TI, TO, i1, i2]) (fun c o hb q =>
      hk c o (fun q' => hb (by simp [q'])) (fun q' => hb (by simp [q'])) (fun q' => hb (by simp [q'])) (fun q' => hb (by simp [q'])) q) hf⟩
  self := fun A i s Q E st h => wpAny_pyIter_zip st.1 h
def iZipS (ta : TA) : TI := fun σ H R => ta σ H fun vs H1 => ∃ x y, vs = [.str x, .str y] ∧ R (IzS x y) H1
theorem pi_zipS {X : Cx} {e e2 : Expr} {ta : TA} {p pos tpos : Pos} {elts : List Expr} {kk : Nat} (hg : Gl X "zip") (hm : X.mg "zip" = none) (ha : PA X [e, e2] ta)
    (hs : starEach [e, e2] X.env = (false, eval e X.env) :: starEach [e2] X.env := by rfl) (hpl : (backTo pos (starEach [e2] X.env)).any (·.1) = false := by rfl) :
    PI X (.Tuple elts kk tpos) (.Call (.Name "zip" p) [e, e2] [] pos) (iZipS ta) := by
  refine ⟨fun pins s σ H R I h => ?_⟩
  refine Call_ (ld_blt I hg hm PyProof.Rows.boot_zip (PyProof.Rows.callWith_type1 (thn (ha.run pos pins s σ H _ I h) fun us s1 ⟨vs, H1, I1, r1, q1⟩ => ?_) hs hpl))
  obtain ⟨x, y, ex, q⟩ := q1
  subst ex
  cases r1 with
  | cons r rr =>
    cases rr with
    | cons r' rr =>
      cases rr
      obtain ⟨t, rfl⟩ := r
      obtain ⟨u, rfl⟩ := r'
      have fresh5 : ∀ c, c ∈ [s1.heap.objs.size + 4, s1.heap.objs.size + 2, s1.heap.objs.size + 3, s1.heap.objs.size, s1.heap.objs.size + 1] → FpOk X pins H1 c := fun c hcm => by
        have e' : c = s1.heap.objs.size + 4 ∨ c = s1.heap.objs.size + 2 ∨ c = s1.heap.objs.size + 3 ∨ c = s1.heap.objs.size ∨ c = s1.heap.objs.size + 1 := by simpa using hcm
        have hle : s1.heap.objs.size ≤ c := by
          rcases e' with z | z | z | z | z
          · rw [z]; exact Nat.le_add_right _ _
          · rw [z]; exact Nat.le_add_right _ _
          · rw [z]; exact Nat.le_add_right _ _
          · rw [z]; exact Nat.le_refl _
          · rw [z]; exact Nat.le_add_right _ _
        exact I1.fpOk hle (I1.hok.fresh hle)
      refine zip_begins2 (begins_text x t) (begins_text y u) True.intro True.intro fun h' hz hTI hTO h1 h2 hsz hk => wpAny_pyIter_zip hz ?_
      have I2 : Inv X pins σ H1 { s1 with heap := h' } := I1.kept (t' := s1.toks) hk
      have sep : ZipSep2 (s1.heap.objs.size + 4) (s1.heap.objs.size + 2) (s1.heap.objs.size + 3) s1.heap.objs.size (s1.heap.objs.size + 1) [s1.heap.objs.size] [s1.heap.objs.size + 1] := by
        constructor <;> simp
      exact ⟨s1.heap.objs.size + 4, [s1.heap.objs.size + 4, s1.heap.objs.size + 2, s1.heap.objs.size + 3, s1.heap.objs.size, s1.heap.objs.size + 1], _, _, H1, rfl, I2, turn_zipS x y t u sep, ⟨hz, hTI, ⟨_, _, hTO⟩, ⟨_, h1, rfl, rfl⟩, ⟨_, h2, rfl, rfl⟩⟩, fresh5, q⟩
end L2
namespace DL
open PySem L2

/-! ### enumerate, zip -/
def enumD (k : Nat) : List D → List D
  | [] => []
  | d :: ds => .tup [.int (k : Nat), d] :: enumD (k + 1) ds
def zipD : List D → List D → List D
  | a :: as, b :: bs => .tup [a, b] :: zipD as bs
  | _, _ => []
theorem enumD_get : ∀ (ds : List D) (k i : Nat), (enumD k ds)[i]? = (ds[i]?).map fun d => .tup [.int ((k + i : Nat) : Int), d]
  | [], k, i => by simp [enumD]
  | d :: ds, k, 0 => by simp [enumD]
  | d :: ds, k, i + 1 => by
    show (enumD (k + 1) ds)[i]? = _
    rw [enumD_get ds (k + 1) i]
    simp only [List.getElem?_cons_succ]
    congr 1
    funext d
    congr 3
    have : k + 1 + i = k + (i + 1) := by omega
    rw [this]
theorem enumD_len : ∀ (ds : List D) (k : Nat), (enumD k ds).length = ds.length
  | [], k => rfl
  | d :: ds, k => by simp [enumD, enumD_len ds (k + 1)]
theorem zipD_get : ∀ (as bs : List D) (i : Nat) (a b : D), as[i]? = some a → bs[i]? = some b → (zipD as bs)[i]? = some (.tup [a, b])
  | [], _, _, _, _, h, _ => by simp at h
  | _ :: _, [], _, _, _, _, h => by simp at h
  | x :: as, y :: bs, 0, a, b, h, h' => by simp at h h'; subst h h'; rfl
  | x :: as, y :: bs, i + 1, a, b, h, h' => by
    show (zipD as bs)[i]? = _
    exact zipD_get as bs i a b (by simpa using h) (by simpa using h')
theorem zipD_len : ∀ (as bs : List D), (zipD as bs).length = min as.length bs.length
  | [], _ => by simp [zipD]
  | _ :: _, [] => by simp [zipD]
  | x :: as, y :: bs => by simp [zipD, zipD_len as bs]
def iEnT {G : Type} (f : M G D) : M G (List D) := M.bind f fun d => M.bind (M.lift (asT d)) fun xs => M.pure (enumD 0 xs)
def iEnS {G : Type} (f : M G D) : M G (List D) := M.bind f fun d => M.bind (M.lift (asS d)) fun xs => M.pure (enumD 0 (xs.map fun c => .str [c]))
def iEnL {G : Type} (f : M G D) : M G (List D) := M.bind f fun d => M.bind (M.lift (asL d)) fun xs => M.pure (enumD 0 xs)
def iZpT {G : Type} (f h : M G D) : M G (List D) := M.bind f fun d => M.bind h fun e => M.bind (M.lift (asT d)) fun xs => M.bind (M.lift (asT e)) fun ys => M.pure (zipD xs ys)
def iZpS {G : Type} (f h : M G D) : M G (List D) := M.bind f fun d => M.bind h fun e => M.bind (M.lift (asS d)) fun xs => M.bind (M.lift (asS e)) fun ys => M.pure (zipD (xs.map fun c => .str [c]) (ys.map fun c => .str [c]))
theorem asT_some : ∀ {d : D} {xs : List D}, asT d = some xs → d = .tup xs
  | .tup _, _, h => by cases h; rfl
theorem asS_some : ∀ {d : D} {xs : List Nat}, asS d = some xs → d = .str xs
  | .str _, _, h => by cases h; rfl
theorem ok1 {s : List Nat} {i c : Nat} (ok : okS s) (h : s[i]? = some c) : okS [c] := okS_sub ok (by
  have := (List.getElem?_eq_some_iff.mp h).1
  simp; omega) fun x hx => by simp at hx; subst hx; exact List.mem_of_getElem? h

section
variable {X : Cx} {Z : Cn} {E : Ent Z.W} {Wx : WX} {e a b c tg : Expr} {pos p tpos : Pos} {fe fa fb fc : M Z.W.G D} {ft fu : M Z.W.G Bool} {fs fs' : SM Z.W.G} {elts : List Expr} {kk : Nat}
theorem di_enT (hg : Gl X "enumerate") (hm : X.mg "enumerate" = none) (h : DE X Z E Wx e fe) (hs : starEach [e] X.env = [(false, eval e X.env)] := by rfl) : DI X Z E Wx (.Tuple elts kk tpos) (.Call (.Name "enumerate" p) [e] [] pos) (iEnT fe) := by
  refine PI.imp (pi_enumT hg hm (pa_cons h pa_nil hs) hs) fun σ H Rk ⟨Hf, g, sl, r, q⟩ => ⟨Hf, g, sl, r, (go_bind (Rm := RlD X.K) q).mono fun v H1 ⟨Hf1, g1, d, b1, d1, q1⟩ => ?_⟩
  obtain ⟨xs, ex, q2⟩ := go_bl q1
  obtain rfl := asT_some ex
  cases d1 with
  | tup h1 h2 =>
    refine ⟨_, _, rfl, SqT.of (b1.fh _ _ h1), q2 _ _ _ b1.self ?_⟩
    show Walk _ _ _ _
    rw [enumD_len, ← h2.len]
    refine ⟨fun i H hi s => ⟨_, _, SqT.of (s _ _ h1), List.getElem?_eq_getElem hi⟩, fun H s => ⟨_, SqT.of (s _ _ h1), rfl⟩, fun i H x H' hi s y => ?_⟩
    obtain ⟨T, x', e1, e2, e3, e4⟩ := y
    have hx := e4 _ (SqT.of (s _ _ h1))
    obtain ⟨d, ed, dv⟩ := h2.get hx
    refine ⟨_, by rw [enumD_get, ed]; rfl, .inr ⟨T, _, _, e1, e2, e3, rfl, ?_⟩⟩
    rw [Nat.zero_add]
    exact .cons (.int _) (.cons dv .nil)
theorem di_enS (hg : Gl X "enumerate") (hm : X.mg "enumerate" = none) (h : DE X Z E Wx e fe) (hs : starEach [e] X.env = [(false, eval e X.env)] := by rfl) : DI X Z E Wx (.Tuple elts kk tpos) (.Call (.Name "enumerate" p) [e] [] pos) (iEnS fe) := by
  refine PI.imp (pi_enumS hg hm (pa_cons h pa_nil hs) hs) fun σ H Rk ⟨Hf, g, sl, r, q⟩ => ⟨Hf, g, sl, r, (go_bind (Rm := RlD X.K) q).mono fun v H1 ⟨Hf1, g1, d, b1, d1, q1⟩ => ?_⟩
  obtain ⟨xs, ex, q2⟩ := go_bl q1
  obtain rfl := asS_some ex
  cases d1 with
  | str _ ok =>
    refine ⟨mkS xs, rfl, q2 _ _ _ b1.self ?_⟩
    show Walk _ _ _ _
    rw [enumD_len, List.length_map]
    have hn : (mkS xs).cps.size = xs.length := by simp [mkS]
    refine ⟨fun i H hi s => ?_, fun H s => hn, fun i H x H' hi s y => ?_⟩
    · show i < (mkS xs).cps.size
      rw [hn]; exact hi
    · obtain ⟨T, c, e1, e2, e3, e4⟩ := y
      have hx : xs[i]? = some c := by simpa [mkS] using e4
      refine ⟨_, by rw [enumD_get, List.getElem?_map, hx]; rfl, .inr ⟨T, _, _, e1, e2, e3, rfl, ?_⟩⟩
      rw [Nat.zero_add]
      exact .cons (.int _) (.cons (.str [c] (ok1 ok hx)) .nil)
theorem di_enL (hg : Gl X "enumerate") (hm : X.mg "enumerate" = none) (h : DE X Z E Wx e fe) (hs : starEach [e] X.env = [(false, eval e X.env)] := by rfl) : DI X Z E Wx (.Tuple elts kk tpos) (.Call (.Name "enumerate" p) [e] [] pos) (iEnL fe) := by
  refine PI.imp (pi_enum hg hm (pa_cons h pa_nil hs) hs) fun σ H Rk ⟨Hf, g, sl, r, q⟩ => ⟨Hf, g, sl, r, (go_bind (Rm := RlD X.K) q).mono fun v H1 ⟨Hf1, g1, d, b1, d1, q1⟩ => ?_⟩
  obtain ⟨xs, ex, q2⟩ := go_bl q1
  obtain rfl := asL_some ex
  cases d1 with
  | lst h1 h2 =>
    refine ⟨_, _, rfl, SqL.of (b1.fh _ _ h1), q2 _ _ _ b1.self ?_⟩
    show Walk _ _ _ _
    rw [enumD_len, ← h2.len]
    refine walk_enum.mono (fun H s => SqL.of (s _ _ h1)) fun i H x H' hi s y => ?_
    obtain ⟨T, x', y', e1, e2, e3, e4, e5⟩ := y
    cases e4
    obtain ⟨d, ed, dv⟩ := h2.get e5
    refine ⟨_, by rw [enumD_get, ed]; rfl, .inr ⟨T, _, _, e1, e2, e3, rfl, ?_⟩⟩
    rw [Nat.zero_add]
    exact .cons (.int _) (.cons dv .nil)
theorem di_zpT (hg : Gl X "zip") (hm : X.mg "zip" = none) (ha : DE X Z E Wx a fa) (hb : DE X Z E Wx b fb) (hs : starEach [a, b] X.env = (false, eval a X.env) :: starEach [b] X.env := by rfl) (hs2 : starEach [b] X.env = (false, eval b X.env) :: starEach [] X.env := by rfl)
    (hpl : (backTo pos (starEach [b] X.env)).any (·.1) = false := by rfl) : DI X Z E Wx (.Tuple elts kk tpos) (.Call (.Name "zip" p) [a, b] [] pos) (iZpT fa fb) := by
  refine PI.imp (RZ.pi_zipA hg hm (pa_cons ha (pa_cons hb pa_nil hs2) hs) hs hpl) fun σ H Rk ⟨Hf, g, sl, r, q⟩ => ⟨Hf, g, sl, r, (go_bind (Rm := RlD X.K) q).mono fun v H1 ⟨Hf1, g1, d, b1, d1, q1⟩ =>
    ⟨Hf1, g1, sl, r.step b1, (go_bind (Rm := RlD X.K) q1).mono fun w H2 ⟨Hf2, g2, d', b2, d2, q2⟩ => ?_⟩⟩
  obtain ⟨xs, ex, q3⟩ := go_bl q2
  obtain ⟨ys, ey, q4⟩ := go_bl q3
  obtain rfl := asT_some ex
  obtain rfl := asT_some ey
  have d1' := Dv.mono b2.ff _ d1
  cases d1' with
  | tup h1 h2 =>
    cases d2 with
    | tup h3 h4 =>
      refine ⟨_, _, _, _, rfl, .inr ⟨SqT.of (b2.fh _ _ h1), SqT.of (b2.fh _ _ h3), q4 _ _ _ b2.self ?_⟩⟩
      show Walk _ _ _ _
      rw [zipD_len, ← h2.len, ← h4.len]
      refine ⟨fun i H hi s => ?_, fun H s => ⟨_, _, SqT.of (s _ _ h1), SqT.of (s _ _ h3), by omega⟩, fun i H x H' hi s y => ?_⟩
      · exact ⟨_, _, _, _, SqT.of (s _ _ h1), SqT.of (s _ _ h3), List.getElem?_eq_getElem (by omega), List.getElem?_eq_getElem (by omega)⟩
      · obtain ⟨T, x', y', e1, e2, e3, e4, e5⟩ := y
        obtain ⟨d, ed, dv⟩ := h2.get (e4 _ (SqT.of (s _ _ h1)))
        obtain ⟨d', ed', dv'⟩ := h4.get (e5 _ (SqT.of (s _ _ h3)))
        exact ⟨_, zipD_get _ _ i d d' ed ed', .inr ⟨T, _, _, e1, e2, e3, rfl, .cons dv (.cons dv' .nil)⟩⟩
theorem di_zpS (hg : Gl X "zip") (hm : X.mg "zip" = none) (ha : DE X Z E Wx a fa) (hb : DE X Z E Wx b fb) (hs : starEach [a, b] X.env = (false, eval a X.env) :: starEach [b] X.env := by rfl) (hs2 : starEach [b] X.env = (false, eval b X.env) :: starEach [] X.env := by rfl)
    (hpl : (backTo pos (starEach [b] X.env)).any (·.1) = false := by rfl) : DI X Z E Wx (.Tuple elts kk tpos) (.Call (.Name "zip" p) [a, b] [] pos) (iZpS fa fb) := by
  refine PI.imp (pi_zipS hg hm (pa_cons ha (pa_cons hb pa_nil hs2) hs) hs hpl) fun σ H Rk ⟨Hf, g, sl, r, q⟩ => ⟨Hf, g, sl, r, (go_bind (Rm := RlD X.K) q).mono fun v H1 ⟨Hf1, g1, d, b1, d1, q1⟩ =>
    ⟨Hf1, g1, sl, r.step b1, (go_bind (Rm := RlD X.K) q1).mono fun w H2 ⟨Hf2, g2, d', b2, d2, q2⟩ => ?_⟩⟩
  obtain ⟨xs, ex, q3⟩ := go_bl q2
  obtain ⟨ys, ey, q4⟩ := go_bl q3
  obtain rfl := asS_some ex
  obtain rfl := asS_some ey
  cases d1 with
  | str _ o1 =>
    cases d2 with
    | str _ o2 =>
      refine ⟨mkS xs, mkS ys, rfl, q4 _ _ _ b2.self ?_⟩
      show Walk _ _ _ _
      rw [zipD_len, List.length_map, List.length_map]
      have n1 : (mkS xs).cps.size = xs.length := by simp [mkS]
      have n2 : (mkS ys).cps.size = ys.length := by simp [mkS]
      refine ⟨fun i H hi s => ?_, fun H s => ?_, fun i H x H' hi s y => ?_⟩
      · show i < (mkS xs).cps.size ∧ i < (mkS ys).cps.size
        rw [n1, n2]; omega
      · show min (mkS xs).cps.size (mkS ys).cps.size = _
        rw [n1, n2]
      · obtain ⟨T, c, d, e1, e2, e3, e4, e5⟩ := y
        have hx : xs[i]? = some c := by simpa [mkS] using e4
        have hy : ys[i]? = some d := by simpa [mkS] using e5
        exact ⟨_, zipD_get _ _ i (.str [c]) (.str [d]) (by rw [List.getElem?_map, hx]; rfl) (by rw [List.getElem?_map, hy]; rfl), .inr ⟨T, _, _, e1, e2, e3, rfl, .cons (.str [c] (ok1 o1 hx)) (.cons (.str [d] (ok1 o2 hy)) .nil)⟩⟩

/-! ### comprehensions -/
section
variable {G : Type}
def compL (tg : Tg) (cnd : M G Bool) (elt : M G D) : List D → SL → G → Out G (List D)
  | [], _, g => some (.ok [], g)
  | d :: ds, sl, g => match tg d sl with
    | none => none
    | some sl1 => match cnd sl1 g with
      | some (.ok true, g1) => match elt sl1 g1 with
        | some (.ok x, g2) => match compL tg cnd elt ds sl g2 with
          | some (.ok xs, g3) => some (.ok (x :: xs), g3)
          | _ => none
        | _ => none
      | some (.ok false, g1) => compL tg cnd elt ds sl g1
      | _ => none
def eComp (it : M G (List D)) (vs : List Nat) (tg : Tg) (cnd : M G Bool) (elt : M G D) : M G D := M.bind it fun ds => fun sl g => match compL tg cnd elt ds (wipeS sl vs) g with
  | some (.ok xs, g') => if xs.length ≤ LIM then some (.ok (.lst xs), g') else none
  | _ => none
def tYesM : M G Bool := M.pure true
end
theorem compL_len {G : Type} {tg : Tg} {cnd : M G Bool} {elt : M G D} : ∀ {ds : List D} {sl : SL} {g g' : G} {xs : List D}, compL tg cnd elt ds sl g = some (.ok xs, g') → xs.length ≤ ds.length
  | [], _, _, _, _, h => by cases h; simp
  | d :: ds, sl, g, g', xs, h => by
    unfold compL at h
    split at h
    · cases h
    · split at h
      · split at h
        · split at h
          · rename_i hh
            cases h
            have := compL_len hh
            simp; omega
          · cases h
        · cases h
      · have := compL_len h
        simp; omega
      · cases h
/-- the new list of a comprehension is changed: it is told of nowhere else -/
theorem Base.updFresh {W : Wd} {H0 Hf0 H Hf : Hp} {g0 g : W.G} {D : Addr} (o : HO) (b : Base W H0 Hf0 g0 H Hf g) (h0 : H0 D = none) (h1 : Hf D = none) (h2 : ¬ W.fp g D) : Base W H0 Hf0 g0 (upd H D o) Hf g where
  ff := b.ff
  fh := fun x u e => by
    have hx : x ≠ D := fun z => by subst z; rw [h1] at e; cases e
    rw [upd_ne hx]; exact b.fh x u e
  keep := fun x u e n => by
    have hx : x ≠ D := fun z => by subst z; rw [h0] at e; cases e
    rw [upd_ne hx]; exact b.keep x u e n
  old := b.old
  there := fun x e => by
    by_cases hx : x = D
    · subst hx; exact absurd h0 e
    · rw [upd_ne hx]; exact b.there x e
  rep := Wd.loc1 b.rep fun x q => by
    have hx : x ≠ D := fun z => by subst z; exact h2 q
    rw [upd_ne hx]
  dis := b.dis
  fpo := b.fpo
theorem R.updFresh {H0 Hf0 H Hf : Hp} {g0 g : Z.W.G} {sl : SL} {σ : St} {D : Addr} (o : HO) (r0 : R X.K E H0 Hf0 g0 sl σ) (b : Base Z.W H0 Hf0 g0 H Hf g) (h0 : H0 D = none) (h1 : Hf D = none) (h2 : ¬ Z.W.fp g D) : R X.K E (upd H D o) Hf g sl σ :=
  r0.step (b.updFresh o h0 h1 h2)
abbrev W0 : WX := fun _ _ _ _ => False
theorem lc_run {fi : M Z.W.G (List D)} {u : TG} {ixs vs : List Nat} {t : Tg} {σ : St} {H Hf : Hp} {g : Z.W.G} {sl : SL} {Q : VK} (r : R X.K E H Hf g sl σ) (q : go Z (NewL X.K H) Wx σ (eComp fi vs t ft fe sl g) H Hf g Q) (hix : ∀ i ∈ ixs, i ∈ vs) (kg : TgOk X.K u ixs t) :
    tLc (tI Z X.K E Wx fi) u (tG Z X.K E RlB W0 ft) (tG Z X.K E (RlD X.K) W0 fe) vs σ H Q := by
  refine ⟨Hf, g, sl, r, (go_bind (Rm := fun _ Hf' _ J ds => WalkD X.K J ds Hf') q).mono fun J H1 ⟨Hf1, g1, ds, b1, wk, q1⟩ Dd hD => ?_⟩
  match em : compL t ft fe ds (wipeS sl vs) g1 with
  | none => rw [em] at q1; exact q1.elim
  | some (.exc c, g') => rw [em] at q1; exact q1.elim
  | some (.ok total, gE) =>
    rw [em] at q1
    simp only at q1
    split at q1
    · rename_i hlim
      have rW : R X.K E H1 Hf1 g1 (wipeS sl vs) (L2.wipe σ vs) := (r.step b1).wipe vs
      obtain ⟨n1, n2, n3⟩ := new_n b1 hD
      refine lc_it wk (fun i Hc => ∃ (Hf2 : Hp) (g2 : Z.W.G) (accv : List V) (acc rest : List D), Base Z.W H1 Hf1 g1 Hc Hf2 g2 ∧ Hc Dd = some (.lst accv) ∧ Hf2 Dd = none ∧ ¬ Z.W.fp g2 Dd ∧ DvAll X.K Hf2 accv acc ∧
        compL t ft fe (ds.drop i) (wipeS sl vs) g2 = some (.ok rest, gE) ∧ acc ++ rest = total) ⟨Hf1, g1, [], [], total, b1.allocU _ hD, upd_same, n2, n3, .nil, em, rfl⟩ ?_ ?_ ?_
      · rintro i Hc _ ⟨Hf2, g2, accv, acc, rest, b2, _⟩
        exact Same.tr b2.ff b2.fh
      · rintro i x Hc Hc' hi ⟨Hf2, g2, accv, acc, rest, b2, hd, hfd, hfp, dv, er, et⟩ y
        obtain ⟨d, Hf3, ed, b3, dx⟩ := y.run b2.self b2.ff
        have ed' : ds.drop i = d :: ds.drop (i + 1) := by
          obtain ⟨hlt, ee⟩ := List.getElem?_eq_some_iff.mp ed
          rw [List.drop_eq_getElem_cons hlt, ee]
        rw [ed'] at er
        unfold compL at er
        have r3 := (rW.step b2).step b3
        split at er
        · cases er
        · rename_i sl1 et1
          refine kg Z E Hc' Hf3 g2 _ sl1 _ x d _ r3 dx et1 fun σ' r4 hw => ⟨?_, ?_⟩
          · rw [hw vs hix, wipe_wipe fun _ h => h]
          · refine ⟨Hf3, g2, sl1, r4, ?_⟩
            split at er
            · rename_i g3 ec
              rw [ec]
              intro bv H4 Hf4 b4 eb
              cases eb
              rw [if_pos rfl]
              refine ⟨Hf4, g3, sl1, r4.step b4, ?_⟩
              split at er
              · rename_i xv g4 ee
                rw [ee]
                intro yv H5 Hf5 b5 dy
                split at er
                · rename_i xs g5 ex
                  cases er
                  have bb := (b3.trans b4).trans b5
                  have hd5 : H5 Dd = some (.lst accv) := bb.keep _ _ hd hfp
                  have hf5 : Hf5 Dd = none := (bb.old Dd (by rw [hd]; simp)).trans hfd
                  have hp5 : ¬ Z.W.fp g4 Dd := fun z => by
                    rcases bb.fpo Dd z with w | w
                    · exact hfp w
                    · rw [hd] at w; cases w
                  refine ⟨accv, hd5, ?_, Hf5, g4, accv ++ [yv], acc ++ [xv], xs, (b2.trans bb).updFresh _ hD hf5 hp5, upd_same, hf5, hp5, (DvAll.mono bb.ff _ dv).append (.cons dy .nil), ex, by rw [List.append_assoc]; exact et⟩
                  rw [dv.len]
                  refine lim_lt ?_
                  have := congrArg List.length et
                  rw [List.length_append] at this
                  omega
                · cases er
              · cases er
            · rename_i g3 ec
              rw [ec]
              intro bv H4 Hf4 b4 eb
              cases eb
              rw [if_neg (by decide)]
              have bb := b3.trans b4
              refine ⟨Hf4, g3, accv, acc, rest, b2.trans bb, bb.keep _ _ hd hfp, (bb.old Dd (by rw [hd]; simp)).trans hfd, fun z => ?_, DvAll.mono bb.ff _ dv, er, et⟩
              rcases bb.fpo Dd z with w | w
              · exact hfp w
              · rw [hd] at w; cases w
            · cases er
      · rintro Hc ⟨Hf2, g2, accv, acc, rest, b2, hd, hfd, hfp, dv, er, et⟩
        rw [List.drop_length] at er
        cases er
        rw [List.append_nil] at et
        subst et
        exact q1 _ _ _ b2 ⟨Dd, accv, acc, rfl, rfl, n1, hd, hfd, dv, hfp⟩
    · exact q1.elim
theorem dn_comp {elt iter : Expr} {ifs : List Expr} {scope : Scope} {own : List (Str × Nat)} {fi : M Z.W.G (List D)} {u : TG} {ixs : List Nat} {t : Tg} (hc : X.calm = true) (hN : X.N.Nodup) (hi : DI X Z E Wx tg iter fi) (ok : BlkOk X.N X.env.scope scope own)
    (hg : ∀ (s : Shared) (H : Hp) (C : Addr) (cl : List (Str × Addr)) (fp : List Addr), PG (X.blk s H scope (compEnvC scope cl C X.env) fp) tg u) (hk : TgOk X.K u ixs t)
    (ht : ∀ (s : Shared) (H : Hp) (C : Addr) (cl : List (Str × Addr)) (fp : List Addr), PTs (X.blk s H scope (compEnvC scope cl C X.env) fp) ifs (tG Z X.K E RlB W0 ft))
    (he : ∀ (s : Shared) (H : Hp) (C : Addr) (cl : List (Str × Addr)) (fp : List Addr), DE (X.blk s H scope (compEnvC scope cl C X.env) fp) Z E W0 elt fe) (hix : ∀ i ∈ ixs, i ∈ own.map (·.2)) (hs : ∀ x, foldedSetIterable iter X.env x = pure x := by intro _; rfl) :
    DN X Z E Wx (.ListComp elt [⟨tg, iter, ifs, 0⟩] scope pos) (eComp fi (own.map (·.2)) t ft fe) := by
  refine PE.imp (pe_lc (te := tG Z X.K E (RlD X.K) W0 fe) hc hN hi ok hg ht he hs) fun σ H Q ⟨Hf, g, sl, r, q⟩ => ?_
  exact lc_run r q hix hk
end
end DL
namespace DL
open PySem L2

section
variable {G : Type}
/-- the list of the frame's own in slot i is changed -/
def sMutL (i : Nat) (h : List D → Option (List D)) : SM G := fun sl g => match sl[i]? with
  | some (some (.oL xs)) => match h xs with
    | some ys => some (.nx, sl.set i (some (.oL ys)), g)
    | none => none
  | _ => none
def sOwnL (i : Nat) (k : SM G) : SM G := fun sl g => match sl[i]? with
  | some (some (.oL _)) => k sl g
  | _ => none
def sApp (i : Nat) (fe : M G D) : SM G := sOwnL i <| sDo fe fun d => sMutL i fun xs => if xs.length < LIM then some (xs ++ [d]) else none
def sExt (i : Nat) (fe : M G D) : SM G := sOwnL i <| sDo fe fun d => sMutL i fun xs => match d with
  | .lst ys => if xs.length + ys.length ≤ LIM then some (xs ++ ys) else none
  | _ => none
def sSetI (i : Nat) (fk fv : M G D) : SM G := sOwnL i <| sDo fv fun d => sDo fk fun k => sMutL i fun xs => match k with
  | .int z => match ixN xs.length z with
    | some j => some (xs.set j d)
    | none => none
  | _ => none
/-- y = xs.pop(0) -/
def sPop0 (j i : Nat) : SM G := fun sl g => match sl[i]? with
  | some (some (.oL (x :: xs))) => some (.nx, (sl.set i (some (.oL xs))).set j (some (.d x)), g)
  | _ => none
/-- the def's denotation -/
def fnD (m : Nat) (fs : SM G) : Fn G := fun ds g => match fs (ds.map (fun d => some (.d d)) ++ List.replicate (m - ds.length) none) g with
  | some (.rt d, _, g') => some (.ok d, g')
  | some (.nx, _, g') => some (.ok .non, g')
  | some (.ex c, _, g') => some (.exc c, g')
  | _ => none
end
section
variable {X : Cx} {Z : Cn} {E : Ent Z.W} {Wx : WX} {e a b c : Expr} {pos p ap cp : Pos} {fe fa fb fc : M Z.W.G D} {fs fs' : SM Z.W.G}
/-- the own list at a is written -/
theorem R.updOwn {H Hf : Hp} {g : Z.W.G} {sl : SL} {σ : St} {i : Nat} {xs ys : List D} {q : Addr} {ws : List V} (r : R X.K E H Hf g sl σ) (hi : sl[i]? = some (some (.oL xs))) (hq : σ[i]? = some (some (.ref q))) (d : DvAll X.K Hf ws ys) :
    R X.K E (upd H q (.lst ws)) Hf g (sl.set i (some (.oL ys))) σ := by
  obtain ⟨v, h1, a, vs, e1, h2, h3, h4⟩ := r.slot i _ hi
  rw [hq] at h1
  cases h1
  cases e1
  have key : ∀ (j : Nat) (y : Slot), (sl.set i (some (.oL ys)))[j]? = some (some y) → (j = i ∧ y = .oL ys) ∨ (j ≠ i ∧ sl[j]? = some (some y)) := by
    intro j y ej
    rw [List.getElem?_set] at ej
    split at ej
    · rename_i hij
      split at ej
      · cases ej; exact .inl ⟨hij.symm, rfl⟩
      · cases ej
    · rename_i hij
      exact .inr ⟨fun z => hij z.symm, ej⟩
  refine ⟨r.base.updFresh _ h4.1 h4.2.1 h4.2.2, fun j y ej => ?_, fun j l y z b n ej el oy oz => ?_, by rw [List.length_set]; exact r.len⟩
  · rcases key j y ej with ⟨rfl, rfl⟩ | ⟨hj, ej'⟩
    · exact ⟨_, hq, q, ws, rfl, upd_same, d, h4⟩
    · obtain ⟨w, q1, q2⟩ := r.slot j y ej'
      refine ⟨w, q1, ?_⟩
      have hw : y.own = true → w ≠ .ref q := fun oy z => by subst z; exact r.apart i j _ y q (Ne.symm hj) hi ej' rfl oy hq q1
      match y, q2, hw with
      | .d x, q2, _ => exact q2
      | .oL zs, ⟨b, us, e1, k1, k2, k3⟩, hw => exact ⟨b, us, e1, by rw [upd_ne (fun z => hw rfl (by rw [e1, z]))]; exact k1, k2, k3⟩
      | .oK zs, ⟨b, us, e1, k1, k2, k3⟩, hw => exact ⟨b, us, e1, by rw [upd_ne (fun z => hw rfl (by rw [e1, z]))]; exact k1, k2, k3⟩
      | .kK zs, q2, _ => exact q2
      | .oT zs, ⟨b, us, e1, k1, k2, k3⟩, hw => exact ⟨b, us, e1, by rw [upd_ne (fun z => hw rfl (by rw [e1, z]))]; exact k1, k2, k3⟩
  · have aux : ∀ (j : Nat) (y : Slot), (sl.set i (some (.oL ys)))[j]? = some (some y) → y.own = true → ∃ y', sl[j]? = some (some y') ∧ y'.own = true := by
      intro j y ej oy
      rcases key j y ej with ⟨rfl, rfl⟩ | ⟨hj, ej'⟩
      · exact ⟨_, hi, rfl⟩
      · exact ⟨y, ej', oy⟩
    obtain ⟨y', e1, o1⟩ := aux j y ej oy
    obtain ⟨z', e2, o2⟩ := aux l z el oz
    exact r.apart j l y' z' b n e1 e2 o1 o2
theorem mutL_inv {G : Type} {sl : SL} {g : G} {i : Nat} {h : List D → Option (List D)} {m : Fl × SL × G} (e : sMutL i h sl g = some m) : ∃ xs ys, sl[i]? = some (some (.oL xs)) ∧ h xs = some ys ∧ m = (.nx, sl.set i (some (.oL ys)), g) := by
  unfold sMutL at e
  split at e
  · rename_i xs hx
    split at e
    · rename_i ys hy
      cases e
      exact ⟨xs, ys, hx, hy, rfl⟩
    · cases e
  · cases e
theorem goS_some {K : PySem.W.Frag} {Hf : Hp} {m : Option (Fl × SL × Z.W.G)} {D : Ends} (h : goS Z K E Wx Hf m D) : ∃ r, m = some r := by
  match m, h with
  | some r, _ => exact ⟨r, rfl⟩
theorem R.own {H Hf : Hp} {g : Z.W.G} {sl : SL} {σ : St} {i : Nat} {xs : List D} (r : R X.K E H Hf g sl σ) (hi : sl[i]? = some (some (.oL xs))) : ∃ q vs, σ[i]? = some (some (.ref q)) ∧ H q = some (.lst vs) ∧ DvAll X.K Hf vs xs := by
  obtain ⟨v, h1, a, vs, e1, h2, h3, h4⟩ := r.slot i _ hi
  exact ⟨a, vs, by rw [h1, e1], h2, h3⟩
theorem ownL_inv {G : Type} {sl : SL} {g : G} {i : Nat} {k : SM G} {m : Fl × SL × G} (e : sOwnL i k sl g = some m) : ∃ xs, sl[i]? = some (some (.oL xs)) ∧ k sl g = some m := by
  unfold sOwnL at e
  split at e
  · rename_i xs hx
    exact ⟨xs, hx, e⟩
  · cases e
theorem goS_own {K : PySem.W.Frag} {Hf : Hp} {sl : SL} {g : Z.W.G} {i : Nat} {k : SM Z.W.G} {D : Ends} (h : goS Z K E Wx Hf (sOwnL i k sl g) D) : ∃ xs, sl[i]? = some (some (.oL xs)) ∧ goS Z K E Wx Hf (k sl g) D := by
  obtain ⟨m, em⟩ := goS_some h
  obtain ⟨xs, h1, h2⟩ := ownL_inv em
  rw [em] at h
  exact ⟨xs, h1, by rw [h2]; exact h⟩
theorem goS_mut {H Hf : Hp} {sl : SL} {σ : St} {g : Z.W.G} {i : Nat} {h : List D → Option (List D)} {xs : List D} {D : Ends} (r : R X.K E H Hf g sl σ) (hi : sl[i]? = some (some (.oL xs))) (q : goS Z X.K E Wx Hf (sMutL i h sl g) D) :
    ∃ ys : List DL.D, h xs = some ys ∧ ∀ q ws, σ[i]? = some (some (.ref q)) → DvAll X.K Hf ws ys → D.nx σ (upd H q (.lst ws)) := by
  obtain ⟨m, em⟩ := goS_some q
  obtain ⟨xs', ys, h1, h2, rfl⟩ := mutL_inv em
  rw [hi] at h1
  cases h1
  rw [em] at q
  exact ⟨ys, h2, fun a ws ha d => q σ _ Hf (same_refl _) (r.updOwn hi ha d)⟩
section
variable {i : Nat} {x : Str} (hN : X.N[i]? = some x := by rfl) (hv : Vis X.env.scope x := by first | exact Or.inl rfl | exact Or.inr (Or.inl rfl) | exact Or.inr (Or.inr rfl)) (hd : (x == ("__debug__" : Str)) = false := by decide)
  (hcd : (x == ("__classdict__" : Str)) = false := by decide)
theorem ds_app {i : Nat} {x : Str} (he : DE X Z E Wx e fe) (hN : X.N[i]? = some x := by rfl) (hv : Vis X.env.scope x := by first | exact Or.inl rfl | exact Or.inr (Or.inl rfl) | exact Or.inr (Or.inr rfl)) (hd : (x == ("__debug__" : Str)) = false := by decide)
    (hcd : (x == ("__classdict__" : Str)) = false := by decide) (hbase : attributeBase (.Name x p) "append" X.env (eval (.Name x p) X.env) = eval (.Name x p) X.env := by rfl)
    (hfew : ((backTo cp (starEach [e] X.env)).all (fun x => !x.1) && (backToKw cp (keywordEach [] X.env)).all (fun x => x.1.isSome)
      && decide ([e].length + ([] : List Keyword).length + (if ([] : List Keyword).isEmpty then 0 else 1) < 30)) = true := by rfl)
    (hline : (ap.endLine == cp.line) = true := by rfl) (hst : starEach [e] X.env = (false, eval e X.env) :: starEach [] X.env := by rfl) (hplain : (backTo cp (starEach [] X.env)).any (·.1) = false := by rfl)
    (hs : swapsWith (.Call (.Attribute (.Name x p) "append" ap) [e] [] cp) none pos.line X.env = pure false := by rfl) : DS X Z E Wx (.Expr (.Call (.Attribute (.Name x p) "append" ap) [e] [] cp) pos) (sApp i fe) := by
  refine PS.imp (ps_expr (pe_bm PySem.F.plainAttrs_list PySem.F.slot_list_append PySem.F.type_list_append mt_append (pe_var hN hv hd hcd) (pa_cons he pa_nil hst) hbase hfew hline hst hplain) hs) fun D σ H ⟨Hf, g, sl, r, q⟩ => ?_
  obtain ⟨xs, hi, q⟩ := goS_own q
  obtain ⟨l, vs, hl, hH, dv⟩ := r.own hi
  refine ⟨_, hl, .inl ⟨rfl, vs, SqL.of hH⟩, Hf, g, sl, r, (goS_do (Rl := RlD X.K) r q).mono fun v H1 ⟨Hf1, g1, d, b1, r1, d1, q1⟩ => ?_⟩
  obtain ⟨ys, ey, k⟩ := goS_mut r1 hi q1
  obtain ⟨l1, vs1, hl1, hH1, dv1⟩ := r1.own hi
  rw [hl] at hl1
  cases hl1
  split at ey
  · rename_i hlen
    cases ey
    exact ⟨l, vs1, v, rfl, rfl, hH1, by rw [dv1.len]; exact lim_lt (Nat.le_of_lt hlen), k l _ hl (dv1.append (.cons d1 .nil))⟩
  · cases ey
theorem ds_ext {i : Nat} {x : Str} (he : DE X Z E Wx e fe) (hN : X.N[i]? = some x := by rfl) (hv : Vis X.env.scope x := by first | exact Or.inl rfl | exact Or.inr (Or.inl rfl) | exact Or.inr (Or.inr rfl)) (hd : (x == ("__debug__" : Str)) = false := by decide)
    (hcd : (x == ("__classdict__" : Str)) = false := by decide) (hbase : attributeBase (.Name x p) "extend" X.env (eval (.Name x p) X.env) = eval (.Name x p) X.env := by rfl)
    (hfew : ((backTo cp (starEach [e] X.env)).all (fun x => !x.1) && (backToKw cp (keywordEach [] X.env)).all (fun x => x.1.isSome)
      && decide ([e].length + ([] : List Keyword).length + (if ([] : List Keyword).isEmpty then 0 else 1) < 30)) = true := by rfl)
    (hline : (ap.endLine == cp.line) = true := by rfl) (hst : starEach [e] X.env = (false, eval e X.env) :: starEach [] X.env := by rfl) (hplain : (backTo cp (starEach [] X.env)).any (·.1) = false := by rfl)
    (hs : swapsWith (.Call (.Attribute (.Name x p) "extend" ap) [e] [] cp) none pos.line X.env = pure false := by rfl) : DS X Z E Wx (.Expr (.Call (.Attribute (.Name x p) "extend" ap) [e] [] cp) pos) (sExt i fe) := by
  refine PS.imp (ps_expr (pe_bm PySem.F.plainAttrs_list PySem.F.slot_list_extend PySem.F.type_list_extend mt_extend (pe_var hN hv hd hcd) (pa_cons he pa_nil hst) hbase hfew hline hst hplain) hs) fun D σ H ⟨Hf, g, sl, r, q⟩ => ?_
  obtain ⟨xs, hi, q⟩ := goS_own q
  obtain ⟨l, vs, hl, hH, dv⟩ := r.own hi
  refine ⟨_, hl, .inl ⟨rfl, vs, SqL.of hH⟩, Hf, g, sl, r, (goS_do (Rl := RlD X.K) r q).mono fun v H1 ⟨Hf1, g1, d, b1, r1, d1, q1⟩ => ?_⟩
  obtain ⟨ys, ey, k⟩ := goS_mut r1 hi q1
  obtain ⟨l1, vs1, hl1, hH1, dv1⟩ := r1.own hi
  rw [hl] at hl1
  cases hl1
  match d, ey, d1 with
  | .lst zs, ey, d1 =>
    simp only at ey
    split at ey
    · rename_i hlen
      cases ey
      cases d1 with
      | lst h1 h2 => exact ⟨l, _, vs1, _, rfl, rfl, hH1, b1.fh _ _ h1, by rw [dv1.len, h2.len]; exact lim_line2 hlen, k l _ hl (dv1.append h2)⟩
    · cases ey
theorem ds_seti {i : Nat} {x : Str} {ps : Pos} (hk : DE X Z E Wx a fa) (he : DE X Z E Wx e fe) (hN : X.N[i]? = some x := by rfl) (hv : Vis X.env.scope x := by first | exact Or.inl rfl | exact Or.inr (Or.inl rfl) | exact Or.inr (Or.inr rfl)) (hd : (x == ("__debug__" : Str)) = false := by decide)
    (hcd : (x == ("__classdict__" : Str)) = false := by decide)
    (ha : ∀ v, assign (.Subscript (.Name x p) a ps) X.env v = (do
      let ov ← holding [v] (eval (.Name x p) X.env)
      let iv ← holding [v, ov] (eval a X.env)
      standAt ps
      holding [v, ov, iv] (setItem ov iv v)
      release [v, ov, iv] []) := by intro _; rfl)
    (hs : swapsWithSole [.Subscript (.Name x p) a ps] e pos.line X.env = pure false := by rfl) (hw : swappedStores [.Subscript (.Name x p) a ps] e X.env = pure none := by rfl) :
    DS X Z E Wx (.Assign [.Subscript (.Name x p) a ps] e pos) (sSetI i fa fe) := by
  refine PS.imp (ps_asg he (pg_sub (pe_var hN hv hd hcd) hk set_list ha) hs hw) fun D σ H ⟨Hf, g, sl, r, q⟩ => ?_
  obtain ⟨xs, hi, q⟩ := goS_own q
  refine ⟨Hf, g, sl, r, (goS_do (Rl := RlD X.K) r q).mono fun v H1 ⟨Hf1, g1, d, b1, r1, d1, q1⟩ => ?_⟩
  obtain ⟨l, vs, hl, hH, dv⟩ := r1.own hi
  refine ⟨_, hl, Hf1, g1, sl, r1, (goS_do (Rl := RlD X.K) r1 q1).mono fun kv H2 ⟨Hf2, g2, kd, b2, r2, d2, q2⟩ => ?_⟩
  obtain ⟨ys, ey, k⟩ := goS_mut r2 hi q2
  obtain ⟨l1, vs1, hl1, hH1, dv1⟩ := r2.own hi
  rw [hl] at hl1
  cases hl1
  match kd, ey, d2 with
  | .int z, ey, d2 =>
    cases d2
    simp only at ey
    split at ey
    · rename_i j hj
      cases ey
      exact ⟨l, vs1, z, j, rfl, rfl, hH1, by rw [dv1.len]; exact hj, k l _ hl (dv1.set j (Dv.mono b2.ff _ d1))⟩
    · cases ey
theorem ds_pop0 {i j : Nat} {x y : Str} {py p0 : Pos} {k0 : Nat} (hnd : X.N.Nodup) (hij : i ≠ j) (hj : X.N[j]? = some y) (hy : Loc X.env.scope y) (hN : X.N[i]? = some x := by rfl) (hv : Vis X.env.scope x := by first | exact Or.inl rfl | exact Or.inr (Or.inl rfl) | exact Or.inr (Or.inr rfl)) (hd : (x == ("__debug__" : Str)) = false := by decide)
    (hcd : (x == ("__classdict__" : Str)) = false := by decide) (hbase : attributeBase (.Name x p) "pop" X.env (eval (.Name x p) X.env) = eval (.Name x p) X.env := by rfl)
    (hfew : ((backTo cp (starEach [.Constant (.int 0) k0 p0] X.env)).all (fun x => !x.1) && (backToKw cp (keywordEach [] X.env)).all (fun x => x.1.isSome)
      && decide ([(.Constant (.int 0) k0 p0 : Expr)].length + ([] : List Keyword).length + (if ([] : List Keyword).isEmpty then 0 else 1) < 30)) = true := by rfl)
    (hline : (ap.endLine == cp.line) = true := by rfl) (hst : starEach [.Constant (.int 0) k0 p0] X.env = (false, eval (.Constant (.int 0) k0 p0) X.env) :: starEach [] X.env := by rfl) (hplain : (backTo cp (starEach [] X.env)).any (·.1) = false := by rfl)
    (hs : swapsWith (.Call (.Attribute (.Name x p) "pop" ap) [.Constant (.int 0) k0 p0] [] cp) (some (.Name y py)) pos.line X.env = pure false := by rfl) (hf : X.fn y = true ∨ X.env.scope.names.lookup y = some .local := by first | exact .inl rfl | exact .inr rfl | assumption) :
    DS X Z E Wx (.Assign [.Name y py] (.Call (.Attribute (.Name x p) "pop" ap) [.Constant (.int 0) k0 p0] [] cp) pos) (sPop0 j i) := by
  refine PS.imp (ps_set hnd hj hy (pe_bm PySem.F.plainAttrs_list PySem.F.slot_list_pop PySem.F.type_list_pop mt_popAt (pe_var hN hv hd hcd) (pa_cons pe_int pa_nil hst) hbase hfew hline hst hplain) hs hf) fun D σ H ⟨Hf, g, sl, r, q⟩ => ?_
  unfold sPop0 at q
  match ei : sl[i]? with
  | some (some (.oL (d :: xs))) =>
    rw [ei] at q
    obtain ⟨l, vs, hl, hH, dv⟩ := r.own ei
    cases dv with
    | cons d1 d2 =>
      rename_i v vs'
      refine ⟨_, hl, .inl ⟨rfl, _, SqL.of hH⟩, l, _, 0, 0, v, rfl, rfl, hH, by decide, by decide, (ixN_seq (n := (v :: vs').length) (i := 0) (j := 0) (by simp [ixN])).1, rfl, ?_⟩
      have r2 := r.updOwn ei hl (ws := vs') (ys := xs) d2
      exact q _ _ Hf (same_refl _) (r2.setd j d1)
  | some (some (.oL [])) => rw [ei] at q; exact q.elim
  | some (some (.d y)) => rw [ei] at q; exact q.elim
  | some (some (.oK y)) => rw [ei] at q; exact q.elim
  | some (some (.oT y)) => rw [ei] at q; exact q.elim
  | some (some (.kK y)) => rw [ei] at q; exact q.elim
  | some none => rw [ei] at q; exact q.elim
  | none => rw [ei] at q; exact q.elim
end
/-- raise X('..') -/
theorem ds_raise {C : Addr} {bmB : List Value} {B newId initId : String} {x m : Str} {j : Nat} {p2 cp : Pos} (n : Nat) (hn : Z.cls n = .ref C) (hc : X.calm = true) (tk : Takes X Wx) (F : ExcBaseFacts B newId initId bmB) (q : PySem.W.excIn X.K C bmB newId = true) (gC : X.mg x = some (.ref C)) (kC : PySem.W.keepIn X.K (.ref C) = true) (r : Raises X (.ref C)) (hg : Gl X x)
    (hdb : (x == ("__debug__" : Str)) = false := by decide) : DS X Z E Wx (.Raise (some (.Call (.Name x p) [.Constant (.str m) j p2] [] cp)) none pos) (sRaise n) := by
  refine PS.imp (ps_raise hc tk (pmk_own F q gC kC r hg hdb)) fun D σ H ⟨Hf, g, sl, r, q⟩ => ?_
  have := q σ H Hf r
  rw [hn] at this
  exact this
/-- a raise that is not reached -/
theorem ds_never {st : Stmt} : DS X Z E Wx st (fun _ _ => none) := PS.imp ps_never fun D σ H ⟨Hf, g, sl, r, q⟩ => q
/-- f() -/
theorem de_call0 {F : Fn Z.W.G} {k : Nat} {f : Addr} {fd : FuncData} {x : Str} (G : FnOk X.prog X.w X.K X.mg X.base (L2.CX X.prog X.w) k f fd [] (spF Z X.K 0 F)) (hr : Room k X.A) (hg : Gl X x) (hm : X.mg x = some (.ref f)) (hk : PySem.W.keepIn X.K (.ref f) = true) (hb : Binds X.K fd [] [])
    (tk : Takes X Wx) (hdb : (x == ("__debug__" : Str)) = false := by decide) : DE X Z E Wx (.Call (.Name x p) [] [] pos) (fun _ g => F [] g) := by
  refine ⟨fun pins s σ H Q I ⟨Hf, g, sl, r, q⟩ => ?_⟩
  refine wpAny_Call_Name_kw (ld_glob I hg hm ?_ hdb)
  refine PySem.W.callWith_K0 I.kIn hk (run_fnS (us := []) (vs := []) (E := WE Wx) G hr hb (passAt tk σ) I .nil ⟨rfl, Hf, g, [], r.base.self, .nil, go_wx q⟩)

/-! ### a def -/
theorem start_R {P : Program} {K : PySem.W.Frag} {H Hf : Hp} {g : Z.W.G} {N : List Str} {vs : List V} {ds : List D} (B : Base Z.W H Hf g H Hf g) (dv : DvAll K Hf vs ds) (hl : ds.length ≤ N.length) :
    R K ⟨H, Hf, g⟩ H Hf g (ds.map (fun d => some (Slot.d d)) ++ List.replicate (N.length - ds.length) none) (L2.start N vs) := by
  have key : ∀ (i : Nat) (x : Slot), (ds.map (fun d => some (Slot.d d)) ++ List.replicate (N.length - ds.length) none)[i]? = some (some x) → ∃ d, ds[i]? = some d ∧ x = .d d := by
    intro i x e
    rw [List.getElem?_append] at e
    split at e
    · rename_i hi
      rw [List.getElem?_map] at e
      cases ed : ds[i]? with
      | none => rw [ed] at e; cases e
      | some d =>
        rw [ed] at e
        cases e
        exact ⟨d, rfl, rfl⟩
    · rw [List.getElem?_replicate] at e
      split at e
      · cases e
      · cases e
  refine ⟨B, fun i x e => ?_, fun i j x y a n e1 e2 o1 _ => ?_, ?_⟩
  · obtain ⟨d, ed, rfl⟩ := key i x e
    obtain ⟨v, ev, dd⟩ := dv.get' ed
    refine ⟨v, ?_, dd⟩
    unfold L2.start
    have hi : i < vs.length := (List.getElem?_eq_some_iff.mp ev).1
    rw [List.getElem?_append_left (by simpa using hi), List.getElem?_map, ev]
    rfl
  · obtain ⟨d, _, rfl⟩ := key i x e1
    cases o1
  · unfold L2.start
    rw [List.length_append, List.length_append, List.length_map, List.length_map, List.length_replicate, List.length_replicate, dv.len]
theorem fn_ok {P : Program} {w : World} {K : PySem.W.Frag} {mg : Str → Option Value} {base : Heap} {x qual : Str} {st : Stmt} {f : Addr} {fd : FuncData} {N ps : List Str} {k : Nat} {fs : SM Z.W.G} (F : Fun K x qual st f fd) (S : FnScope N ps (defScope st)) (hl : ps.length ≤ N.length)
    (body : ∀ (cdv : Value) (A : Around) (outer : List Env) (s : Shared) (H : Hp) (E : Ent Z.W) (Ex : XK), Room k (A.deeper (PyProof.Rows.envOfC qual (defScope st) s.heap.objs.size f cdv)) →
      DSs (cxOf (L2.CX P w) P w K mg base N qual (defScope st) f cdv A outer s H Ex) Z E (fun cls d _ H => Ex cls d H) (defBody st) fs) :
    FnOk P w K mg base (L2.CX P w) (k + 1) f fd ps (spF Z K ps.length (fnD N.length fs)) := by
  refine F.okX S (fun vs H Q E h => h.1) fun cdv A outer s H vs Q Ex hr ⟨hv, Hf, g, ds, B, dv, q⟩ => ⟨_, body cdv A outer s H ⟨H, Hf, g⟩ Ex hr, Hf, g, _, start_R (P := P) B dv (by rw [← dv.len, hv]; exact hl), ?_⟩
  unfold fnD at q
  match em : fs (ds.map (fun d => some (.d d)) ++ List.replicate (N.length - ds.length) none) g with
  | none => rw [em] at q; exact q.elim
  | some (.nx, sl', g') => rw [em] at q ⊢; exact fun σ' H' Hf' _ r => q .non H' Hf' r.base .non
  | some (.bk, sl', g') => rw [em] at q; exact q.elim
  | some (.ct, sl', g') => rw [em] at q; exact q.elim
  | some (.rt d, sl', g') => rw [em] at q ⊢; exact q
  | some (.ex c, sl', g') => rw [em] at q ⊢; exact fun σ' H' Hf' r => q H' Hf' r.base
end
end DL
namespace DL
open PySem L2

/-! ### small things for the printed derivations -/
def LenM {G : Type} (fs : M G (List D)) (n : Nat) : Prop := ∀ sl g ds g', fs sl g = some (.ok ds, g') → ds.length = n
theorem len_nil {G : Type} : LenM (G := G) aNil 0 := fun sl g ds g' h => by cases h; rfl
theorem len_cons {G : Type} {fe : M G D} {fs : M G (List D)} {n : Nat} (h : LenM fs n) : LenM (aCons fe fs) (n + 1) := fun sl g ds g' e => by
  unfold aCons M.bind at e
  split at e
  · cases e
  · cases e
  · simp only at e
    split at e
    · cases e
    · cases e
    · rename_i h2
      cases e
      rw [List.length_cons, h _ _ _ _ h2]
section
variable {X : Cx} {Z : Cn} {E : Ent Z.W} {Wx : WX} {e a b c : Expr} {pos p ap cp : Pos} {fe fa fb fc : M Z.W.G D} {ft : M Z.W.G Bool} {fs fs' : SM Z.W.G}
theorem dts_nil {K : PySem.W.Frag} : PTs X [] (tG Z K E RlB Wx tYesM) := ⟨fun pins s σ H Q I ⟨Hf, g, sl, r, q⟩ => pts_nil.run pins s σ H Q I (q true H Hf r.base.self rfl)⟩
theorem dts_one (h : DT X Z E Wx c ft) : PTs X [c] (tG Z X.K E RlB Wx ft) := pts_one h
/-- sep.join(xs), xs a list or tuple of texts -/
def asSs : List D → Option (List (List Nat))
  | [] => some []
  | .str s :: ds => (asSs ds).map (s :: ·)
  | _ => none
theorem asSs_some : ∀ {ds : List D} {ss : List (List Nat)}, asSs ds = some ss → ds = ss.map D.str
  | [], _, h => by cases h; rfl
  | .str b :: ds, bs, h => by
    obtain ⟨l, e1, rfl⟩ := Option.map_eq_some_iff.mp h
    rw [asSs_some e1]; rfl
def joinS (sep : List Nat) : List (List Nat) → List Nat
  | [] => []
  | [p] => p
  | p :: q :: r => p ++ (sep ++ joinS sep (q :: r))
def joinD (sep : List Nat) : D → Option D
  | .lst xs => (asSs xs).bind fun ss => if (joinS sep ss).length ≤ LIM ∧ (ss.map List.length).sum + ss.length * sep.length ≤ LIM then some (.str (joinS sep ss)) else none
  | .tup xs => (asSs xs).bind fun ss => if (joinS sep ss).length ≤ LIM ∧ (ss.map List.length).sum + ss.length * sep.length ≤ LIM then some (.str (joinS sep ss)) else none
  | _ => none
def eJoin {G : Type} (a b : M G D) : M G D := M.bind a fun x => M.bind (M.lift (asS x)) fun s => M.bind b fun y => M.lift (joinD s y)
theorem join_mkS (sep : List Nat) (ss : List (List Nat)) : Txt.join (mkS sep) (ss.map mkS) = mkS (joinS sep ss) := by
  rw [TL.join_eq]
  apply TL.ext_tl
  rw [TL.tl_join]
  have h1 : TL.tl (mkS sep) = sep := by simp [TL.tl, mkS]
  have h2 : (ss.map mkS).map TL.tl = ss := by
    rw [List.map_map]
    have : (TL.tl ∘ mkS) = id := by funext s; simp [TL.tl, mkS]
    rw [this, List.map_id]
  have h3 : TL.tl (mkS (joinS sep ss)) = joinS sep ss := by simp [TL.tl, mkS]
  rw [h1, h2, h3]
  have key : ∀ l : List (List Nat), TL.joinL sep l = joinS sep l := by
    intro l
    induction l with
    | nil => rfl
    | cons p l ih =>
      cases l with
      | nil => rfl
      | cons q l => show p ++ (sep ++ TL.joinL sep (q :: l)) = p ++ (sep ++ joinS sep (q :: l)); rw [ih]
  exact key ss
theorem joinS_mem {sep : List Nat} : ∀ {ss : List (List Nat)} {c : Nat}, c ∈ joinS sep ss → c ∈ sep ∨ ∃ s ∈ ss, c ∈ s
  | [], c, h => by cases h
  | [p], c, h => .inr ⟨p, by simp, h⟩
  | p :: q :: r, c, h => by
    rcases List.mem_append.mp h with h | h
    · exact .inr ⟨p, by simp, h⟩
    · rcases List.mem_append.mp h with h | h
      · exact .inl h
      · rcases joinS_mem h with h | ⟨s, hs, h⟩
        · exact .inl h
        · exact .inr ⟨s, List.mem_cons_of_mem _ hs, h⟩
theorem join_run {W : Wd} {H Hf : Hp} {g : W.G} {y : V} {sep : List Nat} {b d : D} {Q : VK} (B : Base W H Hf g H Hf g) (o1 : okS sep) (hb : Dr X.K g Hf H y b) (ed : joinD sep b = some d) (k : ∀ v H' Hf', Base W H Hf g H' Hf' g → Dv X.K Hf' v d → Q v H') :
    (∃ a p, ∃ ys : List Str, V.str (mkS sep) = .str a ∧ [y] = [.ref p] ∧ (SqL X.K H p (ys.map V.str) ∨ SqT X.K H p (ys.map V.str)) ∧
    (ys.map (·.length)).sum + ys.length * a.length ≤ 16777216 ∧ Q (.str (Txt.join a ys)) H) := by
  have core : ∀ (ss : List (List Nat)) (vs : List V) (q : Addr), DvAll X.K Hf vs (ss.map D.str) → ((joinS sep ss).length ≤ LIM ∧ (ss.map List.length).sum + ss.length * sep.length ≤ LIM) → (SqL X.K H q vs ∨ SqT X.K H q vs) → d = .str (joinS sep ss) →
      (∃ a p, ∃ ys : List Str, V.str (mkS sep) = .str a ∧ [V.ref q] = [.ref p] ∧ (SqL X.K H p (ys.map V.str) ∨ SqT X.K H p (ys.map V.str)) ∧ (ys.map (·.length)).sum + ys.length * a.length ≤ 16777216 ∧ Q (.str (Txt.join a ys)) H) := by
    intro ss vs q dv hl hq ed
    subst ed
    have hvs := dv.strs
    subst hvs
    refine ⟨mkS sep, q, ss.map mkS, rfl, rfl, hq, ?_, ?_⟩
    · rw [List.map_map, List.length_map, mkS_len]
      have : ((fun s : Str => s.length) ∘ mkS) = List.length := by funext s; simp [mkS_len]
      rw [this]
      exact Nat.le_trans hl.2 (by unfold LIM; decide)
    · rw [join_mkS]
      refine k _ _ _ B (.str _ ⟨hl.1, fun c hc => ?_⟩)
      rcases joinS_mem hc with h | ⟨s, hs, h⟩
      · exact o1.2 c h
      · exact (dv.oks s hs).2 c h
  match b, ed, hb with
  | .lst xs, ed, hb =>
    obtain ⟨q, vs, rfl, h1, h2⟩ := hb.lst B.fh
    simp only [joinD] at ed
    obtain ⟨ss, es, ed2⟩ := Option.bind_eq_some_iff.mp ed
    obtain rfl := asSs_some es
    split at ed2
    · rename_i hl
      cases ed2
      exact core ss vs q h2 hl (.inl (SqL.of h1)) rfl
    · cases ed2
  | .tup xs, ed, hb =>
    obtain ⟨q, vs, rfl, h1, h2⟩ := hb.tup
    simp only [joinD] at ed
    obtain ⟨ss, es, ed2⟩ := Option.bind_eq_some_iff.mp ed
    obtain rfl := asSs_some es
    split at ed2
    · rename_i hl
      cases ed2
      exact core ss vs q h2 hl (.inr (SqT.of (B.fh _ _ h1))) rfl
    · cases ed2
theorem de_join (ha : DE X Z E Wx a fa) (hb : DR X Z E Wx b fb) (hs : starEach [b] X.env = [(false, eval b X.env)] := by rfl) (hbase : attributeBase a "join" X.env (eval a X.env) = eval a X.env := by rfl) (hline : (ap.endLine == cp.line) = true := by rfl) :
    DE X Z E Wx (.Call (.Attribute a "join" ap) [b] [] cp) (eJoin fa fb) := by
  refine PE.imp (pe_m1 PySem.F.slot_str_join PySem.F.type_str_join mt_join ha hb hs hbase hline) fun σ H Q ⟨Hf, g, sl, r, q⟩ => ?_
  refine ⟨Hf, g, sl, r, (go_bind (Rm := RlD X.K) q).mono fun x H1 ⟨Hf1, g1, a, b1, d1, q1⟩ => ?_⟩
  obtain ⟨s, es, q2⟩ := go_bl q1
  obtain rfl := asS_some es
  cases d1 with
  | str _ ok =>
    refine ⟨⟨_, rfl⟩, Hf1, g1, sl, r.step b1, (go_bind (Rm := RlR X.K) q2).mono fun y H2 ⟨Hf2, g2, b, b2, d2, q3⟩ => ?_⟩
    obtain ⟨d, ed, k⟩ := go_lift q3
    exact join_run b2.self ok d2 ed k
/-! the built-ins' names -/
theorem bt_len : bootBuiltins "len" = some (.builtin "len") := by decide +kernel
theorem bt_all : bootBuiltins "all" = some (.builtin "all") := by decide +kernel
theorem bt_sorted : bootBuiltins "sorted" = some (.builtin "sorted") := by decide +kernel
theorem bt_min : bootBuiltins "min" = some (.builtin "min") := by decide +kernel
theorem bt_max : bootBuiltins "max" = some (.builtin "max") := by decide +kernel
theorem bt_int : bootBuiltins "int" = some (.type "int") := by decide +kernel
theorem bt_bool : bootBuiltins "bool" = some (.type "bool") := by decide +kernel
theorem bt_str : bootBuiltins "str" = some (.type "str") := by decide +kernel
theorem bt_tuple : bootBuiltins "tuple" = some (.type "tuple") := by decide +kernel
theorem bt_list : bootBuiltins "list" = some (.type "list") := by decide +kernel
theorem bt_dict : bootBuiltins "dict" = some (.type "dict") := by decide +kernel
theorem bt_set : bootBuiltins "set" = some (.type "set") := by decide +kernel
end
end DL
namespace DL
open PySem L2

/-! ### the town: the script, what was drawn -/
structure Tw where
  inn : Bool
  sc : Addr
  ns : List Int
  tn : Option (Addr × Addr)
  ct : Int
  rs : List (Int × Int)
def Tw.fp (g : Tw) (b : Addr) : Prop := (g.inn = true ∧ b = g.sc) ∨ ∃ t q, g.tn = some (t, q) ∧ (b = t ∨ b = q)
def rsV (rs : List (Int × Int)) : List (Key × V) := rs.map fun p => (.inl p.1, .int p.2)
def tnV (ct : Int) (q : Addr) : List (Key × V) := [(.inr "count", .int ct), (.inr "rests", .ref q)]
structure Tw.rep (K : PySem.W.Frag) (g : Tw) (H : Hp) : Prop where
  s : SqL K (if g.inn = true then H else fun _ => none) g.sc (g.ns.map V.int)
  th : g.inn = true → H g.sc ≠ none
  tn : ∀ t q, g.tn = some (t, q) → H t = some (.dK (tnV g.ct q)) ∧ H q = some (.dK (rsV g.rs)) ∧ t ≠ q ∧ (g.inn = true → g.sc ≠ t ∧ g.sc ≠ q)
theorem sql_loc {K : PySem.W.Frag} {H H' : Hp} {a : Addr} {xs : List V} (h : SqL K H a xs) (e : H' a = H a) : SqL K H' a xs := by
  rcases h with h | h
  · rcases h with h | ⟨o, h⟩
    · exact .inl (.inl (by rw [e]; exact h))
    · exact .inl (.inr ⟨o, by rw [e]; exact h⟩)
  · exact .inr h
theorem sql_none {K : PySem.W.Frag} {H : Hp} {a : Addr} {xs : List V} (h : SqL K (fun _ => none) a xs) : SqL K H a xs := by
  rcases h with h | h
  · rcases h with h | ⟨o, h⟩
    · cases h
    · cases h
  · exact .inr h
theorem Tw.rep.sq {K : PySem.W.Frag} {g : Tw} {H : Hp} (r : g.rep K H) : SqL K H g.sc (g.ns.map V.int) := by
  have := r.s
  split at this
  · exact this
  · exact sql_none this
theorem Tw.rep.loc {K : PySem.W.Frag} {g : Tw} {H H' : Hp} (r : g.rep K H) (e : ∀ b, g.fp b → H' b = H b) : g.rep K H' := by
  refine ⟨?_, fun hi => ?_, fun t q ht => ?_⟩
  · have := r.s
    by_cases hi : g.inn = true
    · rw [if_pos hi] at this ⊢
      exact sql_loc this (e _ (.inl ⟨hi, rfl⟩))
    · rw [if_neg hi] at this ⊢
      exact this
  · rw [e _ (.inl ⟨hi, rfl⟩)]; exact r.th hi
  · obtain ⟨h1, h2, h3, h4⟩ := r.tn t q ht
    exact ⟨by rw [e _ (.inr ⟨t, q, ht, .inl rfl⟩)]; exact h1, by rw [e _ (.inr ⟨t, q, ht, .inr rfl⟩)]; exact h2, h3, h4⟩
theorem Tw.rep.there {K : PySem.W.Frag} {g : Tw} {H : Hp} {b : Addr} (r : g.rep K H) (h : g.fp b) : H b ≠ none := by
  rcases h with ⟨hi, rfl⟩ | ⟨t, q, ht, hb⟩
  · exact r.th hi
  · obtain ⟨h1, h2, _⟩ := r.tn t q ht
    rcases hb with rfl | rfl
    · rw [h1]; simp
    · rw [h2]; simp
/-- the world: the town and what else there is -/
def TW (K : PySem.W.Frag) (Vw : Wd) : Wd where
  G := Tw × Vw.G
  rep := fun g H Hf => g.1.rep K H ∧ Vw.rep g.2 H Hf ∧ ∀ b, g.1.fp b → ¬ Vw.fp g.2 b
  fp := fun g b => g.1.fp b ∨ Vw.fp g.2 b
  loc := fun g H H' Hf Hf' r e x => ⟨r.1.loc fun b hb => e b (.inl hb), Vw.loc g.2 H H' Hf Hf' r.2.1 (fun b hb => e b (.inr hb)) x, r.2.2⟩
  there := fun g H Hf b r h => h.elim (fun z => r.1.there z) (fun z => Vw.there g.2 H Hf b r.2.1 z)
/-- nothing else -/
def W0d : Wd where
  G := Unit
  rep := fun _ _ _ => True
  fp := fun _ _ => False
  loc := fun _ _ _ _ _ _ _ _ => trivial
  there := fun _ _ _ _ _ h => h.elim
abbrev TZ (K : PySem.W.Frag) (Vw : Wd) (cls : Nat → Value) : Cn := ⟨TW K Vw, cls⟩

/-- the world is written -/
theorem Base.world {W : Wd} {H Hf H' : Hp} {g g' : W.G} (b : Base W H Hf g H Hf g) (rep : W.rep g' H' Hf) (hk : ∀ x o, H x = some o → ¬ W.fp g x → H' x = some o) (hfp : ∀ x, W.fp g' x → W.fp g x ∨ H x = none) (th : ∀ x, H x ≠ none → H' x ≠ none) : Base W H Hf g H' Hf g' where
  ff := same_refl _
  fh := fun x o h => hk x o (b.fh x o h) fun q => by rw [b.dis x q] at h; cases h
  keep := hk
  old := fun _ _ => rfl
  there := th
  rep := rep
  dis := fun x q => by
    rcases hfp x q with z | z
    · exact b.dis x z
    · exact b.hn z
  fpo := hfp

section
variable {X : Cx} {Vw : Wd} {cls : Nat → Value}
theorem base_count {H Hf : Hp} {g : Tw × Vw.G} {t q : Addr} (n : Int) (b : Base (TW X.K Vw) H Hf g H Hf g) (ht : g.1.tn = some (t, q)) : Base (TW X.K Vw) H Hf g (upd H t (.dK (tnV n q))) Hf ({ g.1 with ct := n }, g.2) := by
  obtain ⟨h1, h2, h3, h4⟩ := b.rep.1.tn t q ht
  have hfp : (TW X.K Vw).fp g t := .inl (.inr ⟨t, q, ht, .inl rfl⟩)
  have hS : ∀ x, x ≠ t → upd H t (.dK (tnV n q)) x = H x := fun x hx => upd_ne hx
  refine b.world ⟨⟨?_, fun hi => ?_, fun t' q' e => ?_⟩, ?_, ?_⟩ ?_ ?_ ?_
  · have := b.rep.1.s
    by_cases hi : g.1.inn = true
    · simp only [hi, if_true] at this ⊢
      exact sql_loc this (hS _ (h4 hi).1)
    · simp only [hi] at this ⊢
      exact this
  · rw [hS _ (h4 hi).1]; exact b.rep.1.th hi
  · have e2 : some (t, q) = some (t', q') := ht.symm.trans e
    cases e2
    exact ⟨upd_same, by rw [hS _ h3.symm]; exact h2, h3, h4⟩
  · exact Wd.loc1 b.rep.2.1 fun x hx => hS x fun z => by subst z; exact b.rep.2.2 x (.inr ⟨x, q, ht, .inl rfl⟩) hx
  · exact b.rep.2.2
  · intro x o h hn
    rw [hS x fun z => by subst z; exact hn hfp]; exact h
  · exact fun x h => .inl h
  · intro x hx
    by_cases e : x = t
    · subst e; rw [upd_same]; simp
    · rw [hS x e]; exact hx
theorem base_rests {H Hf : Hp} {g : Tw × Vw.G} {t q : Addr} (rs : List (Int × Int)) (b : Base (TW X.K Vw) H Hf g H Hf g) (ht : g.1.tn = some (t, q)) : Base (TW X.K Vw) H Hf g (upd H q (.dK (rsV rs))) Hf ({ g.1 with rs := rs }, g.2) := by
  obtain ⟨h1, h2, h3, h4⟩ := b.rep.1.tn t q ht
  have hfp : (TW X.K Vw).fp g q := .inl (.inr ⟨t, q, ht, .inr rfl⟩)
  have hS : ∀ x, x ≠ q → upd H q (.dK (rsV rs)) x = H x := fun x hx => upd_ne hx
  refine b.world ⟨⟨?_, fun hi => ?_, fun t' q' e => ?_⟩, ?_, ?_⟩ ?_ ?_ ?_
  · have := b.rep.1.s
    by_cases hi : g.1.inn = true
    · simp only [hi, if_true] at this ⊢
      exact sql_loc this (hS _ (h4 hi).2)
    · simp only [hi] at this ⊢
      exact this
  · rw [hS _ (h4 hi).2]; exact b.rep.1.th hi
  · have e2 : some (t, q) = some (t', q') := ht.symm.trans e
    cases e2
    exact ⟨by rw [hS _ h3]; exact h1, upd_same, h3, h4⟩
  · exact Wd.loc1 b.rep.2.1 fun x hx => hS x fun z => by subst z; exact b.rep.2.2 x (.inr ⟨t, x, ht, .inr rfl⟩) hx
  · exact b.rep.2.2
  · intro x o h hn
    rw [hS x fun z => by subst z; exact hn hfp]; exact h
  · exact fun x h => .inl h
  · intro x hx
    by_cases e : x = q
    · subst e; rw [upd_same]; simp
    · rw [hS x e]; exact hx

/-! the pure side -/
section
variable {G : Type}
/-- slot i holds the script; slot i holds the town -/
def mScr (i : Nat) : M (Tw × G) (List Int) := fun sl g => match sl[i]? with
  | some (some (.d (.ref a))) => if a = g.1.sc then some (.ok g.1.ns, g) else none
  | _ => none
def mTwn (i : Nat) : M (Tw × G) Tw := fun sl g => match sl[i]? with
  | some (some (.d (.ref a))) => if g.1.tn.map (·.1) = some a then some (.ok g.1, g) else none
  | _ => none
def eScrLen (i : Nat) : M (Tw × G) D := M.bind (mScr i) fun ns => M.pure (.int ns.length)
def tScr (i : Nat) : M (Tw × G) Bool := M.bind (mScr i) fun ns => M.pure (!ns.isEmpty)
def eScrAt (i : Nat) (fa : M (Tw × G) D) : M (Tw × G) D := M.bind (mScr i) fun _ => M.bind fa fun k => M.bind (mScr i) fun ns => M.lift (match k with
  | .int z => (atI ns z).map D.int
  | _ => none)
def eCount (i : Nat) : M (Tw × G) D := M.bind (mTwn i) fun t => M.pure (.int t.ct)
def rsGet (rs : List (Int × Int)) (k : Int) : Option Int := (rs.find? fun p => decide (p.1 = k)).map (·.2)
def rsPut (rs : List (Int × Int)) (k v : Int) : List (Int × Int) :=
  if (rs.any fun p => decide (p.1 = k)) = true then rs.map (fun p => if p.1 = k then (p.1, v) else p) else rs ++ [(k, v)]
def eRest (i : Nat) (fk fd : M (Tw × G) D) : M (Tw × G) D := M.bind (mTwn i) fun t => M.bind fk fun k => M.bind fd fun d => fun sl g => match k, d with
  | .int z, .int y => if g.1.tn = t.tn then some (.ok (.int ((rsGet g.1.rs z).getD y)), g) else none
  | _, _ => none
def sCount (i : Nat) (fv : M (Tw × G) D) : SM (Tw × G) := sDo fv fun v => sDo (mTwn i) fun _ => fun sl g => match v with
  | .int z => some (.nx, sl, ({ g.1 with ct := z }, g.2))
  | _ => none
def sRest (i : Nat) (fk fv : M (Tw × G) D) : SM (Tw × G) := sDo fv fun v => sDo (mTwn i) fun t => sDo fk fun k => fun sl g => match k, v with
  | .int z, .int y => if g.1.tn = t.tn ∧ g.1.rs.length < LIM then some (.nx, sl, ({ g.1 with rs := rsPut g.1.rs z y }, g.2)) else none
  | _, _ => none
end
theorem rsV_get (rs : List (Int × Int)) (k : Int) : valV (rsV rs) (.inl k) = (rsGet rs k).map V.int := by
  unfold valV rsV rsGet
  induction rs with
  | nil => rfl
  | cons p rs ih =>
    rw [List.map_cons, List.find?_cons, List.find?_cons]
    by_cases h : p.1 = k
    · simp [h]
    · have h2 : ¬ ((Sum.inl p.1 : Key) = Sum.inl k) := fun z => h (Sum.inl.inj z)
      simp only [h, h2, decide_false]
      exact ih
theorem rsV_put (rs : List (Int × Int)) (k v : Int) : putK (rsV rs) (.inl k) (.int v) = rsV (rsPut rs k v) := by
  unfold putK rsV rsPut
  have h1 : ((rs.map fun p => ((.inl p.1 : Key), V.int p.2)).any fun kv => decide (kv.1 = .inl k)) = rs.any fun p => decide (p.1 = k) := by
    rw [List.any_map]
    congr 1
    funext p
    by_cases h : p.1 = k
    · simp [h]
    · have h2 : ¬ ((Sum.inl p.1 : Key) = Sum.inl k) := fun z => h (Sum.inl.inj z)
      simp [h, h2]
  rw [h1]
  split
  · rw [List.map_map, List.map_map]
    congr 1
    funext p
    show (if (Sum.inl p.1 : Key) = Sum.inl k then _ else _) = _
    by_cases h : p.1 = k
    · rw [if_pos (by rw [h])]; simp [h]
    · have h2 : ¬ ((Sum.inl p.1 : Key) = Sum.inl k) := fun z => h (Sum.inl.inj z)
      rw [if_neg h2]; simp [h]
  · rw [List.map_append]; rfl

/-! the rules -/
variable {E : Ent (TW X.K Vw)} {Wx : WX} {e a b c : Expr} {pos p ap cp : Pos} {fe fa fb fc : M (Tw × Vw.G) D}
theorem scr_inv {G : Type} {i : Nat} {sl : SL} {g : Tw × G} {α β : Type} {k : List Int → M (Tw × G) α} {m : Res α × (Tw × G)} (h : M.bind (mScr i) k sl g = some m) : sl[i]? = some (some (.d (.ref g.1.sc))) ∧ k g.1.ns sl g = some m := by
  unfold M.bind mScr at h
  match e : sl[i]? with
  | some (some (.d (.ref a))) =>
    rw [e] at h
    by_cases ha : a = g.1.sc
    · simp only [ha, if_true] at h ⊢
      exact ⟨trivial, h⟩
    · simp only [ha, if_false] at h
      cases h
  | some (some (.d .non)) => rw [e] at h; cases h
  | some (some (.d (.bl _))) => rw [e] at h; cases h
  | some (some (.d (.int _))) => rw [e] at h; cases h
  | some (some (.d (.str _))) => rw [e] at h; cases h
  | some (some (.d (.tup _))) => rw [e] at h; cases h
  | some (some (.d (.lst _))) => rw [e] at h; cases h
  | some (some (.oL y)) => rw [e] at h; cases h
  | some (some (.oK y)) => rw [e] at h; cases h
  | some (some (.oT y)) => rw [e] at h; cases h
  | some (some (.kK y)) => rw [e] at h; cases h
  | some none => rw [e] at h; cases h
  | none => rw [e] at h; cases h
theorem twn_inv {G : Type} {i : Nat} {sl : SL} {g : Tw × G} {α β : Type} {k : Tw → M (Tw × G) α} {m : Res α × (Tw × G)} (h : M.bind (mTwn i) k sl g = some m) : ∃ t q, sl[i]? = some (some (.d (.ref t))) ∧ g.1.tn = some (t, q) ∧ k g.1 sl g = some m := by
  unfold M.bind mTwn at h
  match e : sl[i]? with
  | some (some (.d (.ref a))) =>
    rw [e] at h
    by_cases ha : g.1.tn.map (·.1) = some a
    · simp only [ha, if_true] at h
      obtain ⟨⟨t, q⟩, e1, rfl⟩ := Option.map_eq_some_iff.mp ha
      exact ⟨t, q, rfl, e1, h⟩
    · simp only [ha, if_false] at h
      cases h
  | some (some (.d .non)) => rw [e] at h; cases h
  | some (some (.d (.bl _))) => rw [e] at h; cases h
  | some (some (.d (.int _))) => rw [e] at h; cases h
  | some (some (.d (.str _))) => rw [e] at h; cases h
  | some (some (.d (.tup _))) => rw [e] at h; cases h
  | some (some (.d (.lst _))) => rw [e] at h; cases h
  | some (some (.oL y)) => rw [e] at h; cases h
  | some (some (.oK y)) => rw [e] at h; cases h
  | some (some (.oT y)) => rw [e] at h; cases h
  | some (some (.kK y)) => rw [e] at h; cases h
  | some none => rw [e] at h; cases h
  | none => rw [e] at h; cases h
theorem go_some {Z : Cn} {α β : Type} {Rl : Z.W.G → Hp → Hp → β → α → Prop} {σ : St} {m : Out Z.W.G α} {H Hf : Hp} {g : Z.W.G} {Q : β → Hp → Prop} (h : go Z Rl Wx σ m H Hf g Q) : ∃ r, m = some r := by
  match m, h with
  | some r, _ => exact ⟨r, rfl⟩
theorem go_scr {α β : Type} {Rl : (TW X.K Vw).G → Hp → Hp → β → α → Prop} {σ : St} {sl : SL} {H Hf : Hp} {g : Tw × Vw.G} {i : Nat} {k : List Int → M (Tw × Vw.G) α} {Q : β → Hp → Prop} (r : R X.K E H Hf g sl σ) (h : go (TZ X.K Vw cls) Rl Wx σ (M.bind (mScr i) k sl g) H Hf g Q) :
    σ[i]? = some (some (.ref g.1.sc)) ∧ SqL X.K H g.1.sc (g.1.ns.map V.int) ∧ go (TZ X.K Vw cls) Rl Wx σ (k g.1.ns sl g) H Hf g Q := by
  obtain ⟨m, em⟩ := go_some h
  obtain ⟨h1, h2⟩ := scr_inv (β := β) em
  obtain ⟨v, h3, h4⟩ := r.slot i _ h1
  cases h4
  exact ⟨h3, r.base.rep.1.sq, by rw [em] at h; rw [h2]; exact h⟩
theorem go_twn {α β : Type} {Rl : (TW X.K Vw).G → Hp → Hp → β → α → Prop} {σ : St} {sl : SL} {H Hf : Hp} {g : Tw × Vw.G} {i : Nat} {k : Tw → M (Tw × Vw.G) α} {Q : β → Hp → Prop} (r : R X.K E H Hf g sl σ) (h : go (TZ X.K Vw cls) Rl Wx σ (M.bind (mTwn i) k sl g) H Hf g Q) :
    ∃ t q, σ[i]? = some (some (.ref t)) ∧ g.1.tn = some (t, q) ∧ go (TZ X.K Vw cls) Rl Wx σ (k g.1 sl g) H Hf g Q := by
  obtain ⟨m, em⟩ := go_some h
  obtain ⟨t, q, h1, ht, h2⟩ := twn_inv (β := β) em
  obtain ⟨v, h3, h4⟩ := r.slot i _ h1
  cases h4
  exact ⟨t, q, h3, ht, by rw [em] at h; rw [h2]; exact h⟩
theorem goS_twn {σ : St} {sl : SL} {H Hf : Hp} {g : Tw × Vw.G} {i : Nat} {k : Tw → SM (Tw × Vw.G)} {D : Ends} (r : R X.K E H Hf g sl σ) (h : goS (TZ X.K Vw cls) X.K E Wx Hf (sDo (mTwn i) k sl g) D) :
    ∃ t q, σ[i]? = some (some (.ref t)) ∧ g.1.tn = some (t, q) ∧ goS (TZ X.K Vw cls) X.K E Wx Hf (k g.1 sl g) D := by
  have e1 : ∃ t q, sl[i]? = some (some (.d (.ref t))) ∧ g.1.tn = some (t, q) ∧ goS (TZ X.K Vw cls) X.K E Wx Hf (k g.1 sl g) D := by
    unfold sDo mTwn at h
    match e : sl[i]? with
    | some (some (.d (.ref a))) =>
      rw [e] at h
      by_cases ha : g.1.tn.map (·.1) = some a
      · simp only [ha, if_true] at h
        obtain ⟨⟨t, q⟩, e1, rfl⟩ := Option.map_eq_some_iff.mp ha
        exact ⟨t, q, rfl, e1, h⟩
      · simp only [ha, if_false] at h
        exact h.elim
    | some (some (.d .non)) => rw [e] at h; exact h.elim
    | some (some (.d (.bl _))) => rw [e] at h; exact h.elim
    | some (some (.d (.int _))) => rw [e] at h; exact h.elim
    | some (some (.d (.str _))) => rw [e] at h; exact h.elim
    | some (some (.d (.tup _))) => rw [e] at h; exact h.elim
    | some (some (.d (.lst _))) => rw [e] at h; exact h.elim
    | some (some (.oL y)) => rw [e] at h; exact h.elim
    | some (some (.oK y)) => rw [e] at h; exact h.elim
    | some (some (.oT y)) => rw [e] at h; exact h.elim
    | some (some (.kK y)) => rw [e] at h; exact h.elim
    | some none => rw [e] at h; exact h.elim
    | none => rw [e] at h; exact h.elim
  obtain ⟨t, q, h1, ht, h2⟩ := e1
  obtain ⟨v, h3, h4⟩ := r.slot i _ h1
  cases h4
  exact ⟨t, q, h3, ht, h2⟩
theorem de_scrlen (i : Nat) {x : Str} {p2 : Pos} (hg : Gl X "len") (hm : X.mg "len" = none) (hN : X.N[i]? = some x := by rfl) (hv : Vis X.env.scope x := by first | exact Or.inl rfl | exact Or.inr (Or.inl rfl) | exact Or.inr (Or.inr rfl)) (hd : (x == ("__debug__" : Str)) = false := by decide)
    (hcd : (x == ("__classdict__" : Str)) = false := by decide) (hs : starEach [.Name x p2] X.env = (false, eval (.Name x p2) X.env) :: starEach [] X.env := by rfl) (hpl : (backTo pos (starEach [] X.env)).any (·.1) = false := by rfl) : DE X (TZ X.K Vw cls) E Wx (.Call (.Name "len" p) [.Name x p2] [] pos) (eScrLen i) := by
  refine PE.imp (pe_callB call_len hg hm bt_len (pa_cons (pe_var hN hv hd hcd) pa_nil hs) (by decide) (by decide) hs hpl) fun σ H Q ⟨Hf, g, sl, r, q⟩ => ?_
  obtain ⟨h1, h2, q1⟩ := go_scr r q
  exact ⟨_, h1, _, g.1.ns.length, rfl, .inl ⟨_, h2, by simp⟩, go_pure q1 _ _ _ r.base.self (.int _)⟩
theorem dt_scr (i : Nat) {x : Str} (hN : X.N[i]? = some x := by rfl) (hv : Vis X.env.scope x := by first | exact Or.inl rfl | exact Or.inr (Or.inl rfl) | exact Or.inr (Or.inr rfl)) (hd : (x == ("__debug__" : Str)) = false := by decide)
    (hcd : (x == ("__classdict__" : Str)) = false := by decide) (he : ∀ whole, isTrue (.Name x pos) X.env whole = (do let v ← whole; standAt (Expr.Name x pos).pos; holding [v] (truthy v)) := by intro _; rfl) : DT X (TZ X.K Vw cls) E Wx (.Name x pos) (tScr i) := by
  refine PT.imp (pt_truth (pe_var hN hv hd hcd) he) fun σ H Q ⟨Hf, g, sl, r, q⟩ => ?_
  obtain ⟨h1, h2, q1⟩ := go_scr r q
  refine ⟨_, h1, _, .inl ⟨_, h2, ?_⟩, go_pure q1 _ _ _ r.base.self rfl⟩
  cases g.1.ns <;> rfl
theorem de_scrat (i : Nat) {x : Str} (hb : DR X (TZ X.K Vw cls) E Wx b fb) (hN : X.N[i]? = some x := by rfl) (hv : Vis X.env.scope x := by first | exact Or.inl rfl | exact Or.inr (Or.inl rfl) | exact Or.inr (Or.inr rfl)) (hd : (x == ("__debug__" : Str)) = false := by decide)
    (hcd : (x == ("__classdict__" : Str)) = false := by decide) (hs : PlainIx b := by intro _ _; rfl) : DE X (TZ X.K Vw cls) E Wx (.Subscript (.Name x p) b pos) (eScrAt i fb) := by
  refine PE.imp (pe_ix ix_seq (pe_var hN hv hd hcd) hb hs) fun σ H Q ⟨Hf, g, sl, r, q⟩ => ?_
  obtain ⟨h1, h2, q1⟩ := go_scr r q
  refine ⟨_, h1, Hf, g, sl, r, (go_bind (Rm := RlR X.K) q1).mono fun y H2 ⟨Hf2, g2, b, b2, d2, q2⟩ => ?_⟩
  obtain ⟨h3, h4, q3⟩ := go_scr (r.step b2) q2
  rw [h1] at h3
  have hsc : g.1.sc = g2.1.sc := by injection h3 with h3; injection h3 with h3; injection h3
  obtain ⟨d, ed, k⟩ := go_lift q3
  match b, ed, d2 with
  | .int z, ed, d2 =>
    obtain rfl := d2.int
    obtain ⟨n, en, rfl⟩ := Option.map_eq_some_iff.mp ed
    refine .inl ⟨_, _, z, .int n, rfl, rfl, by rw [hsc]; exact h4, ?_, k _ _ _ b2.self (.int n)⟩
    obtain ⟨j, e1, e2⟩ := atI_iff.mp en
    exact atI_iff.mpr ⟨j, by simpa using e1, by simp [e2]⟩
theorem cr_ne : ¬ (("count" : Str) = "rests") := by decide +kernel
theorem rc_ne : ¬ (("rests" : Str) = "count") := by decide +kernel
theorem tn_count (n : Int) (q : Addr) : valV (tnV n q) (.inr "count") = some (.int n) := by unfold tnV; rw [valV_pos rfl]
theorem tn_rests (n : Int) (q : Addr) : valV (tnV n q) (.inr "rests") = some (.ref q) := by
  unfold tnV
  rw [valV_neg (fun z => cr_ne (Sum.inr.inj z)), valV_pos rfl]
theorem tn_put (n m : Int) (q : Addr) : putK (tnV n q) (.inr "count") (.int m) = tnV m q := by
  unfold putK tnV
  rw [if_pos (by simp)]
  simp only [List.map_cons, List.map_nil, if_true]
  rw [if_neg (fun z => rc_ne (Sum.inr.inj z))]
theorem de_count (i : Nat) {x : Str} {j : Nat} {p2 : Pos} (hu : X.A.units + 1 < cLine) (hN : X.N[i]? = some x := by rfl) (hv : Vis X.env.scope x := by first | exact Or.inl rfl | exact Or.inr (Or.inl rfl) | exact Or.inr (Or.inr rfl)) (hd : (x == ("__debug__" : Str)) = false := by decide)
    (hcd : (x == ("__classdict__" : Str)) = false := by decide) (hs : NoSl (.Constant (.str "count") j p2) := by intro _ _; rfl) : DE X (TZ X.K Vw cls) E Wx (.Subscript (.Name x p) (.Constant (.str "count") j p2) pos) (eCount i) := by
  refine PE.imp (pe_dget hu (pe_var hN hv hd hcd) pe_str hs) fun σ H Q ⟨Hf, g, sl, r, q⟩ => ?_
  obtain ⟨t, q0, h1, ht, q1⟩ := go_twn r q
  obtain ⟨h2, _⟩ := r.base.rep.1.tn t q0 ht
  exact ⟨_, h1, t, .int g.1.ct, rfl, by rw [← tn_count g.1.ct q0]; exact DGet.k (k := .inr "count") h2, go_pure q1 _ _ _ r.base.self (.int _)⟩
theorem de_rest (i : Nat) {x : Str} {j : Nat} {p1 p2 p3 : Pos} (hu : X.A.units + 1 < cLine) (ha : DE X (TZ X.K Vw cls) E Wx a fa) (hb : DE X (TZ X.K Vw cls) E Wx b fb) (hN : X.N[i]? = some x := by rfl) (hv : Vis X.env.scope x := by first | exact Or.inl rfl | exact Or.inr (Or.inl rfl) | exact Or.inr (Or.inr rfl)) (hd : (x == ("__debug__" : Str)) = false := by decide)
    (hcd : (x == ("__classdict__" : Str)) = false := by decide) (hs : NoSl (.Constant (.str "rests") j p2) := by intro _ _; rfl) (m : M2 X (.Subscript (.Name x p1) (.Constant (.str "rests") j p2) p3) "get" ap a b cp := by exact ⟨rfl, rfl, rfl, rfl⟩) :
    DE X (TZ X.K Vw cls) E Wx (.Call (.Attribute (.Subscript (.Name x p1) (.Constant (.str "rests") j p2) p3) "get" ap) [a, b] [] cp) (eRest i fa fb) := by
  refine PE.imp (pe_dget2 hu (pe_dget hu (pe_var hN hv hd hcd) pe_str hs) ha hb m) fun σ H Q ⟨Hf, g, sl, r, q⟩ => ?_
  obtain ⟨t, q0, h1, ht, q1⟩ := go_twn r q
  obtain ⟨h2, h3, _⟩ := r.base.rep.1.tn t q0 ht
  refine ⟨_, h1, t, .ref q0, rfl, by rw [← tn_rests g.1.ct q0]; exact DGet.k (k := .inr "rests") h2, q0, rfl, .inl ⟨_, .inl h3⟩, Hf, g, sl, r, (go_bind (Rm := RlD X.K) q1).mono fun y H2 ⟨Hf2, g2, kd, b2, d2, q2⟩ => ⟨Hf2, g2, sl, r.step b2, (go_bind (Rm := RlD X.K) q2).mono fun z H3 ⟨Hf3, g3, dd, b3, d3, q3⟩ => ?_⟩⟩
  match kd, dd, d2, d3, q3 with
  | .int k, .int d, d2, d3, q3 =>
    cases d2
    cases d3
    simp only at q3
    split at q3
    · rename_i htn
      obtain ⟨_, h4, _⟩ := b3.rep.1.tn t q0 (by rw [htn]; exact ht)
      refine ⟨_, DGet.k (k := .inl k) h4, ?_⟩
      rw [rsV_get]
      refine q3 _ _ _ b3.self ?_
      cases rsGet g3.1.rs k <;> exact .int _
    · exact q3.elim
theorem ds_count (i : Nat) {x : Str} {j : Nat} {p2 pt : Pos} (hu : X.A.units + 1 < cLine) (he : DE X (TZ X.K Vw cls) E Wx e fe) (hN : X.N[i]? = some x := by rfl) (hv : Vis X.env.scope x := by first | exact Or.inl rfl | exact Or.inr (Or.inl rfl) | exact Or.inr (Or.inr rfl)) (hd : (x == ("__debug__" : Str)) = false := by decide)
    (hcd : (x == ("__classdict__" : Str)) = false := by decide) (hs : swapsWith e (some (.Subscript (.Name x p) (.Constant (.str "count") j p2) pt)) pos.line X.env = pure false := by rfl) : DS X (TZ X.K Vw cls) E Wx (.Assign [.Subscript (.Name x p) (.Constant (.str "count") j p2) pt] e pos) (sCount i fe) := by
  refine PS.imp (ps_dput hu (pe_var hN hv hd hcd) pe_str he hs) fun D σ H ⟨Hf, g, sl, r, q⟩ => ?_
  refine ⟨Hf, g, sl, r, (goS_do (Rl := RlD X.K) r q).mono fun v H1 ⟨Hf1, g1, d, b1, r1, d1, q1⟩ => ?_⟩
  obtain ⟨t, q0, h1, ht, q2⟩ := goS_twn r1 q1
  obtain ⟨h2, _⟩ := r1.base.rep.1.tn t q0 ht
  refine ⟨_, h1, t, _, rfl, DPut.k (k := .inr "count") h2 (by show 2 < sizeLine; decide), ?_⟩
  match d, d1, q2 with
  | .int z, d1, q2 =>
    cases d1
    rw [tn_put]
    exact q2 σ _ Hf1 (same_refl _) (r1.step (base_count z r1.base.self ht))
theorem ds_rest (i : Nat) {x : Str} {j : Nat} {p1 p2 p3 p4 : Pos} (hu : X.A.units + 1 < cLine) (ha : DE X (TZ X.K Vw cls) E Wx a fa) (he : DE X (TZ X.K Vw cls) E Wx e fe) (hN : X.N[i]? = some x := by rfl) (hv : Vis X.env.scope x := by first | exact Or.inl rfl | exact Or.inr (Or.inl rfl) | exact Or.inr (Or.inr rfl)) (hd : (x == ("__debug__" : Str)) = false := by decide)
    (hcd : (x == ("__classdict__" : Str)) = false := by decide) (hsl : NoSl (.Constant (.str "rests") j p2) := by intro _ _; rfl) (hs : swapsWith e (some (.Subscript (.Subscript (.Name x p1) (.Constant (.str "rests") j p2) p3) a p4)) pos.line X.env = pure false := by rfl) :
    DS X (TZ X.K Vw cls) E Wx (.Assign [.Subscript (.Subscript (.Name x p1) (.Constant (.str "rests") j p2) p3) a p4] e pos) (sRest i fa fe) := by
  refine PS.imp (ps_dput hu (pe_dget hu (pe_var hN hv hd hcd) pe_str hsl) ha he hs) fun D σ H ⟨Hf, g, sl, r, q⟩ => ?_
  refine ⟨Hf, g, sl, r, (goS_do (Rl := RlD X.K) r q).mono fun v H1 ⟨Hf1, g1, d, b1, r1, d1, q1⟩ => ?_⟩
  obtain ⟨t, q0, h1, ht, q2⟩ := goS_twn r1 q1
  obtain ⟨h2, _⟩ := r1.base.rep.1.tn t q0 ht
  refine ⟨_, h1, t, .ref q0, rfl, by rw [← tn_rests g1.1.ct q0]; exact DGet.k (k := .inr "rests") h2, Hf1, g1, sl, r1, (goS_do (Rl := RlD X.K) r1 q2).mono fun y H2 ⟨Hf2, g2, kd, b2, r2, d2, q3⟩ => ?_⟩
  match kd, d, d2, d1, q3 with
  | .int k, .int z, d2, d1, q3 =>
    cases d2
    cases d1
    simp only at q3
    split at q3
    · rename_i htn
      have ht2 : g2.1.tn = some (t, q0) := by rw [htn.1]; exact ht
      obtain ⟨_, h4, _⟩ := r2.base.rep.1.tn t q0 ht2
      refine ⟨q0, _, rfl, DPut.k (k := .inl k) h4 ?_, ?_⟩
      · unfold rsV; rw [List.length_map]; exact lim_lt (Nat.le_of_lt htn.2)
      · rw [rsV_put]
        exact q3 σ _ Hf2 (same_refl _) (r2.step (base_rests _ r2.base.self ht2))
    · exact q3.elim
end
end DL
namespace DL
open PySem L2
section
variable {X : Cx} {Vw : Wd} {cls : Nat → Value}
/-! ### the town is made; the law -/
def begG {G : Type} (g : Tw × G) (t q : Addr) : Tw × G := ({ g.1 with tn := some (t, q), ct := 0, rs := [] }, g.2)
def spBeg (K : PySem.W.Frag) (Vw : Wd) : Sp := fun vs H Q Ex => vs.length = 0 ∧ ∃ (Hf : Hp) (g : Tw × Vw.G), Base (TW K Vw) H Hf g H Hf g ∧ g.1.tn = none ∧ ∀ t q H', Base (TW K Vw) H Hf g H' Hf (begG g t q) → Q (.ref t) H'
theorem base_beg {K : PySem.W.Frag} {H Hf : Hp} {g : Tw × Vw.G} {t q : Addr} (b : Base (TW K Vw) H Hf g H Hf g) (hn : g.1.tn = none) (ht : H t = none) (hq : H q = none) (hne : t ≠ q) : Base (TW K Vw) H Hf g (upd (upd (upd H t (.dK [])) q (.dK [])) t (.dK (tnV 0 q))) Hf (begG g t q) := by
  have hS : ∀ x, x ≠ t → x ≠ q → upd (upd (upd H t (.dK [])) q (.dK [])) t (.dK (tnV 0 q)) x = H x := fun x h1 h2 => by rw [upd_ne h1, upd_ne h2, upd_ne h1]
  have hO : ∀ x, H x ≠ none → x ≠ t ∧ x ≠ q := fun x hx => ⟨fun e => by subst e; exact hx ht, fun e => by subst e; exact hx hq⟩
  have hfp : ∀ x, g.1.fp x → x ≠ t ∧ x ≠ q := fun x hx => hO x (b.rep.1.there hx)
  have hfp2 : ∀ x, Vw.fp g.2 x → x ≠ t ∧ x ≠ q := fun x hx => hO x (Vw.there g.2 H _ x b.rep.2.1 hx)
  refine b.world ⟨⟨?_, fun hi => ?_, fun t' q' e => ?_⟩, ?_, ?_⟩ ?_ ?_ ?_
  · have := b.rep.1.s
    show SqL K (if g.1.inn = true then _ else _) g.1.sc (g.1.ns.map V.int)
    by_cases hi : g.1.inn = true
    · rw [if_pos hi] at this ⊢
      have := hO _ (b.rep.1.th hi)
      exact sql_loc ‹_› (hS _ this.1 this.2)
    · rw [if_neg hi] at this ⊢
      exact this
  · have := hO _ (b.rep.1.th hi)
    show _ ≠ none
    rw [show upd (upd (upd H t (.dK [])) q (.dK [])) t (.dK (tnV 0 q)) (begG g t q).1.sc = H g.1.sc from hS _ this.1 this.2]; exact b.rep.1.th hi
  · have e2 : some (t, q) = some (t', q') := e
    cases e2
    refine ⟨upd_same, ?_, hne, fun hi => ?_⟩
    · rw [upd_ne hne.symm, upd_same]; rfl
    · have := hO _ (b.rep.1.th hi)
      exact this
  · exact Wd.loc1 b.rep.2.1 fun x hx => hS x (hfp2 x hx).1 (hfp2 x hx).2
  · intro x hx hv
    have h2 := hfp2 x hv
    rcases hx with ⟨hi, rfl⟩ | ⟨t', q', e, hb⟩
    · exact b.rep.2.2 _ (.inl ⟨hi, rfl⟩) hv
    · have e2 : some (t, q) = some (t', q') := e
      cases e2
      rcases hb with rfl | rfl
      · exact h2.1 rfl
      · exact h2.2 rfl
  · intro x o h _
    have := hO x (by rw [h]; simp)
    rw [hS x this.1 this.2]; exact h
  · intro x hx
    rcases hx with hx | hx
    · rcases hx with ⟨hi, rfl⟩ | ⟨t', q', e, hb⟩
      · exact .inl (.inl (.inl ⟨hi, rfl⟩))
      · have e2 : some (t, q) = some (t', q') := e
        cases e2
        rcases hb with rfl | rfl
        · exact .inr ht
        · exact .inr hq
    · exact .inl (.inr hx)
  · intro x hx
    have := hO x hx
    rw [hS x this.1 this.2]; exact hx
abbrev tBeg : TS := tRet (tDisp [(tC (.str "count"), tC (.int 0)), (tC (.str "rests"), tDNewK)])
theorem ok_beg {P : Program} {w : World} {K : PySem.W.Frag} {mg : Str → Option Value} {base : Heap} {x qual : Str} {st : Stmt} {f : Addr} {fd : FuncData} {k : Nat} (F : Fun K x qual st f fd) (S : FnScope [] [] (defScope st))
    (body : ∀ (cdv : Value) (A : Around) (outer : List Env) (s : Shared) (H : Hp) (Ex : XK), PSs (cxOf (L2.CX P w) P w K mg base [] qual (defScope st) f cdv A outer s H Ex) (defBody st) tBeg) :
    FnOk P w K mg base (L2.CX P w) (k + 1) f fd [] (spBeg K Vw) := by
  refine F.okX S (fun vs H Q E h => h.1) fun cdv A outer s H vs Q Ex hr ⟨hv, Hf, g, B, hn, q⟩ => ⟨_, body cdv A outer s H Ex, ?_⟩
  intro p hp
  intro q0 hq0
  have hne : p ≠ q0 := fun e => by subst e; rw [upd_same] at hq0; cases hq0
  refine ⟨by rw [upd_ne hne, upd_same], [(.inr "count", .int 0), (.inr "rests", .ref q0)], rfl, by simp, ?_⟩
  have hm : mergeK [] [((.inr "count" : Key), V.int 0), (.inr "rests", .ref q0)] = tnV 0 q0 := by
    unfold mergeK
    rw [List.foldl_cons, List.foldl_cons, List.foldl_nil]
    have h1 : putK ([] : List (Key × V)) (.inr "count") (.int 0) = [(.inr "count", .int 0)] := rfl
    rw [h1, putK_new _ (by rw [valV_neg (fun z => cr_ne (Sum.inr.inj z))]; rfl)]
    rfl
  rw [hm]
  refine q p q0 _ (base_beg B hn hp ?_ hne)
  rw [upd_ne hne.symm] at hq0
  exact hq0
/-- f(), f the town's maker -/
theorem pe_beg {k : Nat} {f : Addr} {fd : FuncData} {x : Str} {p pos : Pos} {Wx : WX} (G : FnOk X.prog X.w X.K X.mg X.base (L2.CX X.prog X.w) k f fd [] (spBeg X.K Vw)) (hr : Room k X.A) (hg : Gl X x) (hm : X.mg x = some (.ref f)) (hk : PySem.W.keepIn X.K (.ref f) = true) (hb : Binds X.K fd [] [])
    (tk : Takes X Wx) (hdb : (x == ("__debug__" : Str)) = false := by decide) : PE X (.Call (.Name x p) [] [] pos) (fun σ H Q => spBeg X.K Vw [] H Q fun _ _ _ => False) := by
  refine ⟨fun pins s σ H Q I q => ?_⟩
  refine wpAny_Call_Name_kw (ld_glob I hg hm ?_ hdb)
  refine PySem.W.callWith_K0 I.kIn hk (run_fnS (us := []) (vs := []) (E := WE Wx) G hr hb (passAt tk σ) I .nil ?_)
  obtain ⟨h1, Hf, g, B, hn, k⟩ := q
  exact ⟨h1, Hf, g, B, hn, k⟩
def spLaw (K : PySem.W.Frag) : Sp := fun vs H Q _ => ∃ (a : Addr) (ns : List Int), vs = [.ref a] ∧ SqL K H a (ns.map V.int) ∧ ns.length ≤ 63 ∧ ∀ H', Q (.bl true) H'
def lawG {G : Type} (v0 : G) (inn : Bool) (a : Addr) (ns : List Int) (t q : Addr) : Tw × G := (⟨inn, a, ns, some (t, q), 0, []⟩, v0)
theorem law_ok {P : Program} {w : World} {K : PySem.W.Frag} {mg : Str → Option Value} {base : Heap} {x qual : Str} {st st0 : Stmt} {rest : List Stmt} {f : Addr} {fd : FuncData} {N : List Str} {k : Nat} {fs : SM (Tw × Vw.G)} (i : Nat) (v0 : Vw.G) (hv : ∀ H, Vw.rep v0 H (fun _ => none)) (hf : ∀ b, ¬ Vw.fp v0 b)
    (F : Fun K x qual st f fd) (S : FnScope N ["script"] (defScope st)) (hl : 1 ≤ N.length) (hb : defBody st = st0 :: rest)
    (body0 : ∀ (cdv : Value) (A : Around) (outer : List Env) (s : Shared) (H : Hp) (Ex : XK), Room k (A.deeper (PyProof.Rows.envOfC qual (defScope st) s.heap.objs.size f cdv)) →
      PS (cxOf (L2.CX P w) P w K mg base N qual (defScope st) f cdv A outer s H Ex) st0 (tAsg (fun σ H Q => spBeg K Vw [] H Q fun _ _ _ => False) (gName i)))
    (body : ∀ (cdv : Value) (A : Around) (outer : List Env) (s : Shared) (H : Hp) (E : Ent (TW K Vw)) (Ex : XK), Room k (A.deeper (PyProof.Rows.envOfC qual (defScope st) s.heap.objs.size f cdv)) →
      DSs (cxOf (L2.CX P w) P w K mg base N qual (defScope st) f cdv A outer s H Ex) (TZ K Vw cls) E (fun cls d _ H => Ex cls d H) rest fs)
    (law : ∀ (inn : Bool) (a : Addr) (ns : List Int) (t q : Addr), ns.length ≤ 63 → ∃ sl' g', fs ((some (.d (.ref a)) :: List.replicate (N.length - 1) none).set i (some (.d (.ref t)))) (lawG v0 inn a ns t q) = some (.rt (.bl true), sl', g')) :
    FnOk P w K mg base (L2.CX P w) (k + 1) f fd ["script"] (spLaw K) := by
  refine F.okX S (fun vs H Q E ⟨a, ns, h, _⟩ => by rw [h]; rfl) fun cdv A outer s H vs Q Ex hr ⟨a, ns, ev, hs, hn, q⟩ => ?_
  subst ev
  have hinn : ∃ inn : Bool, (inn = true → H a ≠ none) ∧ SqL K (if inn = true then H else fun _ => none) a (ns.map V.int) := by
    cases e : H a with
    | none =>
      refine ⟨false, (fun h => nomatch h), ?_⟩
      exact sql_loc (H := H) hs (by rw [e]; rfl)
    | some o => exact ⟨true, fun _ => by simp, hs⟩
  obtain ⟨inn, hi1, hi2⟩ := hinn
  let g0 : Tw × Vw.G := (⟨inn, a, ns, none, 0, []⟩, v0)
  have B0 : Base (TW K Vw) H (fun _ => none) g0 H (fun _ => none) g0 := .refl (fun _ _ h => by cases h) ⟨⟨hi2, hi1, fun t q h => by cases h⟩, hv H, fun b _ => hf b⟩ (fun _ _ => rfl)
  have hbody : PSs (cxOf (L2.CX P w) P w K mg base N qual (defScope st) f cdv A outer s H Ex) (defBody st) (tSeq (tAsg (fun σ H Q => spBeg K Vw [] H Q fun _ _ _ => False) (gName i)) (tS (TZ K Vw cls) K ⟨H, fun _ => none, g0⟩ (fun cls d _ H => Ex cls d H) fs)) := by
    rw [hb]
    exact pss_cons (body0 cdv A outer s H Ex hr) (body cdv A outer s H ⟨H, fun _ => none, g0⟩ Ex hr)
  refine ⟨_, hbody, ?_⟩
  refine ⟨rfl, _, g0, B0, rfl, fun t q0 H' B => ?_⟩
  refine ⟨fun _ => none, begG g0 t q0, (some (.d (.ref a)) :: List.replicate (N.length - 1) none).set i (some (.d (.ref t))), ?_, ?_⟩
  · have r0 : R (W := TW K Vw) K ⟨H, fun _ => none, g0⟩ H (fun _ => none) g0 (some (.d (.ref a)) :: List.replicate (N.length - 1) none) (L2.start N [.ref a]) :=
      start_R (Z := TZ K Vw cls) (P := P) (K := K) (ds := [.ref a]) B0 (.cons (.ref a) .nil) hl
    exact (r0.step B).setd i (.ref t)
  · obtain ⟨sl', g', e⟩ := law inn a ns t q0 hn
    have e' : fs ((some (.d (.ref a)) :: List.replicate (N.length - 1) none).set i (some (.d (.ref t)))) (begG g0 t q0) = some (.rt (.bl true), sl', g') := e
    rw [e']
    intro v H2 Hf2 b d
    cases d
    exact q H2
end
end DL
/-! sorted(set(texts)) -/
namespace L2
open PySem PySem.Spec PyProof.Rows
def txOf (v : Value) : Str := match v with
  | .str k _ => k
  | _ => Str.empty
def txE (e : Int × Value) : Str := txOf e.2
abbrev emptySetO (w : World) : Obj := { cls := .type "set", dict := none, data := .set #[] 0 (.fresh 0 0 (!w.params.followText "set-order")) }
/-- the rows of a table of texts -/
def TxRow (w : World) (e : Int × Value) : Prop := ∃ k tk, e.2 = Value.str k tk ∧ e.1 = hashStr w k
structure TxTab (w : World) (ms : List Str) (es : Array (Int × Value)) (t : SetTable) : Prop where
  row : ∀ e ∈ es.toList, TxRow w e
  nd : (es.toList.map txE).Nodup
  mem : ∀ k, k ∈ ms ↔ k ∈ es.toList.map txE
  few : es.size ≤ ms.length
  bd : es.size < scanBound
  fit : t.fits es.size = true
  ris : Ris t.place.toList
  led : w.params.followText "set-order" = true ∨ t.led = true
def SetTx (w : World) (h : Heap) (a : Addr) (ms : List Str) : Prop := ∃ o es ep t, h.get? a = some o ∧ o.ExactSet ∧ o.data = .set es ep t ∧ TxTab w ms es t
section
variable {P : Program} {w : World}
theorem TxRow.elems {l : List (Int × Value)} (g : ∀ e ∈ l, TxRow w e) : ElemsOf (strKind P w) l := fun e he => by
  obtain ⟨k, tk, q1, q2⟩ := g e he
  exact ⟨⟨k, by rw [q1]; exact strKind_is P w k tk, q2⟩, by rw [q1] <;> rfl⟩
theorem TxRow.isK {e : Int × Value} (g : TxRow w e) (k : Str) : (strKind P w).is k e.2 = true ↔ txE e = k := by
  obtain ⟨k0, tk, q1, _⟩ := g
  unfold txE txOf
  rw [q1]
  constructor
  · intro z
    obtain ⟨t, ez⟩ := Value.isStrOf_shape (x := k) (v := Value.str k0 tk) z
    cases ez; rfl
  · intro z
    have z' : k0 = k := z
    subst z'
    exact strKind_is P w k0 tk
theorem TxRow.memK {l : List (Int × Value)} (g : ∀ e ∈ l, TxRow w e) (k : Str) : k ∈ l.map txE ↔ ∃ e ∈ l, (strKind P w).is k e.2 = true :=
  ⟨fun z => let ⟨e, he, q⟩ := List.mem_map.mp z; ⟨e, he, (TxRow.isK (g e he) k).2 q⟩, fun ⟨e, he, q⟩ => List.mem_map.mpr ⟨e, he, (TxRow.isK (g e he) k).1 q⟩⟩
theorem SetTx.at {h h' : Heap} {a : Addr} {ms : List Str} (R : SetTx w h a ms) (k : ∀ o, h.get? a = some o → h'.get? a = some o) : SetTx w h' a ms :=
  let ⟨o, es, ep, t, ho, r⟩ := R
  ⟨o, es, ep, t, k o ho, r⟩
theorem setTx_new {h : Heap} {a : Addr} (ho : h.get? a = some (emptySetO w)) : SetTx w h a [] := by
  refine ⟨_, #[], 0, _, ho, ⟨rfl, rfl, rfl⟩, rfl, ⟨fun e he => ?_, ?_, fun k => ?_, Nat.le_refl _, by decide, rfl, List.Pairwise.nil, ?_⟩⟩
  · cases he
  · exact List.Pairwise.nil
  · exact Iff.rfl
  · show _ ∨ (!w.params.followText "set-order") = true
    cases hq : w.params.followText "set-order" with
    | true => exact .inl rfl
    | false => exact .inr rfl
end
section
variable {P : Program} {w : World} {A : Around} {E : Value → Shared → Prop} {s : Shared} {a : Addr} {ms : List Str}
/-- the table is stored, and laid anew where it is too full -/
theorem txTail {g : Bool → Sem Unit} (hg : ∀ (b : Bool) (s₁ : Shared) (Q' : Unit → Shared → Prop), Q' () s₁ → wpAny (model P w) A (g b) Q' E s₁)
    {o : Obj} {es : Array (Int × Value)} {ep : Nat} {t : SetTable} (ho : s.heap.get? a = some o) (hex : o.ExactSet) (hd : o.data = .set es ep t) {es1 : Array (Int × Value)} {t2 : SetTable} (T : TxTab w ms es1 t2) {wasDummy : Bool} {R : Option Bool → Shared → Prop}
    (hR : ∀ h', Heap.SameBut a s.heap h' → SetTx w h' a ms → R (some true) { s with heap := h' }) :
    wpAny (model P w) A (do
        storeSet a es1 t2
        if (!wasDummy && t2.tooFull) = true then do
            g (relayAll t2 es1 (SetTable.grown es1.size)).2.2
            storeSet a (relayAll t2 es1 (SetTable.grown es1.size)).1 (relayAll t2 es1 (SetTable.grown es1.size)).2.1
            pure (some true)
          else pure (some true)) R E s := by
  have st1 := store_at (es' := es1) (t' := t2) ho hd
  have same1 := Heap.SameBut.update s.heap a (Obj.putSet es1 t2)
  refine wpAny_bind (wpAny_storeSet_of ho hd ?_ (fits_of_scanBound T.bd))
  split
  · have q1 := relayAll_perm t2 es1 (SetTable.grown es1.size)
    have q2 := relayAll_fits t2 es1 (SetTable.grown es1.size)
    have q3 := relayAll_ris t2 es1 (SetTable.grown es1.size)
    have q4 := relayAll_led t2 es1 (SetTable.grown es1.size)
    generalize relayAll t2 es1 (SetTable.grown es1.size) = Y at q1 q2 q3 q4 ⊢
    rcases Y with ⟨es2, t3, gv⟩
    dsimp only at q1 q2 q3 q4 ⊢
    have len : es2.size = es1.size := by have z := q1.length_eq; rwa [Array.length_toList, Array.length_toList] at z
    have bd2 : es2.size < scanBound := len ▸ T.bd
    have pk := q1.map txE
    refine wpAny_bind (hg _ _ _ (wpAny_bind (wpAny_storeSet_of st1 rfl ?_ (fits_of_scanBound bd2))))
    refine wpAny_pure (hR _ (same1.trans (Heap.SameBut.update _ a _)) ⟨_, es2, _, t3, store_at (es' := es2) (t' := t3) st1 rfl, hex, rfl, ?_⟩)
    exact { row := fun e he => T.row e (q1.mem_iff.mp he), nd := pk.nodup_iff.mpr T.nd, mem := fun k => (T.mem k).trans pk.mem_iff.symm, few := len ▸ T.few, bd := bd2, fit := q2, ris := q3, led := T.led.imp id fun z => q4.trans z }
  · exact wpAny_pure (hR _ same1 ⟨_, es1, _, t2, st1, hex, rfl, T⟩)
theorem setTx_add {k : Str} {tk : Tok} {Q : Bool → Shared → Prop} (R : SetTx w s.heap a ms) (room : ms.length + 1 < scanBound)
    (hQ : ∀ b h', Heap.SameBut a s.heap h' → SetTx w h' a (ms ++ [k]) → Q b { s with heap := h' }) : wpAny (model P w) A (setAddHashed a (.str k tk) ((strKind P w).hash k)) Q E s := by
  obtain ⟨o, es, ep, t, ho, hex, hd, T⟩ := R
  have isk : (strKind P w).is k (.str k tk) = true := strKind_is P w k tk
  have scan : (Value.str k tk).scannable = true := rfl
  have elems : ElemsOf (strKind P w) es.toList := TxRow.elems T.row
  unfold setAddHashed setAddHashedIn
  refine wpAny_holding (wpAny_bind (wpAny_setState_of ho hd T.fit ?_))
  dsimp only
  rw [byScan_of scan T.bd elems]
  simp only [↓reduceIte]
  unfold setAddByScan
  refine wpAny_bind (wpAny_bind (wpAny_rule (wpAny_bind (wpAny_setScan_of isk ho hd T.fit elems ?_))))
  cases found : List.findIdx? (fun e => (strKind P w).is k e.2) es.toList with
  | some j =>
    dsimp only
    obtain ⟨hj, pj, _⟩ := List.findIdx?_eq_some_iff_getElem.mp found
    have hk : k ∈ ms := (T.mem k).2 ((TxRow.memK (P := P) T.row k).2 ⟨_, List.getElem_mem hj, pj⟩)
    refine wpAny_pure (wpAny_pure (hQ _ s.heap (Heap.SameBut.refl a s.heap) ⟨o, es, ep, t, ho, hex, hd, { T with mem := fun i => ?_, few := ?_ }⟩))
    · rw [← T.mem i, List.mem_append, List.mem_singleton]
      exact ⟨fun z => z.elim id fun e => e ▸ hk, .inl⟩
    · rw [List.length_append]; exact Nat.le_trans T.few (Nat.le_add_right _ _)
  | none =>
    dsimp only
    have fresh : k ∉ es.toList.map txE := fun z => by
      obtain ⟨e, he, q⟩ := (TxRow.memK (P := P) T.row k).1 z
      have no := List.findIdx?_eq_none_iff.mp found e he
      rw [q] at no
      cases no
    have gw : ∀ (b : Bool) {s₁ : Shared} {Q' : Unit → Shared → Prop}, Q' () s₁ → wpAny (model P w) A (match b with | true => rule "set.scan.the-table-gave-way" | false => pure ()) Q' E s₁ := by
      intro b s₁ Q' q
      cases b
      · exact wpAny_pure q
      · exact wpAny_rule q
    have q1 := layNew_perm t es ((strKind P w).hash k) (.str k tk)
    have q2 := layNew_fits t es ((strKind P w).hash k) (.str k tk)
    have q3 := layNew_ris t es ((strKind P w).hash k) (.str k tk) T.ris
    have q4 := layNew_led t es ((strKind P w).hash k) (.str k tk)
    generalize layNew t es ((strKind P w).hash k) (.str k tk) = Y at q1 q2 q3 q4 ⊢
    rcases Y with ⟨es1, t1, wd, gv⟩
    dsimp only at q1 q2 q3 q4 ⊢
    rw [Array.toList_push] at q1
    have pc := q1.trans (List.perm_append_singleton _ _)
    have pk : (es1.toList.map txE).Perm (k :: es.toList.map txE) := pc.map txE
    have len : es1.size = es.size + 1 := by
      have z := pc.length_eq
      rwa [List.length_cons, Array.length_toList, Array.length_toList] at z
    have few1 : es1.size ≤ (ms ++ [k]).length := by rw [len, List.length_append]; exact Nat.succ_le_succ T.few
    have T1 : TxTab w (ms ++ [k]) es1 t1 :=
      { row := fun e he => by
          rcases List.mem_cons.mp (pc.mem_iff.mp he) with z | z
          · exact ⟨k, tk, by rw [z], by rw [z]; rfl⟩
          · exact T.row e z
        nd := pk.nodup_iff.mpr (List.nodup_cons.mpr ⟨fresh, T.nd⟩)
        mem := fun i => by rw [pk.mem_iff, List.mem_cons, List.mem_append, List.mem_singleton, T.mem i]; exact Or.comm
        few := few1
        bd := Nat.lt_of_le_of_lt few1 (by rw [List.length_append]; exact room)
        fit := q2
        ris := q3
        led := T.led.imp id fun z => q4.trans z }
    have done : ∀ h', Heap.SameBut a s.heap h' → SetTx w h' a (ms ++ [k]) → Q true { s with heap := h' } := fun h' sb r => hQ true h' sb r
    refine wpAny_bind (gw _ ?_)
    split
    · refine wpAny_bind ?_
      rw [hashByValue_scannable 8 scan]
      refine wpAny_pure (txTail (ms := ms ++ [k]) (fun b s₁ Q' q => ?_) ho hex hd ?_ fun h' sb r => ?_)
      · cases b
        · exact wpAny_pure q
        · exact wpAny_rule q
      · have T2 : TxTab w (ms ++ [k]) es1 { t1 with plain := false } := { row := T1.row, nd := T1.nd, mem := T1.mem, few := T1.few, bd := T1.bd, fit := SetTable.fits_plain_off T1.fit, ris := T1.ris, led := T1.led }
        first
          | exact T2
          | (split <;> first | exact T1 | exact T2)
      · dsimp only; exact wpAny_pure (done h' sb r)
    · refine wpAny_bind (wpAny_pure ?_)
      simp only [↓reduceIte]
      refine txTail (ms := ms ++ [k]) (fun b s₁ Q' q => ?_) ho hex hd T1 fun h' sb r => ?_
      · cases b
        · exact wpAny_pure q
        · exact wpAny_rule q
      · dsimp only; exact wpAny_pure (done h' sb r)
end
section
variable {P : Program} {w : World} {A : Around} {E : Value → Shared → Prop} {s : Shared}
/-- every item of the walk is added -/
theorem setTx_loop {I : Addr} {fp wr : List Addr} {G : Array GenState → Array GenState → Prop} {n : Nat} {Pv : Nat → Value → Prop} {St : Nat → Shared → Prop} {R : Result → Shared → Prop}
    (W : WalksS P w A.in1 I fp wr G n Pv St) (S : Addr) (hSf : S ∉ fp) (ks : List Str) (hn : n = ks.length) (hb : ks.length + 1 < scanBound) (hval : ∀ i v, Pv i v → ∃ k t, ks[i]? = some k ∧ v = .str k t) :
    ∀ (m i : Nat) (s : Shared), n - i = m → i ≤ n → St i s → SetTx w s.heap S (ks.take i) →
      (∀ s', Moved (S :: wr) G s s' → SetTx w s'.heap S ks → R (.ok (.ret .none)) s') → codeAny (model P w) A (.builtin "set.update.loop" ⟨[.ref S, .ref I], []⟩) R s := by
  have nw : S ∉ wr := fun h => hSf (W.sub _ h)
  have up : ∀ b ∈ wr, b ∈ S :: wr := fun b hb => List.mem_cons_of_mem _ hb
  intro m
  induction m with
  | zero =>
    intro i s em hi hst hS hR
    obtain rfl : i = n := by omega
    refine codeAny_builtin F.entry_set_update_loop ?_
    rw [Around.under_plainId F.plain_set_update_loop _]
    show wpAny _ A.in1 (pyNext (.ref I) >>= _) _ _ s
    refine wpAny_bind (W.done s _ _ hst fun s' hm => ?_)
    show wpAny _ A.in1 (ret Value.none) _ _ s'
    rw [List.take_of_length_le (by omega)] at hS
    exact wpAny_pure (hR s' (hm.mono up) (hS.at fun o e => hm.heap S o nw e))
  | succ m ih =>
    intro i s em hi hst hS hR
    have lt : i < n := by omega
    refine codeAny_builtin F.entry_set_update_loop ?_
    rw [Around.under_plainId F.plain_set_update_loop _]
    show wpAny _ A.in1 (pyNext (.ref I) >>= _) _ _ s
    refine wpAny_bind (W.item i s _ _ lt hst fun v s1 hP st1 hm => ?_)
    obtain ⟨z, t, hz, rfl⟩ := hval i v hP
    have hS1 : SetTx w s1.heap S (ks.take i) := hS.at fun o e => hm.heap S o nw e
    show wpAny _ A.in1 (holding [Value.str z t] (setAdd S (.str z t)) >>= _) _ _ s1
    refine wpAny_bind (wpAny_holding ?_)
    unfold setAdd
    refine wpAny_holding (wpAny_bind ((strKind P w).pyHash (k := z) (strKind_is _ _ _ _) ?_))
    refine setTx_add (s := { s1 with toks := s1.toks + 1 }) hS1 (by rw [List.length_take]; omega) fun b h' sb hS2 => ?_
    have e1 : ks.take i ++ [z] = ks.take (i + 1) := by rw [List.take_add_one, hz]; rfl
    rw [e1] at hS2
    refine wpAny_pure ⟨plainId_quiet F.plain_set_update_loop _, ih (i + 1) _ (by omega) lt (W.frame _ s1 _ _ st1 (Nat.le_succ _) fun b hb o e => ?_) hS2 fun s2 hm2 hS3 => ?_⟩
    · rw [sb.2 b (fun h : b = S => hSf (h ▸ hb))]; exact e
    · refine hR s2 (Moved.trans W.gtrans ((hm.mono up).then_heap (Nat.le_succ _) fun b o hb e => ?_) hm2) hS3
      rw [sb.2 b (fun h : b = S => hb (h ▸ List.mem_cons_self))]; exact e

/-- v can be walked: texts -/
structure TxW (P : Program) (w : World) (s : Shared) (v : Value) (ks : List Str) : Prop where
  ty : ∃ T : String, isSubtype (.type T) (.type "set") = pure false ∧ isSubtype (.type T) (.type "frozenset") = pure false ∧ (Value.type T == Value.type "dict") = false ∧ ∀ h : Heap, (∀ b o, s.heap.get? b = some o → h.get? b = some o) → Shared.TypeIs { s with heap := h } v T
  it : ∀ (h : Heap), (∀ b o, s.heap.get? b = some o → h.get? b = some o) → s.heap.objs.size < h.objs.size → ∀ (A : Around) (E : Value → Shared → Prop) (Q : Value → Shared → Prop),
    (∀ o fp n Pv St, (∀ A' : Around, A'.handled = none → Walks P w A' h.objs.size fp [h.objs.size] n Pv St) → (∀ b ∈ fp, b = h.objs.size ∨ b < s.heap.objs.size) → n = ks.length → (∀ i v, Pv i v → ∃ k t, ks[i]? = some k ∧ v = Value.str k t) → St 0 (h.push o) → Q (.ref h.objs.size) { s with heap := h.push o }) →
    wpAny (model P w) A (pyIter v) Q E { s with heap := h }
theorem strsAre_at : ∀ {us : List Value} {ks : List Str}, StrsAre us ks → ∀ (i : Nat) (v : Value), us[i]? = some v → ∃ k t, ks[i]? = some k ∧ v = Value.str k t
  | _, _, .nil, i, v, h => by simp at h
  | _, _, .cons n t hr, 0, v, h => by simp at h; exact ⟨n, t, rfl, h.symm⟩
  | _, _, .cons n t hr, i + 1, v, h => by simp at h; simpa using strsAre_at hr i v h
theorem set_of_texts {v : Value} {ks : List Str} {Q : Value → Shared → Prop} (hh : A.handled = none) (hv : TxW P w s v ks) (hb : ks.length + 1 < scanBound)
    (h : ∀ (h' : Heap) (tk : Nat), SetTx w h' s.heap.objs.size ks → (∀ b o, s.heap.get? b = some o → h'.get? b = some o) → Q (.ref s.heap.objs.size) { s with heap := h', toks := tk }) :
    wpAny (model P w) A (call (.type "set") [v]) Q E s := by
  obtain ⟨c, tl, hmro⟩ := F.called_set.mro
  have made := F.called_set.made
  have sub := F.called_set.sub
  have h1 := F.called_set.notType
  have h2 := F.called_set.canCreate
  have hct := F.typeCall_set_1 v
  refine wpAny_call (codeAny_of_tree ?_)
  show wpAny _ _ (callAny (.type "set") _) _ _ _
  refine wpAny_pure ⟨Code.quiet_builtin _ (by decide +kernel), codeAny_builtin F.entry_type_call ?_⟩
  rw [Around.under_plain (weight_type_call_type "set" [v] []) rfl]
  repeat (any_goals (first | assumption | wp_step))
  refine codeAny_mono (code_set_led1 v (E := E) (Q₁ := fun obj s₁ => obj = .ref s.heap.objs.size ∧ s₁ = { s with heap := s.heap.push (emptySetO w) }) ⟨rfl, rfl⟩) fun r s₁ hr => ?_
  match r, hr with
  | .error e, hr => exact hr
  | .ok (.ret obj), hr =>
    obtain ⟨rfl, rfl⟩ := hr
    have hS : (s.heap.push (emptySetO w)).get? s.heap.objs.size = some (emptySetO w) := Heap.get?_push_size _ rfl
    have hT : Shared.TypeIs { s with heap := s.heap.push (emptySetO w) } (.ref s.heap.objs.size) "set" := ⟨_, hS, rfl⟩
    have hli := F.called_set.init.lookup
    have hbi := F.called_set.init.bind (.ref s.heap.objs.size)
    repeat (any_goals (first | assumption | wp_step))
    refine codeAny_mono (codeAny_call_builtin (R := wants (fun r s₂ => r = .none ∧ ∃ h' tk, s₂ = { s with heap := h', toks := tk } ∧ SetTx w h' s.heap.objs.size ks ∧ (∀ b o, s.heap.get? b = some o → h'.get? b = some o)) E) F.called_set.init.plain F.entry_set_init (check_set_init_1 hT ?_)) fun r₂ s₂ hr₂ => ?_
    · have fin : ∀ (o : Obj) (fp : List Addr) (n : Nat) (Pv : Nat → Value → Prop) (St : Nat → Heap → Prop) (A' : Around) (R : Result → Shared → Prop), Walks P w A'.in1 (s.heap.push (emptySetO w)).objs.size fp [(s.heap.push (emptySetO w)).objs.size] n Pv St → s.heap.objs.size ∉ fp → n = ks.length →
          (∀ i v, Pv i v → ∃ k t, ks[i]? = some k ∧ v = .str k t) → St 0 ((s.heap.push (emptySetO w)).push o) →
          (∀ h' tk, SetTx w h' s.heap.objs.size ks → (∀ b o, s.heap.get? b = some o → h'.get? b = some o) → R (.ok (.ret .none)) { s with heap := h', toks := tk }) →
          codeAny (model P w) A' (.builtin "set.update.loop" ⟨[.ref s.heap.objs.size, .ref (s.heap.push (emptySetO w)).objs.size], []⟩) R { s with heap := (s.heap.push (emptySetO w)).push o } := by
        intro o fp n Pv St A' R W hS0 hn hval hst hR
        refine setTx_loop W.toS s.heap.objs.size hS0 ks hn hb hval (n - 0) 0 _ rfl (Nat.zero_le _) hst (setTx_new (Heap.get?_push_of_some _ hS)) fun s2 hm hS2 => ?_
        obtain ⟨h2, g2, d2, tk2, os2⟩ := s2
        have eg : g2 = s.gens := hm.gens
        have ed : d2 = s.drawn := hm.drawn
        have eo : os2 = s.os := hm.os
        subst eg; subst ed; subst eo
        refine hR h2 tk2 hS2 fun b u e => hm.heap b u ?_ (Heap.get?_push_of_some _ (Heap.get?_push_of_some _ e))
        have lt : b < s.heap.objs.size := Heap.lt_size e
        intro z
        rw [Heap.size_push, List.mem_cons, List.mem_singleton] at z
        rcases z with z | z
        · exact Nat.ne_of_lt lt z
        · exact Nat.ne_of_lt (Nat.lt_succ_of_lt lt) z
      obtain ⟨T, hsls, hslf, hne, hty⟩ := hv.ty
      have hT2 := hty (s.heap.push (emptySetO w)) fun b o e => Heap.get?_push_of_some _ e
      have hit := hv.it (s.heap.push (emptySetO w)) (fun b o e => Heap.get?_push_of_some _ e) (by rw [Heap.size_push]; exact Nat.lt_succ_self _)
      unfold Builtin.«set.__init__» noKeywords Builtin.Frozenset.updateFrom
      generalize hPI : pyIter = PI
      wp_walk
      subst hPI
      refine hit _ _ _ fun o fp n Pv St hW hfp hn hval hst => wpAny_bind (wpAny_runValue ?_)
      refine fin o fp n Pv St _ _ (hW _ (by simp [hh])) (fun z => ?_) hn hval hst fun h' tk q1 q2 => ?_
      · rcases hfp _ z with e | e
        · rw [Heap.size_push] at e
          exact absurd e (Nat.ne_of_lt (Nat.lt_succ_self _))
        · exact absurd e (Nat.lt_irrefl _)
      · show wpAny _ _ _ _ _ _
        exact wpAny_pure (wpAny_pure ⟨rfl, h', tk, rfl, q1, q2⟩)
    · match r₂, hr₂ with
      | .error e, hr₂ => exact hr₂
      | .ok (.ret r), hr₂ =>
        obtain ⟨rfl, h', tk, rfl, hS', hk'⟩ := hr₂
        repeat (any_goals (first | assumption | wp_step))
        exact h _ _ hS' hk'

theorem txw_list {l : Addr} {items : Array Value} {ks : List Str} (hl : s.heap.IsList l items) (hs : StrsAre items.toList ks) : TxW P w s (.ref l) ks where
  ty := ⟨"list", F.sub_list_set, F.sub_list_frozenset, by decide, fun h k => by
    obtain ⟨o, e, hc, _⟩ := hl.at fun o e => k l o e
    exact ⟨o, e, hc⟩⟩
  it := fun h k hz A E Q q => by
    have hl1 : h.IsList l items := hl.at fun o e => k l o e
    have lt : l < s.heap.objs.size := by obtain ⟨_, z, _⟩ := hl; exact Heap.lt_size z
    have hne2 : l ≠ h.objs.size := Nat.ne_of_lt (Nat.lt_trans lt hz)
    refine wpAny_pyIter_list (s := { s with heap := h }) hl1 (q _ _ _ _ _ (fun A' ha => Walks.list ha _ l hne2 items) (fun b hb => ?_) ?_ (fun i v hv => strsAre_at hs i v (by rw [Array.getElem?_toList]; exact hv)) ⟨⟨_, Heap.get?_push_size _ rfl, rfl, rfl⟩, hl1.push _⟩)
    · simp only [List.mem_cons, List.not_mem_nil, or_false] at hb
      rcases hb with e | e
      · exact .inl e
      · exact .inr (e ▸ lt)
    · have := hs.length; rw [Array.length_toList] at this; exact this
theorem txw_tuple {l : Addr} {items : Array Value} {ks : List Str} (hl : s.heap.IsTuple l items) (hs : StrsAre items.toList ks) : TxW P w s (.ref l) ks where
  ty := ⟨"tuple", F.sub_tuple_set, F.sub_tuple_frozenset, by decide, fun h k => by
    obtain ⟨o, e, hc, _⟩ := hl.at fun o e => k l o e
    exact ⟨o, e, hc⟩⟩
  it := fun h k hz A E Q q => by
    have hl1 : h.IsTuple l items := hl.at fun o e => k l o e
    have lt : l < s.heap.objs.size := by obtain ⟨_, z, _⟩ := hl; exact Heap.lt_size z
    have hne2 : l ≠ h.objs.size := Nat.ne_of_lt (Nat.lt_trans lt hz)
    refine wpAny_pyIter_tuple (s := { s with heap := h }) hl1 (q _ _ _ _ _ (fun A' ha => Walks.tuple ha _ l hne2 items) (fun b hb => ?_) ?_ (fun i v hv => strsAre_at hs i v (by rw [Array.getElem?_toList]; exact hv)) ⟨⟨_, Heap.get?_push_size _ rfl, rfl, rfl⟩, hl1.push _⟩)
    · simp only [List.mem_cons, List.not_mem_nil, or_false] at hb
      rcases hb with e | e
      · exact .inl e
      · exact .inr (e ▸ lt)
    · have := hs.length; rw [Array.length_toList] at this; exact this
theorem txw_text {x : Str} {t : Tok} : TxW P w s (.str x t) (x.cps.toList.map fun c => (⟨#[c]⟩ : Str)) where
  ty := ⟨"str", F.sub_str_set, F.sub_str_frozenset, by decide, fun h k => rfl⟩
  it := fun h k hz A E Q q => by
    refine wpAny_pyIter_str (s := { s with heap := h }) fun o St hW hst => q o _ _ _ _ (fun A' ha => hW A' ha) (fun b hb => .inl (List.mem_singleton.mp hb)) (by rw [List.length_map, Array.length_toList]) (fun i v hv => ?_) hst
    obtain ⟨c, u, e1, e2⟩ := hv
    exact ⟨_, u, by rw [List.getElem?_map, Array.getElem?_toList, e1]; rfl, e2⟩
end
end L2
namespace L2
open PySem PySem.Spec PyProof.Rows
theorem strsAre_txOf : ∀ (us : List Value), (∀ v ∈ us, ∃ k t, v = Value.str k t) → StrsAre us (us.map txOf)
  | [], _ => .nil
  | u :: us, h => by
    obtain ⟨k, t, rfl⟩ := h u List.mem_cons_self
    exact .cons k t (strsAre_txOf us fun v hv => h v (List.mem_cons_of_mem _ hv))
section
variable {X : Cx}
/-- sorted(set(a)), a a list of texts or a text -/
def tSortSet (K : PySem.W.Frag) (ta : TE) : TE := fun σ H Q => ta σ H fun x H1 => ∃ ks : List Str, ((∃ l, x = .ref l ∧ (SqL K H1 l (ks.map V.str) ∨ SqT K H1 l (ks.map V.str))) ∨ ∃ y, x = .str y ∧ ks = y.cps.toList.map fun c => (⟨#[c]⟩ : Str)) ∧ ks.length < 1000 ∧
  ∀ ys p, ys.Nodup → (∀ k, k ∈ ys ↔ k ∈ ks) → sortedS ys = true → H1 p = none → Q (.ref p) (upd H1 p (.lst (ys.map V.str)))
theorem sorted_setTx {pins : List (Addr × Obj)} {σ : St} {H : Hp} {s : Shared} {a : Addr} {ks : List Str} {Q : VK} (hc : X.calm = true) (I : Inv X pins σ H s) (R : SetTx X.w s.heap a ks) (h64 : ks.length < 1000)
    (q : ∀ ys p, ys.Nodup → (∀ k, k ∈ ys ↔ k ∈ ks) → sortedS ys = true → H p = none → Q (.ref p) (upd H p (.lst (ys.map V.str)))) : wpAny (model X.prog X.w) X.A (call (.builtin "sorted") [.ref a]) (EP X pins σ Q) X.xe s := by
  obtain ⟨o, es, ep, t, ho, hex, hd, T⟩ := R
  refine Calls.call_function_entry kind_sorted plain_sorted entry_sorted (args_sorted1 _) ?_
  unfold Builtin.«sorted»
  refine wpAny_bind (m := checkCount "sorted" 1 1 _) (wpAny_pure (wpAny_bind (collect_set (A := X.A.in1) (I.ok.hd hc) ⟨o, ho, hex.1, hd⟩ T.fit T.bd T.ris T.led fun s1 vs k1 hz g1 o1 pm => ?_)))
  have I1 : Inv X pins σ H s1 := by
    have J : Inv X pins σ H { s with heap := s1.heap, gens := s1.gens, drawn := s1.drawn, toks := s1.toks } := I.call (ch := []) (Un.kept k1) (I.hok.kept k1) (by rw [g1]; exact I.bare) (fun _ z => nomatch z)
    obtain ⟨a1, a2, a3, a4, a5⟩ := s1
    obtain ⟨b1, b2, b3, b4, b5⟩ := s
    cases o1
    exact J
  have hS : StrsAre vs (vs.map txOf) := strsAre_txOf vs fun v hv => by
    obtain ⟨e, he, q⟩ := List.mem_map.mp (pm.mem_iff.mp hv)
    obtain ⟨k, tk, q1, _⟩ := T.row e he
    exact ⟨k, tk, by rw [← q]; exact q1⟩
  have pk : (vs.map txOf).Perm (es.toList.map txE) := by
    have z := pm.map txOf
    rw [List.map_map] at z
    exact z
  have few : vs.length < 1000 := by
    have z := pm.length_eq
    rw [List.length_map] at z
    have z2 : es.toList.length = es.size := Array.length_toList
    have z3 := T.few
    omega
  refine wpAny_bind (wpAny_newList ?_ (by rw [sizeLine_eq]; omega))
  have hL : (s1.heap.push (seqObj "list" vs.toArray 0)).get? s1.heap.objs.size = some (seqObj "list" vs.toArray 0) := Heap.get?_push_size _ rfl
  refine wpAny_bind (wpAny_holding (wpAny_call_entry slot_list_sort ⟨_, hL, rfl⟩ entry_list_sort
    (list_sort_treeKAny strKind_oneLt (s := { s1 with heap := s1.heap.push (seqObj "list" vs.toArray 0) }) hL hS.keysOf (fun v₁ v₂ rest e => keyKind_strs (by rw [← e]; exact hS)) (by rw [sizeLine_eq]; omega) fun st' hp hs => ⟨_, rfl, ?_⟩)
    (args_list_sort _)))
  obtain ⟨ys, g1', g2, g3⟩ := sorted_out_str hS hp hs
  obtain ⟨e', he'⟩ := sortedHeap_at (vs := vs) (out := (arrOf st').map (·.2)) hL
  have lenY : (ys.map V.str).length ≤ sizeLine := by
    rw [List.length_map, g2.length_eq, List.length_map]
    rw [sizeLine_eq]; omega
  have pall := g2.trans pk
  refine wpAny_pure ⟨_, rfl, .ref s1.heap.objs.size, upd H s1.heap.objs.size (.lst (ys.map V.str)), I1.laid (t' := s1.toks) (fun b u e => ?_) (Nat.le_refl _)
    (show ObjOk X.prog X.w _ _ _ (.lst (ys.map V.str)) from ⟨lenY, ((arrOf st').map (·.2)).toList, e', vals_of_strs g1', by rw [Array.toArray_toList]; exact he'⟩), rfl,
    q ys _ (pall.nodup_iff.mpr T.nd) (fun k => by rw [pall.mem_iff, T.mem k]) g3 (I1.hok.fresh (Nat.le_refl _))⟩
  have hb : b < s1.heap.objs.size := Heap.lt_size e
  rw [sortedHeap_old (Nat.ne_of_lt hb) (by rw [size_push']; exact Nat.lt_succ_of_lt hb)]
  exact Heap.get?_push_of_some _ e
theorem pe_sortSet {a : Expr} {ta : TE} {p p2 q pos : Pos} (hc : X.calm = true) (hg : Gl X "sorted") (hm : X.mg "sorted" = none) (hg2 : Gl X "set") (hm2 : X.mg "set" = none) (ha : PE X a ta)
    (na : starEach [a] X.env = (false, eval a X.env) :: starEach [] X.env := by rfl) : PE X (.Call (.Name "sorted" p) [.Call (.Name "set" p2) [a] [] q] [] pos) (tSortSet X.K ta) := by
  refine ⟨fun pins s σ H Q I h => ?_⟩
  refine Call_ (ld_blt I hg hm DL.bt_sorted (callWith_builtin1 (args_cons (Call_ (ld_blt I hg2 hm2 DL.bt_set ?_)) rfl) rfl rfl))
  refine callWith_type1 (args_cons (thn (ha.run pins s σ H _ I h) fun v s1 ⟨x, H1, I1, r1, ks, hx, h64, q1⟩ => args_nil ?_) na) na rfl
  have it : TxW X.prog X.w s1 v ks := by
    rcases hx with ⟨l, rfl, hl | hl⟩ | ⟨y, rfl, hy⟩
    · cases r1
      obtain ⟨its, rv, pl, _⟩ := I1.list hl
      exact txw_list pl.isList (by simpa using rv.strs)
    · cases r1
      obtain ⟨its, rv, pl, _⟩ := I1.tuple hl
      exact txw_tuple pl (by simpa using rv.strs)
    · obtain ⟨t, rfl⟩ := r1
      rw [hy]
      exact txw_text
  refine set_of_texts (I1.ok.hd hc) it (by unfold scanBound; omega) fun h' tk hS hk => args_nil ?_
  have I2 : Inv X pins σ H1 { s1 with heap := h', toks := tk } := I1.kept hk
  exact sorted_setTx hc I2 hS h64 q1
end
end L2
namespace DL
open PySem L2
/-! ### texts in order -/
theorem lt_tri (a b : List Nat) : a < b ∨ a = b ∨ b < a := by
  rcases Decidable.em (a < b) with h | h
  · exact .inl h
  · rcases Decidable.em (b < a) with h2 | h2
    · exact .inr (.inr h2)
    · exact .inr (.inl (List.le_antisymm (List.not_lt.mp h2) (List.not_lt.mp h)))
theorem lt_irr (a : List Nat) : ¬ a < a := List.lt_irrefl a
theorem lt_tr {a b c : List Nat} (h : a < b) (h2 : b < c) : a < c := List.lt_trans h h2
def insU (x : List Nat) : List (List Nat) → List (List Nat)
  | [] => [x]
  | y :: r => if x = y then y :: r else if x < y then x :: y :: r else y :: insU x r
def sortU (l : List (List Nat)) : List (List Nat) := l.foldr insU []
theorem insU_mem (x : List Nat) : ∀ (l : List (List Nat)) (k : List Nat), k ∈ insU x l ↔ k = x ∨ k ∈ l
  | [], k => by simp [insU]
  | y :: r, k => by
    unfold insU
    split
    · rename_i h; subst h; simp
    · split
      · simp
      · rw [List.mem_cons, insU_mem x r k, List.mem_cons]
        constructor
        · rintro (h | h | h) <;> simp [h]
        · rintro (h | h | h) <;> simp [h]
theorem insU_ord (x : List Nat) : ∀ {l : List (List Nat)}, l.Pairwise (· < ·) → (insU x l).Pairwise (· < ·)
  | [], _ => by simp [insU]
  | y :: r, h => by
    unfold insU
    obtain ⟨h1, h2⟩ := List.pairwise_cons.mp h
    split
    · exact h
    · rename_i hn
      split
      · rename_i hl
        refine List.pairwise_cons.mpr ⟨fun k hk => ?_, h⟩
        rcases List.mem_cons.mp hk with rfl | hk
        · exact hl
        · exact lt_tr hl (h1 k hk)
      · rename_i hl
        refine List.pairwise_cons.mpr ⟨fun k hk => ?_, insU_ord x h2⟩
        rcases (insU_mem x r k).mp hk with rfl | hk
        · rcases lt_tri y k with z | z | z
          · exact z
          · exact absurd z.symm hn
          · exact absurd z hl
        · exact h1 k hk
theorem sortU_mem : ∀ (l : List (List Nat)) (k : List Nat), k ∈ sortU l ↔ k ∈ l
  | [], k => Iff.rfl
  | y :: r, k => by
    show k ∈ insU y (sortU r) ↔ _
    rw [insU_mem, sortU_mem r k, List.mem_cons]
theorem sortU_ord : ∀ (l : List (List Nat)), (sortU l).Pairwise (· < ·)
  | [] => .nil
  | y :: r => insU_ord y (sortU_ord r)
theorem ord_uniq : ∀ {a b : List (List Nat)}, a.Pairwise (· < ·) → b.Pairwise (· < ·) → (∀ k, k ∈ a ↔ k ∈ b) → a = b
  | [], [], _, _, _ => rfl
  | [], y :: b, _, _, h => absurd ((h y).mpr (by simp)) (by simp)
  | x :: a, [], _, _, h => absurd ((h x).mp (by simp)) (by simp)
  | x :: a, y :: b, ha, hb, h => by
    obtain ⟨a1, a2⟩ := List.pairwise_cons.mp ha
    obtain ⟨b1, b2⟩ := List.pairwise_cons.mp hb
    have e : x = y := by
      rcases List.mem_cons.mp ((h x).mp (by simp)) with z | z
      · exact z
      · rcases List.mem_cons.mp ((h y).mpr (by simp)) with z2 | z2
        · exact z2.symm
        · exact absurd (lt_tr (b1 x z) (a1 y z2)) (lt_irr y)
    subst e
    rw [ord_uniq a2 b2 fun k => ?_]
    constructor
    · intro hk
      rcases List.mem_cons.mp ((h k).mp (List.mem_cons_of_mem _ hk)) with z | z
      · subst z; exact absurd (a1 k hk) (lt_irr k)
      · exact z
    · intro hk
      rcases List.mem_cons.mp ((h k).mpr (List.mem_cons_of_mem _ hk)) with z | z
      · subst z; exact absurd (b1 k hk) (lt_irr k)
      · exact z
theorem ltC_iff : ∀ (a b : List Nat), Spec.ltCps a b = true ↔ a < b
  | [], [] => by simp [Spec.ltCps]
  | [], _ :: _ => by simp [Spec.ltCps]
  | _ :: _, [] => by simp [Spec.ltCps]
  | x :: a, y :: b => by
    simp only [Spec.ltCps, Bool.or_eq_true, Bool.and_eq_true, decide_eq_true_eq, beq_iff_eq, ltC_iff a b, List.cons_lt_cons_iff]
/-- in order, from the library's word -/
theorem risingS_ord : ∀ (p : Str) (l : List Str), PyProof.Rows.risingS p l = true → (p :: l).Nodup → (p :: l).Pairwise (fun a b => a.cps.toList < b.cps.toList)
  | p, [], _, _ => List.pairwise_singleton _ _
  | p, x :: r, h, nd => by
    have h' : (!Spec.ltCps x.cps.toList p.cps.toList && PyProof.Rows.risingS x r) = true := h
    rw [Bool.and_eq_true, Bool.not_eq_true'] at h'
    obtain ⟨n1, n2⟩ := List.nodup_cons.mp nd
    have ih := risingS_ord x r h'.2 n2
    have e : p.cps.toList < x.cps.toList := by
      rcases lt_tri p.cps.toList x.cps.toList with z | z | z
      · exact z
      · have : p = x := by rw [← mkS_surj p, ← mkS_surj x, z]
        exact absurd (by rw [this]; simp) n1
      · rw [(ltC_iff _ _).mpr z] at h'
        cases h'.1
    refine List.pairwise_cons.mpr ⟨fun k hk => ?_, ih⟩
    rcases List.mem_cons.mp hk with rfl | hk
    · exact e
    · exact lt_tr e ((List.pairwise_cons.mp ih).1 k hk)
theorem sortU_str {ys : List Str} {ss : List (List Nat)} (h : PyProof.Rows.sortedS ys = true) (nd : ys.Nodup) (hm : ∀ k, k ∈ ys ↔ k ∈ ss.map mkS) : ys = (sortU ss).map mkS := by
  have ho : ys.Pairwise (fun a b => a.cps.toList < b.cps.toList) := by
    cases ys with
    | nil => exact .nil
    | cons y r => exact risingS_ord y r h nd
  have e : ys.map (fun y => y.cps.toList) = sortU ss := by
    refine ord_uniq (List.pairwise_map.mpr ho) (sortU_ord ss) fun k => ?_
    rw [sortU_mem, List.mem_map]
    constructor
    · rintro ⟨y, hy, rfl⟩
      obtain ⟨s, hs, e⟩ := List.mem_map.mp ((hm y).mp hy)
      rw [← e, mkS_cps]; exact hs
    · intro hk
      exact ⟨mkS k, (hm _).mpr (List.mem_map.mpr ⟨k, hk, rfl⟩), mkS_cps k⟩
  rw [← e, List.map_map]
  have : (mkS ∘ fun y : Str => y.cps.toList) = id := by funext y; exact mkS_surj y
  rw [this, List.map_id]
def sortSetD : D → Option D
  | .lst xs => (asSs xs).bind fun ss => if ss.length < 1000 then some (.lst ((sortU ss).map D.str)) else none
  | .tup xs => (asSs xs).bind fun ss => if ss.length < 1000 then some (.lst ((sortU ss).map D.str)) else none
  | .str s => if s.length < 1000 then some (.lst ((sortU (s.map fun c => [c])).map D.str)) else none
  | _ => none
section
variable {X : Cx} {Z : Cn} {E : Ent Z.W} {Wx : WX} {e a b c : Expr} {pos p p2 q : Pos} {fe fa fb fc : M Z.W.G D}
theorem de_sortSet (hc : X.calm = true) (hg : Gl X "sorted") (hm : X.mg "sorted" = none) (hg2 : Gl X "set") (hm2 : X.mg "set" = none) (ha : DR X Z E Wx a fa)
    (na : starEach [a] X.env = (false, eval a X.env) :: starEach [] X.env := by rfl) : DE X Z E Wx (.Call (.Name "sorted" p) [.Call (.Name "set" p2) [a] [] q] [] pos) (e1 sortSetD fa) := by
  refine PE.imp (pe_sortSet hc hg hm hg2 hm2 ha na) fun σ H Q ⟨Hf, g, sl, r, q⟩ => ⟨Hf, g, sl, r, (go_bind (Rm := RlR X.K) q).mono fun x H1 ⟨Hf1, g1, c, b1, d1, q1⟩ => ?_⟩
  obtain ⟨d, ed, k⟩ := go_lift q1
  have fin : ∀ (ss : List (List Nat)), (∀ s ∈ ss, okS s) → d = .lst ((sortU ss).map D.str) → ∀ ys p, ys.Nodup → (∀ k, k ∈ ys ↔ k ∈ ss.map mkS) → PyProof.Rows.sortedS ys = true → H1 p = none → Q (.ref p) (upd H1 p (.lst (ys.map V.str))) := by
    intro ss ok ed ys p nd hm hs hp
    subst ed
    rw [sortU_str hs nd hm]
    exact k _ _ _ (b1.self.alloc (.lst (((sortU ss).map mkS).map V.str)) hp) (.lst upd_same (DvAll.ofStrs (sortU ss) fun s hs => ok s ((sortU_mem ss s).mp hs)))
  match c, ed, d1 with
  | .lst xs, ed, d1 =>
    obtain ⟨p, vs, rfl, h1, h2⟩ := d1.lst b1.fh
    simp only [sortSetD] at ed
    obtain ⟨ss, es, ed2⟩ := Option.bind_eq_some_iff.mp ed
    obtain rfl := asSs_some es
    split at ed2
    · rename_i hl
      cases ed2
      have hvs := h2.strs
      subst hvs
      exact ⟨ss.map mkS, .inl ⟨p, rfl, .inl (SqL.of h1)⟩, by rw [List.length_map]; exact hl, fin ss h2.oks rfl⟩
    · cases ed2
  | .tup xs, ed, d1 =>
    obtain ⟨p, vs, rfl, h1, h2⟩ := d1.tup
    simp only [sortSetD] at ed
    obtain ⟨ss, es, ed2⟩ := Option.bind_eq_some_iff.mp ed
    obtain rfl := asSs_some es
    split at ed2
    · rename_i hl
      cases ed2
      have hvs := h2.strs
      subst hvs
      exact ⟨ss.map mkS, .inl ⟨p, rfl, .inr (SqT.of (b1.fh _ _ h1))⟩, by rw [List.length_map]; exact hl, fin ss h2.oks rfl⟩
    · cases ed2
  | .str s, ed, d1 =>
    obtain ⟨rfl, ok⟩ := d1.str
    simp only [sortSetD] at ed
    split at ed
    · rename_i hl
      cases ed
      refine ⟨(s.map fun c => [c]).map mkS, .inr ⟨mkS s, rfl, ?_⟩, by rw [List.length_map, List.length_map]; exact hl, fin (s.map fun c => [c]) (fun t ht => ?_) rfl⟩
      · rw [mkS_cps, List.map_map]; rfl
      · obtain ⟨c, hc, rfl⟩ := List.mem_map.mp ht
        exact ⟨by show 1 ≤ LIM; unfold LIM; decide, fun c' hc' => by rw [List.mem_singleton.mp hc']; exact ok.2 c hc⟩
    · cases ed
end
end DL
namespace DL
open PySem L2
/-! ### dicts of one's own -/
section
variable {κ : Type} [DecidableEq κ]
def dGet (kvs : List (κ × D)) (k : κ) : Option D := (kvs.find? fun q => decide (q.1 = k)).map (·.2)
def dPut (kvs : List (κ × D)) (k : κ) (v : D) : List (κ × D) := if (kvs.any fun q => decide (q.1 = k)) = true then kvs.map (fun q => if q.1 = k then (q.1, v) else q) else kvs ++ [(k, v)]
def dMerge (kvs more : List (κ × D)) : List (κ × D) := more.foldl (fun acc q => dPut acc q.1 q.2) kvs
variable {μ : Type} [DecidableEq μ]
abbrev PV (K : PySem.W.Frag) (Hf : Hp) (f : κ → μ) : List (μ × V) → List (κ × D) → Prop := Paired fun p q => p.1 = f q.1 ∧ Dv K Hf p.2 q.2
variable {K : PySem.W.Frag} {Hf : Hp} {f : κ → μ}
theorem pv_get (inj : ∀ {a b}, f a = f b → a = b) (k : κ) : ∀ {vs : List (μ × V)} {kvs : List (κ × D)}, PV K Hf f vs kvs → (dGet kvs k = none ∧ valV vs (f k) = none) ∨ ∃ d v, dGet kvs k = some d ∧ valV vs (f k) = some v ∧ Dv K Hf v d
  | _, _, .nil => .inl ⟨rfl, rfl⟩
  | _, _, .cons (a := p) (b := q) h t => by
    by_cases e : q.1 = k
    · refine .inr ⟨q.2, p.2, ?_, ?_, h.2⟩
      · simp [dGet, e]
      · rw [valV_pos (by rw [h.1, e])]
    · rw [valV_neg (by rw [h.1]; exact fun z => e (inj z))]
      have e2 : ∀ l : List (κ × D), dGet (q :: l) k = dGet l k := fun l => by simp [dGet, e]
      rw [e2]
      exact pv_get inj k t
theorem pv_len : ∀ {vs : List (μ × V)} {kvs : List (κ × D)}, PV K Hf f vs kvs → vs.length = kvs.length
  | _, _, .nil => rfl
  | _, _, .cons _ t => by rw [List.length_cons, List.length_cons, pv_len t]
theorem pv_any (inj : ∀ {a b}, f a = f b → a = b) (k : κ) : ∀ {vs : List (μ × V)} {kvs : List (κ × D)}, PV K Hf f vs kvs → (vs.any fun p => decide (p.1 = f k)) = kvs.any fun q => decide (q.1 = k)
  | _, _, .nil => rfl
  | _, _, .cons (a := p) (b := q) h t => by
    rw [List.any_cons, List.any_cons, pv_any inj k t, h.1]
    by_cases e : q.1 = k
    · simp [e]
    · simp [e, show ¬ f q.1 = f k from fun z => e (inj z)]
theorem pv_map (inj : ∀ {a b}, f a = f b → a = b) (k : κ) {v : V} {d : D} (dv : Dv K Hf v d) : ∀ {vs : List (μ × V)} {kvs : List (κ × D)}, PV K Hf f vs kvs →
    PV K Hf f (vs.map fun p => if p.1 = f k then (p.1, v) else p) (kvs.map fun q => if q.1 = k then (q.1, d) else q)
  | _, _, .nil => .nil
  | _, _, .cons (a := p) (b := q) h t => by
    rw [List.map_cons, List.map_cons]
    refine .cons ?_ (pv_map inj k dv t)
    by_cases e : q.1 = k
    · rw [if_pos (by rw [h.1, e]), if_pos e]; exact ⟨h.1, dv⟩
    · rw [if_neg (by rw [h.1]; exact fun z => e (inj z)), if_neg e]; exact h
theorem pv_app : ∀ {vs ws : List (μ × V)} {kvs lws : List (κ × D)}, PV K Hf f vs kvs → PV K Hf f ws lws → PV K Hf f (vs ++ ws) (kvs ++ lws)
  | _, _, _, _, .nil, h => h
  | _, _, _, _, .cons h t, h2 => .cons h (pv_app t h2)
theorem pv_put (inj : ∀ {a b}, f a = f b → a = b) (k : κ) {v : V} {d : D} (dv : Dv K Hf v d) {vs : List (μ × V)} {kvs : List (κ × D)} (h : PV K Hf f vs kvs) : PV K Hf f (putK vs (f k) v) (dPut kvs k d) := by
  unfold putK dPut
  rw [pv_any inj k h]
  split
  · exact pv_map inj k dv h
  · exact pv_app h (.cons ⟨rfl, dv⟩ .nil)
end
theorem pv_merge {K : PySem.W.Frag} {Hf : Hp} : ∀ {ms : List (Key × V)} {more : List (DKey × D)} {vs : List (Key × V)} {kvs : List (DKey × D)}, KVd K Hf ms more → KVd K Hf vs kvs → KVd K Hf (mergeK vs ms) (dMerge kvs more)
  | _, _, _, _, .nil, h => h
  | _, _, _, _, .cons (a := p) (b := q) h t, h2 => by
    show KVd K Hf (mergeK (putK _ p.1 p.2) _) (dMerge (dPut _ q.1 q.2) _)
    rw [h.1]
    exact pv_merge t (pv_put toKey_inj q.1 h.2 h2)
theorem toKeys_inj : ∀ {a b : List DKey}, a.map toKey = b.map toKey → a = b
  | [], [], _ => rfl
  | x :: a, y :: b, h => by
    rw [List.map_cons, List.map_cons] at h
    injection h with h1 h2
    rw [toKey_inj h1, toKeys_inj h2]
  | [], _ :: _, h => by cases h
  | _ :: _, [], h => by cases h
def keyD : D → Option DKey
  | .int i => some (.inl i)
  | .str s => some (.inr s)
  | _ => none
theorem keyD_v {K : PySem.W.Frag} {H : Hp} {v : V} : ∀ {d : D} {k : DKey}, keyD d = some k → Dv K H v d → v = kV (toKey k)
  | .int i, _, h, dv => by cases h; cases dv; rfl
  | .str i, _, h, dv => by cases h; cases dv; rfl
def kD : DKey → D
  | .inl i => .int i
  | .inr s => .str s
def keysD : List D → Option (List DKey)
  | [] => some []
  | d :: ds => (keyD d).bind fun k => (keysD ds).map (k :: ·)
theorem keysD_v {K : PySem.W.Frag} {H : Hp} : ∀ {ds : List D} {vs : List V} {ks : List DKey}, keysD ds = some ks → DvAll K H vs ds → vs = (ks.map toKey).map kV
  | [], _, _, h, dv => by cases h; cases dv; rfl
  | d :: ds, _, _, h, dv => by
    cases dv with
    | cons h1 h2 =>
      obtain ⟨k, e1, e2⟩ := Option.bind_eq_some_iff.mp h
      obtain ⟨l, e3, rfl⟩ := Option.map_eq_some_iff.mp e2
      rw [keyD_v e1 h1, keysD_v e3 h2]
      rfl
def keyT : D → Option (List DKey)
  | .tup ds => keysD ds
  | _ => none
/-- the pairs of a list -/
def asPrs : List D → Option (List (DKey × D))
  | [] => some []
  | .tup [k, v] :: ds => (keyD k).bind fun k => (asPrs ds).map ((k, v) :: ·)
  | _ => none
theorem asPrs_v {K : PySem.W.Frag} {Hf H : Hp} (s : Same Hf H) : ∀ {ds : List D} {vs : List V} {prs : List (DKey × D)}, asPrs ds = some prs → DvAll K Hf vs ds → ∃ (ps : List Addr) (kvs : List (Key × V)), vs = ps.map V.ref ∧ Paired (fun p kv => SqT K H p [kV kv.1, kv.2]) ps kvs ∧ KVd K Hf kvs prs
  | [], _, _, h, dv => by cases h; cases dv; exact ⟨[], [], rfl, .nil, .nil⟩
  | .tup [k, v] :: ds, _, _, h, dv => by
    cases dv with
    | cons h1 h2 =>
      obtain ⟨k', e1, e2⟩ := Option.bind_eq_some_iff.mp h
      obtain ⟨l, e3, rfl⟩ := Option.map_eq_some_iff.mp e2
      obtain ⟨ps, kvs, rfl, q1, q2⟩ := asPrs_v s e3 h2
      cases h1 with
      | tup ha hb =>
        rename_i a ws
        cases hb with
        | cons hk hb =>
          cases hb with
          | cons hv hb =>
            cases hb
            rename_i kv vv
            obtain rfl := keyD_v e1 hk
            exact ⟨a :: ps, (toKey k', vv) :: kvs, rfl, .cons (SqT.of (s _ _ ha)) q1, .cons ⟨rfl, hv⟩ q2⟩
section
variable {G : Type}
def mK (i : Nat) : M G (List (DKey × D)) := fun sl g => match sl[i]? with
  | some (some (.oK kvs)) => some (.ok kvs, g)
  | some (some (.kK kvs)) => some (.ok kvs, g)
  | _ => none
def mKo (i : Nat) : M G (List (DKey × D)) := fun sl g => match sl[i]? with
  | some (some (.oK kvs)) => some (.ok kvs, g)
  | _ => none
def mKl (i : Nat) : M G (List (DKey × D)) := fun sl g => match sl[i]? with
  | some (some (.kK kvs)) => some (.ok kvs, g)
  | _ => none
def mT (i : Nat) : M G (List (List DKey × D)) := fun sl g => match sl[i]? with
  | some (some (.oT kvs)) => some (.ok kvs, g)
  | _ => none
/-- x[e] -/
def eDGet (i : Nat) (fk : M G D) : M G D := M.bind (mK i) fun kvs => M.bind fk fun k => M.lift ((keyD k).bind (dGet kvs))
def eTGet (i : Nat) (fk : M G D) : M G D := M.bind (mT i) fun kvs => M.bind fk fun k => M.lift ((keyT k).bind (dGet kvs))
/-- e in x, e not in x -/
def eDIn (i : Nat) (fk : M G D) : M G D := M.bind fk fun k => M.bind (mK i) fun kvs => M.lift ((keyD k).map fun k => .bl (dGet kvs k).isSome)
def eTNin (i : Nat) (fk : M G D) : M G D := M.bind fk fun k => M.bind (mT i) fun kvs => M.lift ((keyT k).map fun k => .bl (!(dGet kvs k).isSome))
/-- dict(e) -/
def xDict (f : M G D) : M G Slot := M.bind f fun d => M.lift ((asL d).bind fun ds => (asPrs ds).map fun prs => .oK (dMerge [] prs))
def xDnew : M G Slot := M.pure (.oK [])
/-- the dict of slot i is read alone -/
def eLock (i : Nat) (f : M G D) : M G D := fun sl g => match sl[i]? with
  | some (some (.oK kvs)) => match f (sl.set i (some (.kK kvs))) g with
    | some (.ok d, g') => some (.ok d, g')
    | _ => none
  | _ => none
def iKys (i : Nat) : M G (List D) := M.bind (mKl i) fun kvs => M.pure (kvs.map fun q => kD q.1)
end
section
variable {X : Cx} {Z : Cn} {E : Ent Z.W} {Wx : WX} {e a b c tg : Expr} {pos p ap cp : Pos} {fe fa fb fc : M Z.W.G D} {i : Nat} {x : Str}
theorem mK_go {α β : Type} {Rl : Z.W.G → Hp → Hp → β → α → Prop} {σ : St} {sl : SL} {H Hf : Hp} {g : Z.W.G} {k : List (DKey × D) → M Z.W.G α} {Q : β → Hp → Prop} (r : R X.K E H Hf g sl σ) (h : go Z Rl Wx σ (M.bind (mK i) k sl g) H Hf g Q) :
    ∃ a kvs, σ[i]? = some (some (.ref a)) ∧ (sl[i]? = some (some (.oK kvs)) ∨ sl[i]? = some (some (.kK kvs))) ∧ go Z Rl Wx σ (k kvs sl g) H Hf g Q := by
  unfold M.bind mK at h
  match e : sl[i]? with
  | some (some (.oK kvs)) =>
    rw [e] at h
    obtain ⟨v, h1, a, vs, rfl, _⟩ := r.slot i _ e
    exact ⟨a, kvs, h1, .inl rfl, h⟩
  | some (some (.kK kvs)) =>
    rw [e] at h
    obtain ⟨v, h1, a, vs, o, rfl, _⟩ := r.slot i _ e
    exact ⟨a, kvs, h1, .inr rfl, h⟩
  | some (some (.d y)) => rw [e] at h; exact h.elim
  | some (some (.oL y)) => rw [e] at h; exact h.elim
  | some (some (.oT y)) => rw [e] at h; exact h.elim
  | some none => rw [e] at h; exact h.elim
  | none => rw [e] at h; exact h.elim
/-- what stands in slot i -/
theorem R.dk {σ : St} {sl : SL} {H Hf : Hp} {g : Z.W.G} {a : Addr} {kvs : List (DKey × D)} (r : R X.K E H Hf g sl σ) (hs : sl[i]? = some (some (.oK kvs)) ∨ sl[i]? = some (some (.kK kvs))) (ha : σ[i]? = some (some (.ref a))) :
    ∃ vs, Rd H a (.dK vs) ∧ KVd X.K Hf vs kvs := by
  rcases hs with hs | hs
  · obtain ⟨v, h1, b, vs, rfl, h2, h3, _⟩ := r.slot i _ hs
    rw [ha] at h1
    cases h1
    exact ⟨vs, .inl h2, h3⟩
  · obtain ⟨v, h1, b, vs, o, rfl, h2, h3⟩ := r.slot i _ hs
    rw [ha] at h1
    cases h1
    exact ⟨vs, .inr ⟨o, r.base.fh _ _ h2⟩, h3⟩
theorem de_dget (hu : X.A.units + 1 < cLine) (hk : DE X Z E Wx a fa) (hN : X.N[i]? = some x := by rfl) (hv : Vis X.env.scope x := by first | exact Or.inl rfl | exact Or.inr (Or.inl rfl) | exact Or.inr (Or.inr rfl)) (hd : (x == ("__debug__" : Str)) = false := by decide)
    (hcd : (x == ("__classdict__" : Str)) = false := by decide) (hs : NoSl a := by intro _ _; rfl) : DE X Z E Wx (.Subscript (.Name x p) a pos) (eDGet i fa) := by
  refine PE.imp (pe_dget hu (pe_var hN hv hd hcd) hk hs) fun σ H Q ⟨Hf, g, sl, r, q⟩ => ?_
  obtain ⟨b, kvs, h1, h2, q1⟩ := mK_go r q
  refine ⟨_, h1, Hf, g, sl, r, (go_bind (Rm := RlD X.K) q1).mono fun y H1 ⟨Hf1, g1, kd, b1, d1, q2⟩ => ?_⟩
  obtain ⟨d, ed, k⟩ := go_lift q2
  obtain ⟨ky, e1, e2⟩ := Option.bind_eq_some_iff.mp ed
  obtain rfl := keyD_v e1 d1
  obtain ⟨vs, rd, kv⟩ := (r.step b1).dk h2 h1
  rcases pv_get toKey_inj ky kv with ⟨n1, _⟩ | ⟨d', v, n1, n2, n3⟩
  · rw [e2] at n1; cases n1
  · rw [e2] at n1
    cases n1
    exact ⟨b, v, rfl, .inl ⟨vs, _, rd, rfl, n2.symm⟩, k _ _ _ b1.self n3⟩
theorem pc_din_run {σ : St} {H : Hp} {Q : VK} (h : tG Z X.K E (RlD X.K) Wx (eDIn i fa) σ H Q) : tDIn (tG Z X.K E (RlD X.K) Wx fa) (tVar i) σ H Q := by
  obtain ⟨Hf, g, sl, r, q⟩ := h
  refine ⟨Hf, g, sl, r, (go_bind (Rm := RlD X.K) q).mono fun y H1 ⟨Hf1, g1, kd, b1, d1, q1⟩ => ?_⟩
  obtain ⟨b, kvs, h1, h2, q2⟩ := mK_go (r.step b1) q1
  obtain ⟨d, ed, k⟩ := go_lift q2
  obtain ⟨ky, e1, rfl⟩ := Option.map_eq_some_iff.mp ed
  obtain rfl := keyD_v e1 d1
  obtain ⟨vs, rd, kv⟩ := (r.step b1).dk h2 h1
  refine ⟨_, h1, b, valV vs (toKey ky), rfl, .inl ⟨vs, _, rd, rfl, rfl⟩, ?_⟩
  rcases pv_get toKey_inj ky kv with ⟨n1, n2⟩ | ⟨d', v, n1, n2, n3⟩
  · rw [n1] at k
    rw [n2]
    exact k _ _ _ b1.self (.bl _)
  · rw [n1] at k
    rw [n2]
    exact k _ _ _ b1.self (.bl _)
theorem dt_din (hu : X.A.units + 1 < cLine) (hk : DE X Z E Wx a fa) (hN : X.N[i]? = some x := by rfl) (hv : Vis X.env.scope x := by first | exact Or.inl rfl | exact Or.inr (Or.inl rfl) | exact Or.inr (Or.inr rfl)) (hd : (x == ("__debug__" : Str)) = false := by decide)
    (hcd : (x == ("__classdict__" : Str)) = false := by decide) (hb : behindInMarks .In (.Name x p) = false := by rfl) : DT X Z E Wx (.Compare a [.In] [.Name x p] pos) (tV (eDIn i fa)) :=
  PT.imp (pt_cmp (pc_din hu hk (pe_var hN hv hd hcd)) hb) fun σ H Q h => tB_of h fun Q' q => pc_din_run q
theorem dx_dict (hc : X.calm = true) (hg : Gl X "dict") (hm : X.mg "dict" = none) (ha : DR X Z E Wx a fa) (hs : starEach [a] X.env = (false, eval a X.env) :: starEach [] X.env := by rfl) (hpl : (backTo pos (starEach [] X.env)).any (·.1) = false := by rfl) :
    DX X Z E Wx (.Call (.Name "dict" p) [a] [] pos) (xDict fa) := by
  refine PE.imp (pe_callTy (call_dictP hc) hg hm bt_dict (pa_cons ha pa_nil hs) (by decide) (by decide) hs hpl) fun σ H Q ⟨Hf, g, sl, r, q⟩ => ⟨Hf, g, sl, r, (go_bind (Rm := RlR X.K) q).mono fun y H1 ⟨Hf1, g1, d, b1, d1, q1⟩ => ?_⟩
  obtain ⟨s, es, k⟩ := go_lift q1
  obtain ⟨ds, e1, e2⟩ := Option.bind_eq_some_iff.mp es
  obtain ⟨prs, e3, rfl⟩ := Option.map_eq_some_iff.mp e2
  obtain rfl := asL_some e1
  obtain ⟨l, vs, rfl, h1, h2⟩ := d1.lst b1.fh
  obtain ⟨ps, kvs, rfl, q2, q3⟩ := asPrs_v b1.fh e3 h2
  refine ⟨l, ps, kvs, rfl, SqL.of h1, q2, fun p hp => ?_⟩
  obtain ⟨n1, n2, n3⟩ := new_n b1 hp
  have hE : E.H p = none := by
    cases e : E.H p with
    | none => rfl
    | some o => exact absurd n1 (r.base.there p (by rw [e]; simp))
  exact k _ _ _ (b1.self.allocU _ hp) ⟨⟨p, _, rfl, upd_same, pv_merge q3 .nil, hE, n2, n3⟩, fun _ a ea => by cases ea; exact n1⟩
theorem dx_dnew : DX X Z E Wx (.Dict [] [] pos) xDnew := by
  refine PE.imp pe_dnewK fun σ H Q ⟨Hf, g, sl, r, q⟩ p hp => ?_
  obtain ⟨n1, n2, n3⟩ := new_n r.base.self hp
  have hE : E.H p = none := by
    cases e : E.H p with
    | none => rfl
    | some o => exact absurd n1 (r.base.there p (by rw [e]; simp))
  exact go_pure q _ _ _ (r.base.self.allocU _ hp) ⟨⟨p, _, rfl, upd_same, .nil, hE, n2, n3⟩, fun _ a ea => by cases ea; exact n1⟩

/-! reading a dict alone: its keys can be walked -/
def wo (Hf : Hp) (q : Addr) : Hp := fun x => if x = q then none else Hf x
theorem wo_same {Hf : Hp} {q : Addr} : wo Hf q q = none := if_pos rfl
theorem wo_ne {Hf : Hp} {q x : Addr} (h : x ≠ q) : wo Hf q x = Hf x := if_neg h
theorem Dv.dropF {K : PySem.W.Frag} {Hf : Hp} {a : Addr} (hn : ∀ vs, Hf a ≠ some (.tup vs) ∧ Hf a ≠ some (.lst vs)) : ∀ (d : D) {v : V}, Dv K Hf v d → Dv K (wo Hf a) v d := by
  have key : ∀ (H' : Hp), (∀ b vs, Hf b = some (.tup vs) → H' b = some (.tup vs)) → (∀ b vs, Hf b = some (.lst vs) → H' b = some (.lst vs)) → (∀ (d : D) {v : V}, Dv K Hf v d → Dv K H' v d) := by
    intro H' h1 h2 d
    refine D.rec (motive_1 := fun d => ∀ {v : V}, Dv K Hf v d → Dv K H' v d) (motive_2 := fun ds => ∀ {vs : List V}, DvAll K Hf vs ds → DvAll K H' vs ds) ?_ ?_ ?_ ?_ ?_ ?_ ?_ ?_ ?_ d
    · intro v h; cases h; exact .non
    · intro b v h; cases h; exact .bl b
    · intro b v h; cases h; exact .int b
    · intro b v h; cases h with | str _ ok => exact .str b ok
    · intro b v h; cases h; exact .ref b
    · intro ds ih v h; cases h with | tup a1 a2 => exact .tup (h1 _ _ a1) (ih a2)
    · intro ds ih v h; cases h with | lst a1 a2 => exact .lst (h2 _ _ a1) (ih a2)
    · intro vs h; cases h; exact .nil
    · intro d ds i1 i2 vs h; cases h with | cons a1 a2 => exact .cons (i1 a1) (i2 a2)
  refine key _ (fun b vs h => ?_) (fun b vs h => ?_)
  · rw [wo_ne fun z => (hn vs).1 (by rw [← z]; exact h)]; exact h
  · rw [wo_ne fun z => (hn vs).2 (by rw [← z]; exact h)]; exact h
theorem R.lock {H Hf : Hp} {g : Z.W.G} {sl : SL} {σ : St} {q : Addr} {vs : List (Key × V)} {kvs : List (DKey × D)} (od : Obj) (r : R X.K E H Hf g sl σ) (hi : sl[i]? = some (some (.oK kvs))) (hq : σ[i]? = some (some (.ref q))) (hH : H q = some (.dK vs)) (kv : KVd X.K Hf vs kvs) (ow : OwnOk E Hf g q) :
    R X.K E (upd H q (.frz od (.dK vs))) (upd Hf q (.frz od (.dK vs))) g (sl.set i (some (.kK kvs))) σ := by
  have sm : Same Hf (upd Hf q (.frz od (.dK vs))) := same_new ow.2.1
  have key : ∀ (j : Nat) (y : Slot), (sl.set i (some (.kK kvs)))[j]? = some (some y) → (j = i ∧ y = .kK kvs) ∨ (j ≠ i ∧ sl[j]? = some (some y)) := by
    intro j y ej
    rw [List.getElem?_set] at ej
    split at ej
    · rename_i hij
      split at ej
      · cases ej; exact .inl ⟨hij.symm, rfl⟩
      · cases ej
    · rename_i hij
      exact .inr ⟨fun z => hij z.symm, ej⟩
  refine ⟨?_, fun j y ej => ?_, fun j l y z b n ej el oy oz => ?_, by rw [List.length_set]; exact r.len⟩
  · have b := r.base
    exact { ff := Same.tr b.ff sm
            fh := fun x u e => by
              by_cases hx : x = q
              · subst hx; rw [upd_same] at e ⊢; exact e
              · rw [upd_ne hx] at e ⊢; exact b.fh x u e
            keep := fun x u e n => by
              have hx : x ≠ q := fun z => by subst z; rw [ow.1] at e; cases e
              rw [upd_ne hx]; exact b.keep x u e n
            old := fun x e => by
              have hx : x ≠ q := fun z => by subst z; exact e ow.1
              rw [upd_ne hx]; exact b.old x e
            there := fun x e => by
              have hx : x ≠ q := fun z => by subst z; exact e ow.1
              rw [upd_ne hx]; exact b.there x e
            rep := Wd.loc2 b.rep (fun x φ e => same_new ow.2.1 x _ e) fun x z => by
              have hx : x ≠ q := fun w => by subst w; exact ow.2.2 z
              rw [upd_ne hx]
            dis := fun x z => by
              have hx : x ≠ q := fun w => by subst w; exact ow.2.2 z
              rw [upd_ne hx]; exact b.dis x z
            fpo := b.fpo }
  · rcases key j y ej with ⟨rfl, rfl⟩ | ⟨hj, ej'⟩
    · exact ⟨_, hq, q, vs, od, rfl, upd_same, KVd.mono sm kv⟩
    · obtain ⟨w, q1, q2⟩ := r.slot j y ej'
      refine ⟨w, q1, ?_⟩
      have hw : y.own = true → w ≠ .ref q := fun oy z => by subst z; exact r.apart i j _ y q (Ne.symm hj) hi ej' rfl oy hq q1
      match y, q2, hw with
      | .d x, q2, _ => exact Dv.mono sm x q2
      | .kK zs, ⟨b, us, o, e1, k1, k2⟩, _ => exact ⟨b, us, o, e1, sm _ _ k1, KVd.mono sm k2⟩
      | .oL zs, ⟨b, us, e1, k1, k2, k3⟩, hw =>
        have hb : b ≠ q := fun z => hw rfl (by rw [e1, z])
        exact ⟨b, us, e1, by rw [upd_ne hb]; exact k1, DvAll.mono sm zs k2, k3.1, by rw [upd_ne hb]; exact k3.2.1, k3.2.2⟩
      | .oK zs, ⟨b, us, e1, k1, k2, k3⟩, hw =>
        have hb : b ≠ q := fun z => hw rfl (by rw [e1, z])
        exact ⟨b, us, e1, by rw [upd_ne hb]; exact k1, KVd.mono sm k2, k3.1, by rw [upd_ne hb]; exact k3.2.1, k3.2.2⟩
      | .oT zs, ⟨b, us, e1, k1, k2, k3⟩, hw =>
        have hb : b ≠ q := fun z => hw rfl (by rw [e1, z])
        exact ⟨b, us, e1, by rw [upd_ne hb]; exact k1, TVd.mono sm k2, k3.1, by rw [upd_ne hb]; exact k3.2.1, k3.2.2⟩
  · have aux : ∀ (j : Nat) (y : Slot), (sl.set i (some (.kK kvs)))[j]? = some (some y) → y.own = true → sl[j]? = some (some y) := by
      intro j y ej oy
      rcases key j y ej with ⟨rfl, rfl⟩ | ⟨hj, ej'⟩
      · cases oy
      · exact ej'
    exact r.apart j l y z b n (aux j y ej oy) (aux l z el oz) oy oz
theorem Base.unlock {W : Wd} {H Hf H' Hf' : Hp} {g g' : W.G} {q : Addr} {f u : HO} (b : Base W (upd H q f) (upd Hf q f) g H' Hf' g') (h1 : H q = some u) (h2 : Hf q = none) (h3 : ¬ W.fp g q) (hfe : ∀ φ, f ≠ .ext φ := by intro φ h; cases h) : Base W H Hf g (upd H' q u) (wo Hf' q) g' := by
  have hq : (upd H q f) q ≠ none := by rw [upd_same]; simp
  have nf : ¬ W.fp g' q := fun z => by
    rcases b.fpo q z with w | w
    · exact h3 w
    · exact hq w
  exact { ff := fun x o e => by
            have hx : x ≠ q := fun z => by subst z; rw [h2] at e; cases e
            rw [wo_ne hx]; exact b.ff x o (by rw [upd_ne hx]; exact e)
          fh := fun x o e => by
            by_cases hx : x = q
            · subst hx; rw [wo_same] at e; cases e
            · rw [wo_ne hx] at e; rw [upd_ne hx]; exact b.fh x o e
          keep := fun x o e n => by
            by_cases hx : x = q
            · subst hx; rw [upd_same, ← h1]; exact e
            · rw [upd_ne hx]; exact b.keep x o (by rw [upd_ne hx]; exact e) n
          old := fun x e => by
            by_cases hx : x = q
            · subst hx; rw [wo_same, h2]
            · rw [wo_ne hx]
              have := b.old x (by rw [upd_ne hx]; exact e)
              rw [upd_ne hx] at this; exact this
          there := fun x e => by
            by_cases hx : x = q
            · subst hx; rw [upd_same]; simp
            · rw [upd_ne hx]; exact b.there x (by rw [upd_ne hx]; exact e)
          rep := Wd.loc2 b.rep (fun x φ e => by
            by_cases hx : x = q
            · subst hx; rw [b.ff x f upd_same] at e; exact absurd (Option.some.inj e) (hfe φ)
            · rw [wo_ne hx]; exact e) fun x z => by
            have hx : x ≠ q := fun w => by subst w; exact nf z
            rw [upd_ne hx]
          dis := fun x z => by
            have hx : x ≠ q := fun w => by subst w; exact nf z
            rw [wo_ne hx]; exact b.dis x z
          fpo := fun x z => by
            have hx : x ≠ q := fun w => by subst w; exact nf z
            rcases b.fpo x z with w | w
            · exact .inl w
            · rw [upd_ne hx] at w; exact .inr w }
theorem de_lock (i : Nat) (h : DE X Z E Wx e fe) : DE X Z E Wx e (eLock i fe) := by
  refine PE.imp (pe_lock h) fun σ H Q ⟨Hf, g, sl, r, q⟩ => ?_
  unfold eLock at q
  match ei : sl[i]? with
  | some (some (.oK kvs)) =>
    rw [ei] at q
    obtain ⟨v, h1, a, vs, rfl, h2, h3, h4⟩ := r.slot i _ ei
    refine ⟨a, _, h2, trivial, fun od => ⟨_, g, _, r.lock od ei h1 h2 h3 h4, ?_⟩⟩
    simp only at q
    match em : fe (sl.set i (some (.kK kvs))) g with
    | none => rw [em] at q; exact q.elim
    | some (.exc c, g') => rw [em] at q; exact q.elim
    | some (.ok d, g') =>
      rw [em] at q
      intro v H' Hf' b dv
      have hk : H' a = some (.frz od (.dK vs)) := b.keep a _ upd_same h4.2.2
      have hfa : Hf' a = some (.frz od (.dK vs)) := b.ff a _ upd_same
      refine ⟨hk, q v _ _ (b.unlock h2 h4.2.1 h4.2.2) (Dv.dropF (fun us => ⟨fun z => ?_, fun z => ?_⟩) d dv)⟩
      · rw [hfa] at z; cases z
      · rw [hfa] at z; cases z
  | some (some (.d y)) => rw [ei] at q; exact q.elim
  | some (some (.oL y)) => rw [ei] at q; exact q.elim
  | some (some (.oT y)) => rw [ei] at q; exact q.elim
  | some (some (.kK y)) => rw [ei] at q; exact q.elim
  | some none => rw [ei] at q; exact q.elim
  | none => rw [ei] at q; exact q.elim
theorem pv_keyAt {K : PySem.W.Frag} {Hf : Hp} : ∀ {vs : List (Key × V)} {kvs : List (DKey × D)} {j : Nat} {k : Key} {v : V}, KVd K Hf vs kvs → vs[j]? = some (k, v) → ∃ q, kvs[j]? = some q ∧ k = toKey q.1
  | _, _, j, k, v, .nil, e => by simp at e
  | _, _, 0, k, v, .cons (a := p) (b := q) h t, e => by
    simp at e; subst e; exact ⟨q, rfl, h.1⟩
  | _, _, j + 1, k, v, .cons h t, e => by
    simp at e
    obtain ⟨q, e1, e2⟩ := pv_keyAt t e
    exact ⟨q, by simpa using e1, e2⟩

theorem mKl_go {α β : Type} {Rl : Z.W.G → Hp → Hp → β → α → Prop} {σ : St} {sl : SL} {H Hf : Hp} {g : Z.W.G} {k : List (DKey × D) → M Z.W.G α} {Q : β → Hp → Prop} (r : R X.K E H Hf g sl σ) (h : go Z Rl Wx σ (M.bind (mKl i) k sl g) H Hf g Q) :
    ∃ a kvs vs o, σ[i]? = some (some (.ref a)) ∧ Hf a = some (.frz o (.dK vs)) ∧ KVd X.K Hf vs kvs ∧ go Z Rl Wx σ (k kvs sl g) H Hf g Q := by
  unfold M.bind mKl at h
  match e : sl[i]? with
  | some (some (.kK kvs)) =>
    rw [e] at h
    obtain ⟨v, h1, a, vs, o, rfl, h2, h3⟩ := r.slot i _ e
    exact ⟨a, kvs, vs, o, h1, h2, h3, h⟩
  | some (some (.oK kvs)) => rw [e] at h; exact h.elim
  | some (some (.d y)) => rw [e] at h; exact h.elim
  | some (some (.oL y)) => rw [e] at h; exact h.elim
  | some (some (.oT y)) => rw [e] at h; exact h.elim
  | some none => rw [e] at h; exact h.elim
  | none => rw [e] at h; exact h.elim
/-- the keys of slot i are all right texts and numbers -/
def okKs (kvs : List (DKey × D)) : Bool := kvs.all fun q => match q.1 with
  | .inl _ => true
  | .inr s => okSb s
theorem di_keys (hN : X.N[i]? = some x := by rfl) (hv : Vis X.env.scope x := by first | exact Or.inl rfl | exact Or.inr (Or.inl rfl) | exact Or.inr (Or.inr rfl)) (hd : (x == ("__debug__" : Str)) = false := by decide)
    (hcd : (x == ("__classdict__" : Str)) = false := by decide) : DI X Z E Wx tg (.Name x p) (M.bind (mKl i) fun kvs => M.lift (if okKs kvs = true then some (kvs.map fun q => kD q.1) else none)) := by
  refine PI.imp (pi_keys (pe_var hN hv hd hcd)) fun σ H Rk ⟨Hf, g, sl, r, q⟩ => ?_
  obtain ⟨a, kvs, vs, o, h1, h2, h3, q1⟩ := mKl_go r q
  obtain ⟨ds, ed, k⟩ := go_lift q1
  split at ed
  · rename_i hok
    cases ed
    refine ⟨_, h1, a, o, rfl, .inl ⟨vs, r.base.fh _ _ h2, k _ _ _ r.base.self ?_⟩⟩
    show Walk _ _ _ _
    rw [List.length_map, ← pv_len h3]
    refine ⟨fun i H hi s => ⟨s _ _ h2, hi⟩, fun H s => ⟨s _ _ h2, Nat.le_refl _⟩, fun i H y H' hi s hy => ?_⟩
    obtain ⟨e1, ky, v, e2, e3⟩ := hy
    obtain ⟨q, e4, e5⟩ := pv_keyAt h3 e2
    refine ⟨kD q.1, by rw [List.getElem?_map, e4]; rfl, .inl ⟨e1, ?_⟩⟩
    rw [e3, e5]
    have hq := List.all_eq_true.mp hok q (List.mem_of_getElem? e4)
    match h : q.1 with
    | .inl z => exact .int z
    | .inr t =>
      rw [h] at hq
      exact .str t (okSb_ok hq)
  · cases ed
/-- x, y = a, b where a name is also read by a block: a pair is made -/
theorem R.tupU {H Hf : Hp} {g : Z.W.G} {sl : SL} {σ : St} {q : Addr} (o : HO) (r : R X.K E H Hf g sl σ) (hq : H q = none) : R X.K E (upd H q o) Hf g sl σ := r.step (r.base.self.allocU o hq)
theorem ds_parC {fx fy : M Z.W.G Slot} {i j : Nat} {x y : Str} {px py pt : Pos} {kt k2 pt2} (hc : X.calm = true) (hN : X.N.Nodup) (hi : X.N[i]? = some x) (hj : X.N[j]? = some y)
    (hx : Loc X.env.scope x) (hy : Loc X.env.scope y) (ha : DX X Z E Wx a fx) (hb : DX X Z E Wx b fy)
    (hf : X.fn x = true ∨ X.env.scope.names.lookup x = some .local := by first | exact .inl rfl | exact .inr rfl | assumption) (hf2 : X.fn y = true ∨ X.env.scope.names.lookup y = some .local := by first | exact .inl rfl | exact .inr rfl | assumption)
    (hw : swappedStores [.Tuple [.Name x px, .Name y py] kt pt] (.Tuple [a, b] k2 pt2) X.env = pure none := by rfl)
    (hn : (assignEach [.Name x px, .Name y py] X.env).length = 2 := by rfl) (hst : (assignEach [.Name x px, .Name y py] X.env).findIdx? (·.1) = none := by rfl)
    (hs1 : (assignEach [.Name x px, .Name y py] X.env).map (·.2) = assign (.Name x px) X.env :: (assignEach [.Name y py] X.env).map (·.2) := by rfl) (hs2 : (assignEach [.Name y py] X.env).map (·.2) = assign (.Name y py) X.env :: (assignEach [] X.env).map (·.2) := by rfl)
    (hs : swapsWithSole [.Tuple [.Name x px, .Name y py] kt pt] (.Tuple [a, b] k2 pt2) pos.line X.env = pure false := by rfl) (h1 : starEach [a, b] X.env = (false, eval a X.env) :: starEach [b] X.env := by rfl) (h2 : starEach [b] X.env = (false, eval b X.env) :: starEach [] X.env := by rfl)
    (ht : (assignEach [.Tuple [.Name x px, .Name y py] kt pt] X.env).map (·.2) = [assign (.Tuple [.Name x px, .Name y py] kt pt) X.env] := by rfl) :
    DS X Z E Wx (.Assign [.Tuple [.Name x px, .Name y py] kt pt] (.Tuple [a, b] k2 pt2) pos) (sPar i j fx fy) := by
  refine PS.imp (ps_asg (pe_tup (pa_cons ha (pa_cons hb pa_nil h2) h1)) (pg_tup hc (pgs_cons (pg_name hN hi hx hf) (pgs_cons (pg_name hN hj hy hf2) pgs_nil hs2) hs1) hn hst) hs hw ht) fun D σ H ⟨Hf, g, sl, r, q⟩ => ?_
  refine ⟨Hf, g, sl, r, (goS_do (Rl := RlX X.K E H) r q).mono fun v H1 ⟨Hf1, g1, s1, b1, r1, d1, q1⟩ => ⟨Hf1, g1, sl, r1, (goS_do (Rl := RlX X.K E H1) r1 q1).mono fun w H2 ⟨Hf2, g2, s2, b2, r2, d2, q2⟩ => ?_⟩⟩
  refine ⟨by show 2 ≤ sizeLine; decide, fun p hp => ?_⟩
  have rA := R.set_new (X := X) (i := i) r r1 d1
  have rB := R.set_new (X := X) (i := j) rA (rA.step b2) d2
  exact ⟨p, [v, w], rfl, SqT.of upd_same, rfl, v, [w], rfl, w, [], rfl, rfl, q2 _ _ Hf2 (same_refl _) (rB.tupU _ hp)⟩
end
end DL
namespace DL
open PySem L2
/-- a def of the module -/
structure DefAt (K : PySem.W.Frag) (mg : Str → Option Value) (x : Str) (st : Stmt) (f : Addr) (fd : FuncData) : Prop where
  fn : Fun K x x st f fd
  mgx : mg x = some (.ref f)
theorem DefAt.kp {K : PySem.W.Frag} {mg : Str → Option Value} {x : Str} {st : Stmt} {f : Addr} {fd : FuncData} (d : DefAt K mg x st f fd) : PySem.W.keepIn K (.ref f) = true := d.fn.kp
theorem cx_false {P : Program} {w : World} {outer : List Env} {H : Hp} {s : Shared} {u : Value} {s' : Shared} (h : L2.CX P w outer H s (fun _ _ _ => False) u s') : False := by
  obtain ⟨_, _, _, _, _, _, _, _, _, _, _, _, z⟩ := h
  exact z
def iKeyD {G : Type} (i : Nat) : M G (List D) := M.bind (mKl i) fun kvs => M.lift (if okKs kvs = true then some (kvs.map fun q => kD q.1) else none)
/-- a, b = e, e a tuple -/
def sUnp {G : Type} (f : M G D) (t : Tg) : SM G := sDo f fun d => fun sl g => match t d sl with
  | some sl' => some (.nx, sl', g)
  | none => none
section
variable {X : Cx} {Z : Cn} {E : Ent Z.W} {Wx : WX} {e a b c tg : Expr} {pos p ap cp : Pos} {fe fa fb fc : M Z.W.G D} {i : Nat} {x : Str}
theorem ds_unp {u : TG} {ixs : List Nat} {t : Tg} (he : DE X Z E Wx e fe) (hg : DG X tg u ixs t) (hs : swapsWithSole [tg] e pos.line X.env = pure false := by rfl) (hw : swappedStores [tg] e X.env = pure none := by rfl)
    (h1 : (assignEach [tg] X.env).map (·.2) = [assign tg X.env] := by rfl) : DS X Z E Wx (.Assign [tg] e pos) (sUnp fe t) := by
  refine PS.imp (ps_asg he hg.pg hs hw h1) fun D σ H ⟨Hf, g, sl, r, q⟩ => ?_
  refine ⟨Hf, g, sl, r, (goS_do (Rl := RlD X.K) r q).mono fun v H1 ⟨Hf1, g1, d, b1, r1, d1, q1⟩ => ?_⟩
  match et : t d sl with
  | none => rw [et] at q1; exact q1.elim
  | some sl' =>
    rw [et] at q1
    exact hg.ok Z E H1 Hf1 g1 sl sl' σ v d _ r1 d1 et fun σ' r2 _ => q1 σ' H1 Hf1 (same_refl _) r2

/-- a new list is told to stand -/
theorem go_newL {σ : St} {m : Out Z.W.G D} {H Hf : Hp} {g : Z.W.G} {Q : VK} (q : go Z (RlD X.K) Wx σ m H Hf g Q) : go Z (NewL X.K H) Wx σ m H Hf g Q := by
  match m, q with
  | some (.exc c, g1), q => exact q
  | some (.ok d, g1), q =>
    intro v H1 Hf1 b1 ⟨p, vs, ds, e1, e2, h0, h1, h2, h3, h4⟩
    subst e1 e2
    refine q _ H1 (upd Hf1 p (.lst vs)) ?_ (.lst upd_same (DvAll.mono (same_new h2) ds h3))
    exact { ff := Same.tr b1.ff (same_new h2)
            fh := fun x u e => by
              by_cases hx : x = p
              · subst hx; rw [upd_same] at e; cases e; exact h1
              · rw [upd_ne hx] at e; exact b1.fh x u e
            keep := b1.keep
            old := fun x e => by
              have hx : x ≠ p := fun q => by subst q; exact e h0
              rw [upd_ne hx]; exact b1.old x e
            there := b1.there
            rep := Wd.loc3 b1.rep (same_new h2)
            dis := fun x q => by
              have hx : x ≠ p := fun z => by subst z; exact h4 q
              rw [upd_ne hx]; exact b1.dis x q
            fpo := b1.fpo }
section
variable {elt iter : Expr} {ifs : List Expr} {scope : Scope} {own : List (Str × Nat)} {fi : M Z.W.G (List D)} {ft : M Z.W.G Bool} {u : TG} {ixs : List Nat} {t : Tg} {y : Str} {py spos : Pos}
theorem ds_setLc {i : Nat} (hc : X.calm = true) (hN : X.N.Nodup) (hy : X.N[i]? = some y) (hyl : X.env.scope.names.lookup y = some .local) (hi : DI X Z E Wx tg iter fi) (ok : BlkOk X.N X.env.scope scope own)
    (hg : ∀ (s : Shared) (H : Hp) (C : Addr) (cl : List (Str × Addr)) (fp : List Addr), PG (X.blk s H scope (compEnvC scope cl C X.env) fp) tg u) (hk : TgOk X.K u ixs t)
    (ht : ∀ (s : Shared) (H : Hp) (C : Addr) (cl : List (Str × Addr)) (fp : List Addr), PTs (X.blk s H scope (compEnvC scope cl C X.env) fp) ifs (tG Z X.K E RlB W0 ft))
    (he : ∀ (s : Shared) (H : Hp) (C : Addr) (cl : List (Str × Addr)) (fp : List Addr), DE (X.blk s H scope (compEnvC scope cl C X.env) fp) Z E W0 elt fe) (hix : ∀ i ∈ ixs, i ∈ own.map (·.2))
    (hsw : swapsWith (.ListComp elt [⟨tg, iter, ifs, 0⟩] scope pos) (some (.Name y py)) spos.line X.env = pure true) (hs : ∀ x, foldedSetIterable iter X.env x = pure x := by intro _; rfl) :
    DS X Z E Wx (.Assign [.Name y py] (.ListComp elt [⟨tg, iter, ifs, 0⟩] scope pos) spos) (sAsg i (xL (eComp fi (own.map (·.2)) t ft fe))) := by
  refine PS.imp (ps_setLc (te := tG Z X.K E (RlD X.K) W0 fe) hc hN hy hyl hsw hi ok hg ht he hs) fun D σ H ⟨Hf, g, sl, r, q⟩ => ?_
  have q1 := goS_do (Rl := RlX X.K E H) r q
  refine lc_run r ((go_bind (Rm := NewL X.K H) q1).mono fun v H1 ⟨Hf1, g1, d, b1, d1, q2⟩ => ?_) hix hk
  obtain ⟨p, vs, ds, rfl, rfl, h0, h1, h2, h3, h4⟩ := d1
  obtain ⟨xs, ex, q3⟩ := go_bl q2
  cases ex
  have hE : E.H p = none := by
    cases e : E.H p with
    | none => rfl
    | some o => exact absurd h0 (r.base.there p (by rw [e]; simp))
  obtain ⟨Hf2, g2, s2, b2, r2, d2, q4⟩ := q3 _ _ _ b1.self ⟨⟨p, vs, rfl, h1, h3, hE, h2, h4⟩, fun _ a ea => by cases ea; exact h0⟩
  exact q4 _ H1 Hf2 (same_refl _) (R.set_new r r2 d2)
theorem ds_setLd {i : Nat} (hc : X.calm = true) (hN : X.N.Nodup) (hy : X.N[i]? = some y) (hyl : X.env.scope.names.lookup y = some .local) (hi : DI X Z E Wx tg iter fi) (ok : BlkOk X.N X.env.scope scope own)
    (hg : ∀ (s : Shared) (H : Hp) (C : Addr) (cl : List (Str × Addr)) (fp : List Addr), PG (X.blk s H scope (compEnvC scope cl C X.env) fp) tg u) (hk : TgOk X.K u ixs t)
    (ht : ∀ (s : Shared) (H : Hp) (C : Addr) (cl : List (Str × Addr)) (fp : List Addr), PTs (X.blk s H scope (compEnvC scope cl C X.env) fp) ifs (tG Z X.K E RlB W0 ft))
    (he : ∀ (s : Shared) (H : Hp) (C : Addr) (cl : List (Str × Addr)) (fp : List Addr), DE (X.blk s H scope (compEnvC scope cl C X.env) fp) Z E W0 elt fe) (hix : ∀ i ∈ ixs, i ∈ own.map (·.2))
    (hsw : swapsWith (.ListComp elt [⟨tg, iter, ifs, 0⟩] scope pos) (some (.Name y py)) spos.line X.env = pure true) (hs : ∀ x, foldedSetIterable iter X.env x = pure x := by intro _; rfl) :
    DS X Z E Wx (.Assign [.Name y py] (.ListComp elt [⟨tg, iter, ifs, 0⟩] scope pos) spos) (sAsg i (xD (eComp fi (own.map (·.2)) t ft fe))) := by
  refine PS.imp (ps_setLc (te := tG Z X.K E (RlD X.K) W0 fe) hc hN hy hyl hsw hi ok hg ht he hs) fun D σ H ⟨Hf, g, sl, r, q⟩ => ?_
  have q1 := goS_do (Rl := RlX X.K E H) r q
  refine lc_run r (go_newL ((go_bind (Rm := RlD X.K) q1).mono fun v H1 ⟨Hf1, g1, d, b1, d1, q2⟩ => ?_)) hix hk
  obtain ⟨Hf2, g2, s2, b2, r2, d2, q4⟩ := q2 _ _ _ b1.self ⟨d1, fun z => by cases z⟩
  exact q4 _ H1 Hf2 (same_refl _) (R.set_new r r2 d2)
end
end
end DL
namespace HT
open PySem PySem.Spec PyProof.Rows L2
section
variable {prog : Program} {w : World} {A : Around} {E : Value → Shared → Prop} {s : Shared}
theorem adjust_rev (n : Nat) : Builtin.Slice.sliceAdjust none none (-1) (n : Int) = ((n : Int) - 1, -1) := rfl
theorem places_rev (n : Nat) : Builtin.Slice.slicePlaces ((n : Int) - 1) (-1) (-1) = n := by
  unfold Builtin.Slice.slicePlaces
  simp
  omega
theorem sliceApplied_rev {sl : Addr} {t : Tok} {n : Nat} {Q : Int × Int × Nat → Shared → Prop} (hs : s.heap.IsSliceOf sl .none .none (.int (-1) t))
    (h : Q ((n : Int) - 1, -1, n) s) : wpAny (model prog w) A (Builtin.Slice.sliceApplied (.ref sl) (pure (n : Int))) Q E s := by
  obtain ⟨os, hos, hcs, hds⟩ := id hs
  unfold Builtin.Slice.sliceApplied Builtin.Slice.sliceFields
  refine wpAny_bind (wpAny_bind (wpAny_field hos hds (x := .none) rfl (wpAny_bind (wpAny_field hos hds (x := .none) rfl (wpAny_bind (wpAny_field hos hds (x := .int (-1) t) rfl (wpAny_pure ?_)))))))
  refine wpAny_bind (slicePart_int ?_)
  show wpAny _ _ (if ((-1 : Int) == 0) = true then _ else _) _ _ s
  rw [if_neg (by decide)]
  refine wpAny_bind (slicePart_none (wpAny_bind (slicePart_none (wpAny_bind (wpAny_pure ?_)))))
  show wpAny _ _ (match Builtin.Slice.sliceAdjust none none (-1) (n : Int) with | (lo, hi) => pure (lo, (-1 : Int), Builtin.Slice.slicePlaces lo hi (-1))) _ _ s
  rw [adjust_rev n]
  show wpAny _ _ (pure ((n : Int) - 1, (-1 : Int), Builtin.Slice.slicePlaces ((n : Int) - 1) (-1) (-1))) _ _ s
  rw [places_rev]
  exact wpAny_pure h
theorem fm_congr {α β : Type} {f g : α → Option β} : ∀ {l : List α}, (∀ x ∈ l, f x = g x) → l.filterMap f = l.filterMap g
  | [], _ => rfl
  | x :: l, h => by
    rw [List.filterMap_cons, List.filterMap_cons, h x (by simp), fm_congr fun y hy => h y (by simp [hy])]
theorem pick_rev (xs : Array Value) : ((List.range xs.size).filterMap fun (m : Nat) => xs[((xs.size : Int) - 1 + (m : Int) * (-1)).toNat]?).toArray = xs.toList.reverse.toArray := by
  have e : (List.range xs.size).filterMap (fun (m : Nat) => xs[((xs.size : Int) - 1 + (m : Int) * (-1)).toNat]?) = ((List.range xs.size).map fun k => xs.size - 1 - k).filterMap (xs[·]?) := by
    rw [List.filterMap_map]
    refine fm_congr fun m hm => ?_
    have := List.mem_range.mp hm
    have e : ((xs.size : Int) - 1 + (m : Int) * (-1)).toNat = xs.size - 1 - m := by omega
    rw [e]
    rfl
  rw [e, PySem.W.krv_range, List.filterMap_reverse, PySem.W.krv_all]
theorem getItem_tuple_rev {t sl : Addr} {items : Array Value} {tk : Tok} {Q : Value → Shared → Prop} (ht : IsTup s.heap t items) (hs : s.heap.IsSliceOf sl .none .none (.int (-1) tk))
    (h : Q (.ref s.heap.objs.size) { s with heap := s.heap.push { cls := .type "tuple", data := .seq items.toList.reverse.toArray } })
    (hsz : items.size ≤ sizeLine) : wpAny (model prog w) A (getItem (.ref t) (.ref sl)) Q E s := by
  have htake : sizeOk (.seq items.toList.reverse.toArray) := by
    show items.toList.reverse.toArray.size ≤ sizeLine
    rw [List.size_toArray, List.length_reverse, Array.length_toList]
    exact hsz
  obtain ⟨os, hos, hcs, hds⟩ := id hs
  have hTs : s.TypeIs (.ref sl) "slice" := ⟨os, hos, hcs⟩
  unfold getItem
  try with_reducible refine wpAny_holding ?_
  first | refine wpAny_bind (wpAny_pure ?_) | skip
  refine wpAny_bind (wpAny_sequenceKey ht.typeIs (by decide) ?_)
  refine wpAny_bind (wpAny_callSpecial?_slot (name := Str.ofString "__getitem__") ht.typeIs PyProof.Rows.slot_tuple_getitem
    (wpAny_call_entry PyProof.Rows.slot_tuple_getitem ht.typeIs entry_tuple_getitem ?_ (args_tuple_getitem _ _)))
  show wpAny _ _ (Builtin.Tuple.tupleItemsOf (.ref t) >>= _) _ _ s
  refine wpAny_bind (tupleItemsOf_ ht (wpAny_bind (wpAny_typeOf hTs ?_)))
  rw [if_pos (by decide)]
  refine wpAny_bind (sliceApplied_rev hs ?_)
  have hno : ¬ ((((items.size : Int) - 1) == 0 && (-1 : Int) == 1 && items.size == items.size) = true) := by simp
  show wpAny _ _ (if (((items.size : Int) - 1) == 0 && (-1 : Int) == 1 && items.size == items.size) = true then _ else _) _ _ s
  rw [if_neg hno, pick_rev]
  first
    | exact wpAny_bind (m := Builtin.Tuple.tupleExact _) (wpAny_newObj_type (wpAny_pure ⟨_, rfl, wpAny_pure h⟩) htake)
    | exact wpAny_bind (wpAny_bind (m := Builtin.Tuple.tupleExact _) (wpAny_newObj_type (wpAny_pure ⟨_, rfl, wpAny_pure h⟩) htake))
    | exact wpAny_bind (wpAny_bind (m := Builtin.Tuple.tupleExact _) (wpAny_newObj_type (wpAny_pure (wpAny_pure ⟨_, rfl, wpAny_pure h⟩)) htake))
end
end HT
namespace L2
open PySem PySem.Spec PyProof.Rows
section
variable {X : Cx}
def tRevT (K : PySem.W.Frag) (te : TE) : TE := fun σ H Q => te σ H fun x H1 => ∃ a xs, x = .ref a ∧ SqT K H1 a xs ∧ ∀ p, H1 p = none → Q (.ref p) (upd H1 p (.tup xs.reverse))
theorem pe_revT {e : Expr} {te : TE} {k : Nat} {p1 p2 p3 pos : Pos} (he : PE X e te) : PE X (.Subscript e (.Slice none none (some (.UnaryOp .USub (.Constant (.int 1) k p1) p2)) p3) pos) (tRevT X.K te) := by
  refine ⟨fun pins s σ H Q I h => ?_⟩
  refine Subscript_ (thn (he.run pins s σ H _ I h) fun v s1 ⟨x, H1, I1, r1, a, xs, ex, hx, q⟩ => ?_)
  subst ex
  cases r1
  have hst : PO X (some (.UnaryOp .USub (.Constant (.int 1) k p1) p2)) (tPart (tUn (rU fun i => .int (-i)) (tC (.int 1)))) := po_some (pe_un un_neg pe_int)
  refine wpAny_Slice (thn (po_none.run pins s1 σ H1 (fun o H2 => o = none ∧ H2 = H1) I1 ⟨rfl, rfl⟩) fun vl s2 ⟨l, H2, I2, pl, el, e2⟩ => ?_)
  subst el e2
  refine thn (po_none.run pins s2 σ H2 (fun o H3 => o = none ∧ H3 = H2) I2 ⟨rfl, rfl⟩) fun vu s3 ⟨u, H3, I3, pu, eu, e3⟩ => ?_
  subst eu e3
  refine thn (hst.run pins s3 σ H3 (fun o H4 => o = some (-1) ∧ H4 = H3) I3 ⟨1, rfl, -1, rfl, rfl, rfl⟩) fun vs s4 ⟨o, H4, I4, ps, eo, e4⟩ => ?_
  subst eo e4
  cases pl
  cases pu
  cases ps with
  | int i tk =>
    have I5 : Inv X pins σ H4 { s4 with heap := s4.heap.push { cls := .type "slice", data := .fields #[.none, .none, .int (-1) tk] } } := I4.kept (t' := s4.toks) fun b ob q => Heap.get?_push_of_some _ q
    obtain ⟨its, r, ht, hz⟩ := I5.tuple hx
    have hlen := r.length
    show wpAny (model X.prog X.w) X.A (subscriptTail e (.Slice none none (some (.UnaryOp .USub (.Constant (.int 1) k p1) p2)) p3) (.ref a) (.ref s4.heap.objs.size)) (EP X pins σ Q) X.xe { s4 with heap := s4.heap.push { cls := .type "slice", data := .fields #[.none, .none, .int (-1) tk] } }
    refine tail_any (ops := [.ref a, .ref s4.heap.objs.size]) ht.typeIs (PyProof.Rows.slot_tuple_getitem.lookup) ?_ (by with_unfolding_all rfl)
    refine HT.getItem_tuple_rev ht (Heap.IsSliceOf.new _ .none .none (.int (-1) tk)) ?_ (by rw [List.size_toArray, ← hlen]; exact hz)
    refine ⟨.ref _, _, I5.laid (t' := s4.toks) (o := .tup xs.reverse) (fun b ob q => Heap.get?_push_of_some _ q) (Nat.le_refl _) ?_, rfl, q _ (I5.hok.fresh (Nat.le_refl _))⟩
    exact ⟨by rw [List.length_reverse]; exact hz, _, r.reverse, IsTup.new _ _⟩
end
end L2
namespace L2
open PySem PySem.Spec PyProof.Rows
section
variable {X : Cx}
theorem strRev (n : Nat) : Builtin.Str.strSliceIndices none none (-1) n = (List.range n).map fun k => n - 1 - k := by
  show sliceRange ((n : Int) - 1) (-1) (-1) = _
  exact PySem.W.krv_sliceRange n
def tRevS (te : TE) : TE := fun σ H Q => te σ H fun x H1 => ∃ z, x = .str z ∧ z.length ≤ sizeLine ∧ Q (.str ⟨z.cps.toList.reverse.toArray⟩) H1
theorem pe_revS {e : Expr} {te : TE} {k : Nat} {p1 p2 p3 pos : Pos} (he : PE X e te) : PE X (.Subscript e (.Slice none none (some (.UnaryOp .USub (.Constant (.int 1) k p1) p2)) p3) pos) (tRevS te) := by
  refine ⟨fun pins s σ H Q I h => ?_⟩
  refine Subscript_ (thn (he.run pins s σ H _ I h) fun v s1 ⟨x, H1, I1, r1, z, ex, hz, q⟩ => ?_)
  subst ex
  obtain ⟨t, rfl⟩ := r1
  have hst : PO X (some (.UnaryOp .USub (.Constant (.int 1) k p1) p2)) (tPart (tUn (rU fun i => .int (-i)) (tC (.int 1)))) := po_some (pe_un un_neg pe_int)
  refine wpAny_Slice (thn (po_none.run pins s1 σ H1 (fun o H2 => o = none ∧ H2 = H1) I1 ⟨rfl, rfl⟩) fun vl s2 ⟨l, H2, I2, pl, el, e2⟩ => ?_)
  subst el e2
  refine thn (po_none.run pins s2 σ H2 (fun o H3 => o = none ∧ H3 = H2) I2 ⟨rfl, rfl⟩) fun vu s3 ⟨u, H3, I3, pu, eu, e3⟩ => ?_
  subst eu e3
  refine thn (hst.run pins s3 σ H3 (fun o H4 => o = some (-1) ∧ H4 = H3) I3 ⟨1, rfl, -1, rfl, rfl, rfl⟩) fun vs s4 ⟨o, H4, I4, ps, eo, e4⟩ => ?_
  subst eo e4
  cases pl
  cases pu
  cases ps with
  | int i tk =>
    have I5 : Inv X pins σ H4 { s4 with heap := s4.heap.push { cls := .type "slice", data := .fields #[.none, .none, .int (-1) tk] } } := I4.kept (t' := s4.toks) fun b ob q => Heap.get?_push_of_some _ q
    show wpAny (model X.prog X.w) X.A (subscriptTail e (.Slice none none (some (.UnaryOp .USub (.Constant (.int 1) k p1) p2)) p3) (.str z t) (.ref s4.heap.objs.size)) (EP X pins σ Q) X.xe { s4 with heap := s4.heap.push { cls := .type "slice", data := .fields #[.none, .none, .int (-1) tk] } }
    refine tail_any (ops := [.str z t, .ref s4.heap.objs.size]) (typeIs_str _ _ _) F.slot_str_getitem.lookup ?_ (by with_unfolding_all rfl)
    refine wpAny_getItem_str_slice (l := none) (u := none) (st := some (-1, tk)) ⟨_, Heap.get?_push_size _ rfl, rfl, rfl⟩ rfl ?_
    have ep : ((slicePicked z none none (some (-1, tk))).filterMap (z.cps[·]?)) = z.cps.toList.reverse := by
      show ((Builtin.Str.strSliceIndices none none (-1) z.length).filterMap (z.cps[·]?)) = _
      rw [strRev]
      show (((List.range z.cps.size).map fun k => z.cps.size - 1 - k).filterMap (z.cps[·]?)) = _
      rw [PySem.W.krv_range, List.filterMap_reverse, PySem.W.krv_all]
    show Made.post (if ((-1 : Int) == 1 && _) = true then _ else Made.str ⟨((slicePicked z none none (some (-1, tk))).filterMap (z.cps[·]?)).toArray⟩) _ _
    rw [if_neg (by simp), ep]
    refine ⟨?_, .str _, H4, I5.tok _, ⟨_, rfl⟩, q⟩
    show z.cps.toList.reverse.toArray.size ≤ _
    rw [List.size_toArray, List.length_reverse, Array.length_toList]
    exact hz
end
end L2
namespace DL
open PySem L2
def revTD : D → Option D
  | .tup xs => some (.tup xs.reverse)
  | _ => none
def revLD : D → Option D
  | .lst xs => some (.lst xs.reverse)
  | _ => none
def revSD : D → Option D
  | .str s => some (.str s.reverse)
  | _ => none
section
variable {X : Cx} {Z : Cn} {E : Ent Z.W} {Wx : WX} {e a b c : Expr} {pos p p1 p2 p3 : Pos} {k : Nat} {fe fa fb fc : M Z.W.G D}
theorem de_revT (ha : DR X Z E Wx a fa) : DE X Z E Wx (.Subscript a (.Slice none none (some (.UnaryOp .USub (.Constant (.int 1) k p1) p2)) p3) pos) (e1 revTD fa) := by
  refine PE.imp (pe_revT ha) fun σ H Q ⟨Hf, g, sl, r, q⟩ => ⟨Hf, g, sl, r, (go_bind (Rm := RlR X.K) q).mono fun x H1 ⟨Hf1, g1, c, b1, d1, q1⟩ => ?_⟩
  obtain ⟨d, ed, kk⟩ := go_lift q1
  match c, ed, d1 with
  | .tup xs, ed, d1 =>
    cases ed
    obtain ⟨p, vs, rfl, h1, h2⟩ := d1.tup
    exact ⟨p, vs, rfl, SqT.of (b1.fh _ _ h1), fun p hp => kk _ _ _ (b1.self.alloc (.tup vs.reverse) hp) (.tup upd_same (DvAll.mono (same_new (b1.hn hp)) _ h2.reverse))⟩
theorem de_revL (ha : DR X Z E Wx a fa) : DE X Z E Wx (.Subscript a (.Slice none none (some (.UnaryOp .USub (.Constant (.int 1) k p1) p2)) p3) pos) (e1 revLD fa) := by
  refine PE.imp (pe_revL ha) fun σ H Q ⟨Hf, g, sl, r, q⟩ => ⟨Hf, g, sl, r, (go_bind (Rm := RlR X.K) q).mono fun x H1 ⟨Hf1, g1, c, b1, d1, q1⟩ => ?_⟩
  obtain ⟨d, ed, kk⟩ := go_lift q1
  match c, ed, d1 with
  | .lst xs, ed, d1 =>
    cases ed
    obtain ⟨p, vs, rfl, h1, h2⟩ := d1.lst b1.fh
    exact ⟨p, vs, rfl, SqL.of h1, fun p hp => kk _ _ _ (b1.self.alloc (.lst vs.reverse) hp) (.lst upd_same (DvAll.mono (same_new (b1.hn hp)) _ h2.reverse))⟩
theorem de_revS (ha : DR X Z E Wx a fa) : DE X Z E Wx (.Subscript a (.Slice none none (some (.UnaryOp .USub (.Constant (.int 1) k p1) p2)) p3) pos) (e1 revSD fa) := by
  refine PE.imp (pe_revS ha) fun σ H Q ⟨Hf, g, sl, r, q⟩ => ⟨Hf, g, sl, r, (go_bind (Rm := RlR X.K) q).mono fun x H1 ⟨Hf1, g1, c, b1, d1, q1⟩ => ?_⟩
  obtain ⟨d, ed, kk⟩ := go_lift q1
  match c, ed, d1 with
  | .str s, ed, d1 =>
    cases ed
    obtain ⟨rfl, ok⟩ := d1.str
    refine ⟨mkS s, rfl, okS_lim ok, ?_⟩
    rw [mkS_cps]
    exact kk _ _ _ b1.self (.str s.reverse ⟨by rw [List.length_reverse]; exact ok.1, fun c hc => ok.2 c (List.mem_reverse.mp hc)⟩)
end
end DL
namespace L2
open PySem PySem.Spec PyProof.Rows
section
variable {prog : Program} {w : World} {A : Around} {E : Value → Shared → Prop} {s : Shared}
/-- a tuple's items, in a row -/
theorem collect_tup {l : Addr} {vs : List Value} {Q : List Value → Shared → Prop} (ht : IsTup s.heap l vs.toArray) (hsz : vs.length ≤ sizeLine)
    (h : ∀ h', (∀ b o, s.heap.get? b = some o → h'.get? b = some o) → s.heap.objs.size ≤ h'.objs.size → Q vs { s with heap := h' }) : wpAny (model prog w) A (collect (.ref l)) Q E s := by
  obtain ⟨o, ho, hc, n, hd⟩ := id ht
  unfold collect
  refine wpAny_bind (wpAny_runValue (codeAny_builtin entry_proto_collect' ?_))
  show wpAny _ _ (do again (.builtin "list.__iadd__" ⟨[← newList [], .ref l], []⟩)) _ _ s
  refine wpAny_bind (wpAny_newList (wpAny_pure ⟨Code.quiet_builtin _ (by decide +kernel), codeAny_builtin entry_list_iadd' ?_⟩))
  show wpAny _ _ (Builtin.List.listExtendWith (.ref s.heap.objs.size) (.ref l) (.ref s.heap.objs.size)) _ _ { s with heap := s.heap.push (seqObj "list" #[] 0) }
  unfold Builtin.List.listExtendWith
  have ho' : (s.heap.push (seqObj "list" #[] 0)).get? l = some o := Heap.get?_push_of_some _ ho
  refine wpAny_bind (wpAny_typeOf (T := "tuple") ⟨o, ho', hc⟩ ?_)
  have ty : (Value.type "tuple" == Value.type "tuple") = true := by rfl
  rw [if_pos (by rw [ty]; simp)]
  refine wpAny_bind (listItems_at ho' hd (wpAny_bind (listItems_at (xs := #[]) (n := 0) (Heap.get?_push_size _ rfl) rfl ?_)))
  rw [if_neg (by simp)]
  refine wpAny_bind (listUpdate_at (xs := #[]) (n := 0) (Heap.get?_push_size _ rfl) rfl (wpAny_pure ?_) (Nat.zero_le _) (by show (#[] ++ vs.toArray).size ≤ sizeLine + 1; simp only [Array.size_append, List.size_toArray, List.length_nil]; omega))
  show wpAny (model prog w) A (do
      let o ← load s.heap.objs.size
      match o.data with
      | .seq xs _ => pure xs.toList
      | _ => unsupported "internal:collect") Q E { s with heap := (s.heap.push (seqObj "list" #[] 0)).update s.heap.objs.size (Obj.mapSeq (· ++ vs.toArray)) }
  refine wpAny_bind (wpAny_load (get?_update_seq (Heap.get?_push_size _ rfl) _) ?_)
  show wpAny _ _ (pure ((#[] : Array Value) ++ vs.toArray).toList) Q E _
  rw [show ((#[] : Array Value) ++ vs.toArray).toList = vs by simp]
  refine wpAny_pure (h _ (fun b u e => ?_) ?_)
  · rw [Heap.get?_update_ne _ _ _ _ (Nat.ne_of_lt (Heap.lt_size e))]
    exact Heap.get?_push_of_some _ e
  · rw [Heap.size_update, Heap.size_push]
    exact Nat.le_succ _
end
section
variable {X : Cx}
/-- sorted(t), t a tuple of ints -/
def rSortedTI (K : PySem.W.Frag) : List V → Hp → VK → Prop := fun vs H Q => ∃ (a : Addr) (ns : List Int), vs = [V.ref a] ∧ SqT K H a (ns.map V.int) ∧
  ∀ (ns' : List Int) (p : Addr), ns'.Perm ns → ns'.Pairwise (· ≤ ·) → H p = none → Q (.ref p) (upd H p (.lst (ns'.map V.int)))
theorem cr_sortedTI : CallR X (.builtin "sorted") (rSortedTI X.K) := by
  intro pins s σ H vs us Q I r h
  obtain ⟨a, ns, rfl, hs, q⟩ := h
  obtain ⟨its, rv, ht, hz⟩ := I.tuple hs
  rw [Vals.ref1 r]
  have hi := rv.ints
  have hlen := rv.length
  refine Calls.call_function_entry kind_sorted plain_sorted entry_sorted (args_sorted1 _) ?_
  unfold Builtin.«sorted»
  refine wpAny_bind (m := checkCount "sorted" 1 1 _) (wpAny_pure (wpAny_bind (collect_tup ht (by rw [← hlen]; exact hz) fun h' k hsz => ?_)))
  have I1 : Inv X pins σ H { s with heap := h' } := I.kept (t' := s.toks) k
  refine wpAny_bind (wpAny_newList ?_ (by rw [← hlen]; exact hz))
  have hL : (h'.push (seqObj "list" its.toArray 0)).get? h'.objs.size = some (seqObj "list" its.toArray 0) := Heap.get?_push_size _ rfl
  refine wpAny_bind (wpAny_holding (wpAny_call_entry slot_list_sort ⟨_, hL, rfl⟩ entry_list_sort
    (list_sort_treeAny (s := { s with heap := h'.push (seqObj "list" its.toArray 0) }) hL hi (by rw [← hlen]; exact hz) fun out ns' a1 a2 a3 => ⟨_, rfl, ?_⟩) (args_list_sort _)))
  obtain ⟨e', he'⟩ := sortedHeap_at (vs := its) (out := out) hL
  have lenY : (ns'.map V.int).length ≤ sizeLine := by
    rw [List.length_map, a2.length_eq]
    rw [List.length_map] at hz
    exact hz
  refine wpAny_pure ⟨_, rfl, .ref h'.objs.size, upd H h'.objs.size (.lst (ns'.map V.int)), I1.laid (t' := s.toks) (fun b u e => ?_) (Nat.le_refl _)
    (show ObjOk X.prog X.w _ _ _ (.lst (ns'.map V.int)) from ⟨lenY, out.toList, e', vals_of_ints a1, by rw [Array.toArray_toList]; exact he'⟩), rfl, q ns' _ a2 a3 (I1.hok.fresh (Nat.le_refl _))⟩
  have hb : b < h'.objs.size := Heap.lt_size e
  rw [sortedHeap_old (Nat.ne_of_lt hb) (by rw [size_push']; exact Nat.lt_succ_of_lt hb)]
  exact Heap.get?_push_of_some _ e
/-- sorted(xs), texts, any number of them -/
def rSortedSA (K : PySem.W.Frag) : List V → Hp → VK → Prop := fun vs H Q => ∃ (a : Addr) (xs : List Str), vs = [V.ref a] ∧ SqL K H a (xs.map V.str) ∧
  ∀ (ys : List Str) (p : Addr), ys.Perm xs → sortedS ys = true → H p = none → Q (.ref p) (upd H p (.lst (ys.map V.str)))
theorem cr_sortedSA : CallR X (.builtin "sorted") (rSortedSA X.K) := by
  intro pins s σ H vs us Q I r h
  obtain ⟨a, xs, rfl, hs, q⟩ := h
  obtain ⟨its, rv, hl, hz⟩ := I.list hs
  rw [Vals.ref1 r]
  have hlen := rv.length
  refine sorted_strsAny hl.isList rv.strs (by rw [← hlen]; exact hz) fun out ys h1 h2 h3 => ?_
  obtain ⟨ep, he'⟩ := sortedAll_at s.heap its out
  have lenY : (ys.map V.str).length ≤ sizeLine := by
    rw [List.length_map, h2.length_eq]
    rw [List.length_map] at hz
    exact hz
  exact ⟨.ref _, upd H (s.heap.objs.size + 1) (.lst (ys.map V.str)), I.laid (t' := s.toks) (fun _ _ => sortedAll_old) (Nat.le_succ _) ⟨lenY, out.toList, ep, vals_of_strs h1, he'⟩, rfl, q ys _ h2 h3 (I.hok.fresh (Nat.le_succ _))⟩
end
end L2
namespace DL
open PySem L2
/-! ### in order, with what stands twice -/
section
variable {α : Type}
def insG (le : α → α → Bool) (x : α) : List α → List α
  | [] => [x]
  | y :: r => if le x y = true then x :: y :: r else y :: insG le x r
def sortG (le : α → α → Bool) (l : List α) : List α := l.foldr (insG le) []
theorem insG_perm (le : α → α → Bool) (x : α) : ∀ l : List α, (insG le x l).Perm (x :: l)
  | [] => .refl _
  | y :: r => by
    unfold insG
    split
    · exact .refl _
    · exact ((insG_perm le x r).cons y).trans (.swap x y r)
theorem sortG_perm (le : α → α → Bool) : ∀ l : List α, (sortG le l).Perm l
  | [] => .refl _
  | x :: l => (insG_perm le x (sortG le l)).trans ((sortG_perm le l).cons x)
theorem insG_ord {le : α → α → Bool} (tot : ∀ a b, le a b = true ∨ le b a = true) (tr : ∀ a b c, le a b = true → le b c = true → le a c = true) (x : α) : ∀ {l : List α}, l.Pairwise (fun a b => le a b = true) → (insG le x l).Pairwise (fun a b => le a b = true)
  | [], _ => List.pairwise_singleton _ _
  | y :: r, h => by
    obtain ⟨h1, h2⟩ := List.pairwise_cons.mp h
    unfold insG
    split
    · rename_i hl
      refine List.pairwise_cons.mpr ⟨fun k hk => ?_, h⟩
      rcases List.mem_cons.mp hk with rfl | hk
      · exact hl
      · exact tr _ _ _ hl (h1 k hk)
    · rename_i hl
      refine List.pairwise_cons.mpr ⟨fun k hk => ?_, insG_ord tot tr x h2⟩
      rcases List.mem_cons.mp ((insG_perm le x r).mem_iff.mp hk) with rfl | hk
      · rcases tot y k with z | z
        · exact z
        · exact absurd z hl
      · exact h1 k hk
theorem sortG_ord {le : α → α → Bool} (tot : ∀ a b, le a b = true ∨ le b a = true) (tr : ∀ a b c, le a b = true → le b c = true → le a c = true) : ∀ l : List α, (sortG le l).Pairwise (fun a b => le a b = true)
  | [] => .nil
  | x :: l => insG_ord tot tr x (sortG_ord tot tr l)
theorem srt_uniq {le : α → α → Bool} (anti : ∀ a b, le a b = true → le b a = true → a = b) : ∀ {a b : List α}, a.Perm b → a.Pairwise (fun a b => le a b = true) → b.Pairwise (fun a b => le a b = true) → a = b
  | [], b, p, _, _ => p.nil_eq
  | x :: a, b, p, ha, hb => by
    match b, p, hb with
    | [], p, _ => exact absurd p.length_eq (by simp)
    | y :: b, p, hb =>
      obtain ⟨a1, a2⟩ := List.pairwise_cons.mp ha
      obtain ⟨b1, b2⟩ := List.pairwise_cons.mp hb
      have e : x = y := by
        rcases List.mem_cons.mp (p.mem_iff.mp (List.mem_cons_self (a := x))) with z | z
        · exact z
        · rcases List.mem_cons.mp (p.mem_iff.mpr (List.mem_cons_self (a := y))) with z2 | z2
          · exact z2.symm
          · exact anti _ _ (a1 y z2) (b1 x z)
      subst e
      rw [srt_uniq anti (List.Perm.cons_inv p) a2 b2]
end
def leI (a b : Int) : Bool := decide (a ≤ b)
def leS (a b : List Nat) : Bool := !decide (b < a)
theorem leI_tot (a b : Int) : leI a b = true ∨ leI b a = true := by simp [leI]; omega
theorem leI_tr (a b c : Int) (h : leI a b = true) (h2 : leI b c = true) : leI a c = true := by simp [leI] at *; omega
theorem leI_anti (a b : Int) (h : leI a b = true) (h2 : leI b a = true) : a = b := by simp [leI] at *; omega
theorem leS_iff (a b : List Nat) : leS a b = true ↔ ¬ b < a := by unfold leS; simp
theorem leS_tot (a b : List Nat) : leS a b = true ∨ leS b a = true := by
  rw [leS_iff, leS_iff]
  rcases lt_tri a b with h | h | h
  · exact .inl fun z => lt_irr a (lt_tr h z)
  · subst h; exact .inl (lt_irr a)
  · exact .inr fun z => lt_irr a (lt_tr z h)
theorem leS_tr (a b c : List Nat) (h : leS a b = true) (h2 : leS b c = true) : leS a c = true := by
  rw [leS_iff] at *
  intro z
  rcases lt_tri a b with e | e | e
  · exact h2 (lt_tr z e)
  · subst e; exact h2 z
  · exact h e
theorem leS_anti (a b : List Nat) (h : leS a b = true) (h2 : leS b a = true) : a = b := by
  rw [leS_iff] at *
  rcases lt_tri a b with e | e | e
  · exact absurd e h2
  · exact e
  · exact absurd e h
def asIs : List D → Option (List Int)
  | [] => some []
  | .int s :: ds => (asIs ds).map (s :: ·)
  | _ => none
theorem asIs_some : ∀ {ds : List D} {ss : List Int}, asIs ds = some ss → ds = ss.map D.int
  | [], _, h => by cases h; rfl
  | .int b :: ds, bs, h => by
    obtain ⟨l, e1, rfl⟩ := Option.map_eq_some_iff.mp h
    rw [asIs_some e1]; rfl
def sortedD : D → Option D
  | .tup xs => (asIs xs).map fun ns => .lst ((sortG leI ns).map D.int)
  | .lst xs => match asIs xs with
    | some ns => some (.lst ((sortG leI ns).map D.int))
    | none => (asSs xs).map fun ss => .lst ((sortG leS ss).map D.str)
  | _ => none
theorem sortI_uniq {a b : List Int} (p : a.Perm b) (h : a.Pairwise (· ≤ ·)) : a = sortG leI b :=
  srt_uniq leI_anti (p.trans (sortG_perm leI b).symm) (h.imp fun {x y} z => by simpa [leI] using z) (sortG_ord leI_tot leI_tr b)
theorem rising_le : ∀ (p : Str) (l : List Str), PyProof.Rows.risingS p l = true → (p :: l).Pairwise (fun a b => leS a.cps.toList b.cps.toList = true)
  | p, [], _ => List.pairwise_singleton _ _
  | p, x :: r, h => by
    have h' : (!Spec.ltCps x.cps.toList p.cps.toList && PyProof.Rows.risingS x r) = true := h
    rw [Bool.and_eq_true, Bool.not_eq_true'] at h'
    have ih := rising_le x r h'.2
    have e : leS p.cps.toList x.cps.toList = true := by
      rw [leS_iff]
      intro z
      rw [(ltC_iff _ _).mpr z] at h'
      cases h'.1
    refine List.pairwise_cons.mpr ⟨fun k hk => ?_, ih⟩
    rcases List.mem_cons.mp hk with rfl | hk
    · exact e
    · exact leS_tr _ _ _ e ((List.pairwise_cons.mp ih).1 k hk)
theorem sortS_uniq {ys : List Str} {ss : List (List Nat)} (p : ys.Perm (ss.map mkS)) (h : PyProof.Rows.sortedS ys = true) : ys = (sortG leS ss).map mkS := by
  have ho : ys.Pairwise (fun a b => leS a.cps.toList b.cps.toList = true) := by
    cases ys with
    | nil => exact .nil
    | cons y r => exact rising_le y r h
  have e : ys.map (fun y => y.cps.toList) = sortG leS ss := by
    refine srt_uniq leS_anti ?_ (List.pairwise_map.mpr ho) (sortG_ord leS_tot leS_tr ss)
    have q := p.map (fun y : Str => y.cps.toList)
    rw [List.map_map] at q
    have : ((fun y : Str => y.cps.toList) ∘ mkS) = id := by funext s; exact mkS_cps s
    rw [this, List.map_id] at q
    exact q.trans (sortG_perm leS ss).symm
  rw [← e, List.map_map]
  have : (mkS ∘ fun y : Str => y.cps.toList) = id := by funext y; exact mkS_surj y
  rw [this, List.map_id]
section
variable {X : Cx}
theorem CallR.or {f : Value} {r r' : List V → Hp → VK → Prop} (h : CallR X f r) (h' : CallR X f r') : CallR X f (fun vs H Q => r vs H Q ∨ r' vs H Q) := fun pins s σ H vs us Q I rv q => q.elim (h pins s σ H vs us Q I rv) (h' pins s σ H vs us Q I rv)
theorem c_sorted : C1 X (.builtin "sorted") sortedD := by
  refine ⟨_, CallR.or (CallR.or cr_sortedTI cr_sortedI) cr_sortedSA, fun W H Hf g x a d Q B ha ed k => ?_⟩
  match a, ed, ha with
  | .tup xs, ed, ha =>
    obtain ⟨ns, e1, rfl⟩ := Option.map_eq_some_iff.mp ed
    obtain rfl := asIs_some e1
    obtain ⟨p, vs, rfl, h1, h2⟩ := ha.tup
    obtain rfl := h2.ints
    refine .inl (.inl ⟨p, ns, rfl, SqT.of (B.fh _ _ h1), fun ns' q pm po hq => ?_⟩)
    rw [sortI_uniq pm po]
    exact k _ _ _ (B.alloc (.lst ((sortG leI ns).map V.int)) hq) (.lst upd_same (DvAll.ofInts _))
  | .lst xs, ed, ha =>
    obtain ⟨p, vs, rfl, h1, h2⟩ := ha.lst B.fh
    simp only [sortedD] at ed
    split at ed
    · rename_i ns e1
      cases ed
      obtain rfl := asIs_some e1
      obtain rfl := h2.ints
      refine .inl (.inr ⟨p, ns, rfl, SqL.of h1, fun ns' q pm po hq => ?_⟩)
      rw [sortI_uniq pm po]
      exact k _ _ _ (B.alloc (.lst ((sortG leI ns).map V.int)) hq) (.lst upd_same (DvAll.ofInts _))
    · obtain ⟨ss, e1, rfl⟩ := Option.map_eq_some_iff.mp ed
      obtain rfl := asSs_some e1
      have hvs := h2.strs
      subst hvs
      have oks := h2.oks
      refine .inr ⟨p, ss.map mkS, rfl, SqL.of h1, fun ys q pm po hq => ?_⟩
      rw [sortS_uniq pm po]
      exact k _ _ _ (B.alloc (.lst (((sortG leS ss).map mkS).map V.str)) hq) (.lst upd_same (DvAll.ofStrs _ fun s hs => oks s ((sortG_perm leS ss).mem_iff.mp hs)))
end
end DL
namespace DL
open PySem L2
def minI : Int → List Int → Int
  | m, [] => m
  | m, x :: r => minI (if x < m then x else m) r
def maxI : Int → List Int → Int
  | m, [] => m
  | m, x :: r => maxI (if m < x then x else m) r
theorem minI_spec : ∀ (r : List Int) (m : Int), (minI m r = m ∨ minI m r ∈ r) ∧ minI m r ≤ m ∧ ∀ y ∈ r, minI m r ≤ y
  | [], m => ⟨.inl rfl, Int.le_refl _, by simp⟩
  | x :: r, m => by
    obtain ⟨h1, h2, h3⟩ := minI_spec r (if x < m then x else m)
    unfold minI
    by_cases hx : x < m
    · rw [if_pos hx] at h1 h2 h3 ⊢
      refine ⟨.inr ?_, by omega, fun y hy => ?_⟩
      · rcases h1 with h | h
        · rw [h]; simp
        · simp [h]
      · rcases List.mem_cons.mp hy with rfl | hy
        · exact h2
        · exact h3 y hy
    · rw [if_neg hx] at h1 h2 h3 ⊢
      refine ⟨?_, h2, fun y hy => ?_⟩
      · rcases h1 with h | h
        · exact .inl h
        · exact .inr (by simp [h])
      · rcases List.mem_cons.mp hy with rfl | hy
        · omega
        · exact h3 y hy
theorem maxI_spec : ∀ (r : List Int) (m : Int), (maxI m r = m ∨ maxI m r ∈ r) ∧ m ≤ maxI m r ∧ ∀ y ∈ r, y ≤ maxI m r
  | [], m => ⟨.inl rfl, Int.le_refl _, by simp⟩
  | x :: r, m => by
    obtain ⟨h1, h2, h3⟩ := maxI_spec r (if m < x then x else m)
    unfold maxI
    by_cases hx : m < x
    · rw [if_pos hx] at h1 h2 h3 ⊢
      refine ⟨.inr ?_, by omega, fun y hy => ?_⟩
      · rcases h1 with h | h
        · rw [h]; simp
        · simp [h]
      · rcases List.mem_cons.mp hy with rfl | hy
        · exact h2
        · exact h3 y hy
    · rw [if_neg hx] at h1 h2 h3 ⊢
      refine ⟨?_, h2, fun y hy => ?_⟩
      · rcases h1 with h | h
        · exact .inl h
        · exact .inr (by simp [h])
      · rcases List.mem_cons.mp hy with rfl | hy
        · omega
        · exact h3 y hy
def minD : D → Option D
  | .lst xs => (asIs xs).bind fun ns => match ns with
    | [] => none
    | m :: r => some (.int (minI m r))
  | _ => none
def maxD : D → Option D
  | .lst xs => (asIs xs).bind fun ns => match ns with
    | [] => none
    | m :: r => some (.int (maxI m r))
  | _ => none
section
variable {X : Cx}
theorem c_min (hc : X.calm = true) : C1 X (.builtin "min") minD := by
  refine ⟨_, cr_min hc, fun W H Hf g x a d Q B ha ed k => ?_⟩
  match a, ed, ha with
  | .lst xs, ed, ha =>
    obtain ⟨p, vs, rfl, h1, h2⟩ := ha.lst B.fh
    obtain ⟨ns, e1, e2⟩ := Option.bind_eq_some_iff.mp ed
    obtain rfl := asIs_some e1
    obtain rfl := h2.ints
    match ns, e2, h1 with
    | m :: r, e2, h1 =>
      cases e2
      refine ⟨p, m :: r, rfl, SqL.of h1, by simp, fun z hz hm => ?_⟩
      obtain ⟨q1, q2, q3⟩ := minI_spec r m
      have e : z = minI m r := by
        have a1 : minI m r ∈ m :: r := by
          rcases q1 with q | q
          · rw [q]; simp
          · simp [q]
        have a2 := hm _ a1
        rcases List.mem_cons.mp hz with rfl | hz
        · omega
        · have := q3 z hz; omega
      rw [e]
      exact k _ _ _ B (.int _)
theorem c_max (hc : X.calm = true) : C1 X (.builtin "max") maxD := by
  refine ⟨_, cr_max hc, fun W H Hf g x a d Q B ha ed k => ?_⟩
  match a, ed, ha with
  | .lst xs, ed, ha =>
    obtain ⟨p, vs, rfl, h1, h2⟩ := ha.lst B.fh
    obtain ⟨ns, e1, e2⟩ := Option.bind_eq_some_iff.mp ed
    obtain rfl := asIs_some e1
    obtain rfl := h2.ints
    match ns, e2, h1 with
    | m :: r, e2, h1 =>
      cases e2
      refine ⟨p, m :: r, rfl, SqL.of h1, by simp, fun z hz hm => ?_⟩
      obtain ⟨q1, q2, q3⟩ := maxI_spec r m
      have e : z = maxI m r := by
        have a1 : maxI m r ∈ m :: r := by
          rcases q1 with q | q
          · rw [q]; simp
          · simp [q]
        have a2 := hm _ a1
        rcases List.mem_cons.mp hz with rfl | hz
        · omega
        · have := q3 z hz; omega
      rw [e]
      exact k _ _ _ B (.int _)
end
end DL
namespace DL
open PySem L2
/-! ### min, max of pairs -/
section
variable {α : Type} [DecidableEq α] [PySem.W.DatumOrd α] {X : Cx}
theorem toD_inj {a b : α} (h : PySem.W.Datum.toD a = PySem.W.Datum.toD b) : a = b := by
  have h1 := PySem.W.Datum.eqv a b
  rw [← h, PySem.W.Datum.eqv a a] at h1
  simpa using h1
theorem rd_all {h : Heap} : ∀ {us : List Value} {xs : List PyData} {as : List Addr} {i : Nat} {u : Value}, ReadsAll h us xs as → us[i]? = some u → ∃ d bs, xs[i]? = some d ∧ Reads h u d bs
  | _, _, _, i, u, .nil, e => by simp at e
  | _, _, _, 0, u, .cons r rs, e => by simp at e; subst e; exact ⟨_, _, rfl, r⟩
  | _, _, _, i + 1, u, .cons r rs, e => by
    obtain ⟨d, bs, e1, e2⟩ := rd_all rs (by simpa using e)
    exact ⟨d, bs, by simpa using e1, e2⟩
theorem vals_get : ∀ {vs : List V} {us : List Value} {i : Nat} {u : Value}, Vals vs us → us[i]? = some u → ∃ v, vs[i]? = some v ∧ RelV v u
  | [], us, i, u, r, e => by cases r; simp at e
  | v :: vs, us, i, u, r, e => by
    cases r with
    | cons r1 r2 =>
      cases i with
      | zero => simp at e; subst e; exact ⟨v, rfl, r1⟩
      | succ i => 
        obtain ⟨w, e1, e2⟩ := vals_get r2 (by simpa using e)
        exact ⟨w, by simpa using e1, e2⟩
theorem cr_minP (hc : X.calm = true) (hu : X.A.units + 1 + PySem.W.Datum.depth α < cLine) : CallR X (.builtin "min") (fun vs H Q => ∃ (a : Addr) (xs : List V) (p : α) (ps : List α), vs = [.ref a] ∧ SqL X.K H a xs ∧ DpAll X.K H xs ((p :: ps).map PySem.W.Datum.toD) ∧ ∀ (i : Nat) (v : V), xs[i]? = some v → (p :: ps)[i]? = some (PySem.W.minOf p ps) → Q v H) := by
  intro pins s σ H vs us Q I r h
  obtain ⟨a, xs, p, ps, rfl, hs, hd, q⟩ := h
  obtain ⟨its, rv, hl, _⟩ := I.list hs
  rw [Vals.ref1 r]
  obtain ⟨as, hra⟩ := Dp.readsAll I _ xs its hd rv
  refine PySem.W.min_list_datum (I.ok.hd hc) hl.isList ⟨as, hra⟩ hu fun i v h' tk hi hh hk => ?_
  obtain ⟨x, e1, e2⟩ := vals_get rv (by simpa using hi)
  obtain ⟨d, bs, e3, e4⟩ := rd_all hra (i := i) (u := v) (by simpa using hi)
  rw [List.getElem?_map] at e3
  obtain ⟨pi, e5, rfl⟩ := Option.map_eq_some_iff.mp e3
  obtain ⟨cs, e6⟩ := hh
  obtain ⟨cs2, e4'⟩ := PySem.W.Holds.keeps hk (⟨bs, e4⟩ : PySem.W.Holds s.heap v pi)
  have e7 := (e4'.unique _ _ e6).1
  have e8 : pi = _ := toD_inj e7
  subst e8
  exact ⟨x, H, I.kept hk, e2, q i x e1 e5⟩
theorem cr_maxP (hc : X.calm = true) (hu : X.A.units + 1 + PySem.W.Datum.depth α < cLine) : CallR X (.builtin "max") (fun vs H Q => ∃ (a : Addr) (xs : List V) (p : α) (ps : List α), vs = [.ref a] ∧ SqL X.K H a xs ∧ DpAll X.K H xs ((p :: ps).map PySem.W.Datum.toD) ∧ ∀ (i : Nat) (v : V), xs[i]? = some v → (p :: ps)[i]? = some (PySem.W.maxOf p ps) → Q v H) := by
  intro pins s σ H vs us Q I r h
  obtain ⟨a, xs, p, ps, rfl, hs, hd, q⟩ := h
  obtain ⟨its, rv, hl, _⟩ := I.list hs
  rw [Vals.ref1 r]
  obtain ⟨as, hra⟩ := Dp.readsAll I _ xs its hd rv
  refine PySem.W.max_list_datum (I.ok.hd hc) hl.isList ⟨as, hra⟩ hu fun i v h' tk hi hh hk => ?_
  obtain ⟨x, e1, e2⟩ := vals_get rv (by simpa using hi)
  obtain ⟨d, bs, e3, e4⟩ := rd_all hra (i := i) (u := v) (by simpa using hi)
  rw [List.getElem?_map] at e3
  obtain ⟨pi, e5, rfl⟩ := Option.map_eq_some_iff.mp e3
  obtain ⟨cs, e6⟩ := hh
  obtain ⟨cs2, e4'⟩ := PySem.W.Holds.keeps hk (⟨bs, e4⟩ : PySem.W.Holds s.heap v pi)
  have e7 := (e4'.unique _ _ e6).1
  have e8 : pi = _ := toD_inj e7
  subst e8
  exact ⟨x, H, I.kept hk, e2, q i x e1 e5⟩
end
def asPS : List D → Option (List (Int × List Nat))
  | [] => some []
  | .tup [.int i, .str s] :: ds => (asPS ds).map ((i, s) :: ·)
  | _ => none
def asPI : List D → Option (List (Int × Int))
  | [] => some []
  | .tup [.int i, .int s] :: ds => (asPI ds).map ((i, s) :: ·)
  | _ => none
abbrev pSD (p : Int × List Nat) : D := .tup [.int p.1, .str p.2]
abbrev pID (p : Int × Int) : D := .tup [.int p.1, .int p.2]
theorem asPS_some : ∀ {ds : List D} {ps : List (Int × List Nat)}, asPS ds = some ps → ds = ps.map pSD
  | [], _, h => by cases h; rfl
  | .tup [.int i, .str s] :: ds, ps, h => by
    obtain ⟨l, e1, rfl⟩ := Option.map_eq_some_iff.mp h
    rw [asPS_some e1]; rfl
theorem asPI_some : ∀ {ds : List D} {ps : List (Int × Int)}, asPI ds = some ps → ds = ps.map pID
  | [], _, h => by cases h; rfl
  | .tup [.int i, .int s] :: ds, ps, h => by
    obtain ⟨l, e1, rfl⟩ := Option.map_eq_some_iff.mp h
    rw [asPI_some e1]; rfl
theorem asPS_map (ps : List (Int × List Nat)) : asPS (ps.map pSD) = some ps := by
  induction ps with
  | nil => rfl
  | cons p ps ih => simp [asPS, ih]
theorem asPI_map (ps : List (Int × Int)) : asPI (ps.map pID) = some ps := by
  induction ps with
  | nil => rfl
  | cons p ps ih => simp [asPI, ih]
def ltPS (p q : Int × List Nat) : Bool := if p.1 = q.1 then decide (p.2 < q.2) else decide (p.1 < q.1)
def ltPI (p q : Int × Int) : Bool := if p.1 = q.1 then decide (p.2 < q.2) else decide (p.1 < q.1)
def minPS (p : Int × List Nat) (ps : List (Int × List Nat)) : Int × List Nat := ps.foldl (fun a y => if ltPS y a = true then y else a) p
def maxPI (p : Int × Int) (ps : List (Int × Int)) : Int × Int := ps.foldl (fun a y => if ltPI a y = true then y else a) p
def minPD : D → Option D
  | .lst xs => (asPS xs).bind fun ps => match ps with
    | [] => none
    | p :: ps => some (pSD (minPS p ps))
  | _ => none
def maxPD : D → Option D
  | .lst xs => (asPI xs).bind fun ps => match ps with
    | [] => none
    | p :: ps => some (pID (maxPI p ps))
  | _ => none
def pStr (p : Int × List Nat) : Int × Str := (p.1, mkS p.2)
theorem pStr_lt (p q : Int × List Nat) : PySem.W.DatumOrd.lt (pStr p) (pStr q) = ltPS p q := by
  show (if p.1 = q.1 then decide ((mkS p.2).cps.toList < (mkS q.2).cps.toList) else decide (p.1 < q.1)) = _
  rw [mkS_cps, mkS_cps]; rfl
theorem minOf_map (p : Int × List Nat) (ps : List (Int × List Nat)) : PySem.W.minOf (pStr p) (ps.map pStr) = pStr (minPS p ps) := by
  unfold PySem.W.minOf minPS
  induction ps generalizing p with
  | nil => rfl
  | cons y ys ih =>
    rw [List.map_cons, List.foldl_cons, List.foldl_cons, ← ih]
    congr 1
    rw [pStr_lt]
    split <;> rfl
theorem toPys_pS (ps : List (Int × List Nat)) : toPys (ps.map pSD) = (ps.map pStr).map PySem.W.Datum.toD := by
  induction ps with
  | nil => rfl
  | cons p ps ih =>
    show toPy (pSD p) :: toPys (ps.map pSD) = _
    rw [ih]; rfl
theorem toPys_pI (ps : List (Int × Int)) : toPys (ps.map pID) = ps.map PySem.W.Datum.toD := by
  induction ps with
  | nil => rfl
  | cons p ps ih =>
    show toPy (pID p) :: toPys (ps.map pID) = _
    rw [ih]; rfl
theorem flats_pS (ps : List (Int × List Nat)) : flats 8 (ps.map pSD) = true := by
  induction ps with
  | nil => rfl
  | cons p ps ih =>
    show (flat 8 (pSD p) && flats 8 (ps.map pSD)) = true
    rw [ih]; rfl
theorem flats_pI (ps : List (Int × Int)) : flats 8 (ps.map pID) = true := by
  induction ps with
  | nil => rfl
  | cons p ps ih =>
    show (flat 8 (pID p) && flats 8 (ps.map pID)) = true
    rw [ih]; rfl
theorem DpAll.step {K : PySem.W.Frag} {H H' : Hp} (e : Same H H') {ds : List D} {vs : List V} (h : DvAll K H vs ds) : DvAll K H' vs ds := DvAll.mono e ds h
section
variable {X : Cx}
theorem c_minP (hc : X.calm = true) (hu : X.A.units + 64 < cLine) : C1 X (.builtin "min") minPD := by
  refine ⟨_, cr_minP (α := Int × Str) hc (by show X.A.units + 1 + 1 < cLine; omega), fun W H Hf g x a d Q B ha ed k => ?_⟩
  match a, ed, ha with
  | .lst xs, ed, ha =>
    obtain ⟨p, vs, rfl, h1, h2⟩ := ha.lst B.fh
    obtain ⟨ps, e1, e2⟩ := Option.bind_eq_some_iff.mp ed
    obtain rfl := asPS_some e1
    match ps, e2, h1, h2 with
    | q :: ps, e2, h1, h2 =>
      cases e2
      have dp := (dps_of 8 _ (flats_pS (q :: ps)) (DpAll.step B.fh h2)).1
      rw [toPys_pS] at dp
      refine ⟨p, vs, pStr q, ps.map pStr, rfl, SqL.of h1, dp, fun i v hv hi => ?_⟩
      rw [minOf_map] at hi
      obtain ⟨d, e3, e4⟩ := h2.get hv
      rw [List.getElem?_map] at e3
      obtain ⟨r, e5, rfl⟩ := Option.map_eq_some_iff.mp e3
      have e6 : ((q :: ps).map pStr)[i]? = some (pStr (minPS q ps)) := hi
      rw [List.getElem?_map, e5] at e6
      have e7 : pStr r = pStr (minPS q ps) := Option.some.inj e6
      have e8 : r = minPS q ps := Prod.ext (congrArg (fun z : Int × Str => z.1) e7) (mkS_inj (congrArg (fun z : Int × Str => z.2) e7))
      subst e8
      exact k _ _ _ B e4
theorem c_maxP (hc : X.calm = true) (hu : X.A.units + 64 < cLine) : C1 X (.builtin "max") maxPD := by
  refine ⟨_, cr_maxP (α := Int × Int) hc (by show X.A.units + 1 + 1 < cLine; omega), fun W H Hf g x a d Q B ha ed k => ?_⟩
  match a, ed, ha with
  | .lst xs, ed, ha =>
    obtain ⟨p, vs, rfl, h1, h2⟩ := ha.lst B.fh
    obtain ⟨ps, e1, e2⟩ := Option.bind_eq_some_iff.mp ed
    obtain rfl := asPI_some e1
    match ps, e2, h1, h2 with
    | q :: ps, e2, h1, h2 =>
      cases e2
      have dp := (dps_of 8 _ (flats_pI (q :: ps)) (DpAll.step B.fh h2)).1
      rw [toPys_pI] at dp
      refine ⟨p, vs, q, ps, rfl, SqL.of h1, dp, fun i v hv hi => ?_⟩
      obtain ⟨d, e3, e4⟩ := h2.get hv
      rw [List.getElem?_map] at e3
      obtain ⟨r, e5, rfl⟩ := Option.map_eq_some_iff.mp e3
      rw [e5] at hi
      have e8 : r = maxPI q ps := Option.some.inj hi
      subst e8
      exact k _ _ _ B e4
/-- min(a, b), max(a, b) of whole numbers -/
theorem c_max2 (hc : X.calm = true) : CallR X (.builtin "max") (fun xs H Q => ∃ i j, xs = [.int i, .int j] ∧ Q (.int (if j > i then j else i)) H) := call_max2 hc
end
end DL
/-! ### a dict whose keys are tuples -/
namespace DL
open PySem L2
section
variable {X : Cx} {k v : Expr} {tk tv : TE} {pos : Pos}
def tDispT (tk tv : TE) : TE := fun σ H Q => ∀ p, H p = none → tk σ (upd H p (.dT [])) fun x H1 => tv σ H1 fun y H2 => H2 p = some (.dT []) ∧ ∃ b ks, x = .ref b ∧ H2 b = some (.tup ((ks : List Key).map kV)) ∧ Q (.ref p) (upd H2 p (.dT [(ks, y)]))
theorem pe_dispT (hu : X.A.units + 1 < cLine) (hk : PE X k tk) (hv : PE X v tv) : PE X (.Dict [some k] [v] pos) (tDispT tk tv) := by
  refine ⟨fun pins s σ H Q I q => ?_⟩
  have hn := I.hok.fresh (Nat.le_refl s.heap.objs.size)
  have I1 := I.laid (a := s.heap.objs.size) (o := .dT []) (h' := s.heap.push { cls := .type "dict", data := .dict #[] }) (t' := s.toks) (fun _ _ q => Heap.get?_push_of_some _ q) (Nat.le_refl _) (dt_empty s.heap I.big)
  have hrun : wpAny (model X.prog X.w) X.A (evalPairs (pairTrees [some k] [v] X.env pos)) (fun vs s' => ∃ u r, vs = [(u, r)] ∧ ∃ H2, Inv X pins σ H2 s' ∧ H2 s.heap.objs.size = some (.dT []) ∧ ∃ b ks y, RelV (.ref b) u ∧ RelV y r ∧ H2 b = some (.tup ((ks : List Key).map kV)) ∧ Q (.ref s.heap.objs.size) (upd H2 s.heap.objs.size (.dT [(ks, y)]))) X.xe { s with heap := s.heap.push { cls := .type "dict", data := .dict #[] } } := by
    refine pairTrees_cons_walk (thn (hk.run pins _ σ _ _ I1 (q _ hn)) fun u s1 ⟨x, H1, I1, rx, q1⟩ => thn (hv.run pins s1 σ H1 _ I1 q1) fun w2 s2 ⟨y, H2, I2, ry, q2⟩ => pairTrees_nil_walk ?_)
    obtain ⟨e, b, ks, rfl, eb, q3⟩ := q2
    exact ⟨u, w2, rfl, H2, I2, e, b, ks, y, rx, ry, eb, q3⟩
  rw [arm_eval_Dict, zip_pairTrees [some k] [v] X.env pos rfl rfl, dictDisplay_pairs _ (by intro h; cases h) (by rw [pairTrees_length [some k] [v] X.env pos rfl rfl]; simp)]
  refine wpAny_bind (wpAny_standAt (wpAny_bind (wpAny_subDictH (knd := tupleKind (mixKind X.prog X.w)) (Q := fun d s' => wpAny (model X.prog X.w) X.A (pure (Value.ref d)) (EP X pins σ Q) X.xe s') (show X.A.units < cLine by omega) (by rw [pairTrees_length [some k] [v] X.env pos rfl rfl]; simp) (thn hrun fun ws s2 h2 => ?_))))
  obtain ⟨u, r, rfl, H2, I2, e, b, ks, y, rx, ry, eb, q2⟩ := h2
  cases (show u = Value.ref b from rx)
  obtain ⟨z, hd, xs, rel, dd⟩ := dt_of I2.hok e
  cases rel
  refine ⟨[(ks, b, r)], ⟨rfl, rfl, key_of I2.hok eb, trivial⟩, dd, fun h' tk dd' hs => wpAny_pure ⟨.ref s.heap.objs.size, _, ?_, rfl, q2⟩⟩
  obtain ⟨o, es, ep, ho, h2, h3, h4, _, h5⟩ := dd'
  refine d_write I2 (by rw [e]; exact True.intro) hs ⟨o, ho⟩ ⟨by rw [sizeLine_eq]; simp, hd, _, .cons ⟨rfl, ?_, ry⟩ .nil, o, es, ep, ho, h2, h3, h4, h5⟩
  rw [upd_ne (ne_of eb e (fun z => nomatch z))]
  exact eb
end
/-! ### the rules -/
section
variable {G : Type}
def xTnew (fk fv : M G D) : M G Slot := M.bind fk fun k => M.bind fv fun v => M.lift ((keyT k).map fun ks => .oT [(ks, v)])
def sOwnT (i : Nat) (k : SM G) : SM G := fun sl g => match sl[i]? with
  | some (some (.oT _)) => k sl g
  | _ => none
def sMutT (i : Nat) (h : List (List DKey × D) → Option (List (List DKey × D))) : SM G := fun sl g => match sl[i]? with
  | some (some (.oT xs)) => match h xs with
    | some ys => some (.nx, sl.set i (some (.oT ys)), g)
    | none => none
  | _ => none
def sTPut (i : Nat) (fk fv : M G D) : SM G := sOwnT i <| sDo fv fun v => sDo fk fun k => sMutT i fun kvs => (keyT k).bind fun ks => if kvs.length < LIM then some (dPut kvs ks v) else none
end
section
variable {X : Cx} {Z : Cn} {E : Ent Z.W} {Wx : WX} {e a b c tg : Expr} {pos p ap cp : Pos} {fe fa fb fc : M Z.W.G D} {i : Nat} {x : Str}
theorem keyT_v {K : PySem.W.Frag} {H : Hp} {v : V} : ∀ {d : D} {ks : List DKey}, keyT d = some ks → Dv K H v d → ∃ b, v = .ref b ∧ H b = some (.tup ((ks.map toKey).map kV))
  | .tup ds, ks, h, dv => by
    cases dv with
    | tup h1 h2 =>
      rename_i a vs
      have h' : keysD ds = some ks := h
      rw [keysD_v h' h2] at h1
      exact ⟨a, rfl, h1⟩
theorem dx_tnew (hu : X.A.units + 1 < cLine) (hk : DE X Z E Wx a fa) (hv : DE X Z E Wx e fe) : DX X Z E Wx (.Dict [some a] [e] pos) (xTnew fa fe) := by
  refine PE.imp (pe_dispT hu hk hv) fun σ H Q ⟨Hf, g, sl, r, q⟩ p hp => ?_
  obtain ⟨n1, n2, n3⟩ := new_n r.base.self hp
  have hE : E.H p = none := by
    cases e : E.H p with
    | none => rfl
    | some o => exact absurd n1 (r.base.there p (by rw [e]; simp))
  have b0 := r.base.self.allocU (.dT []) hp
  refine ⟨Hf, g, sl, r.step b0, ?_⟩
  unfold xTnew M.bind at q
  match ek : fa sl g with
  | none => rw [ek] at q; exact q.elim
  | some (.exc c, g1) =>
    rw [ek] at q
    exact fun H' Hf' b' => q H' Hf' (b0.trans b')
  | some (.ok kd, g1) =>
    rw [ek] at q
    intro y H1 Hf1 b1 d1
    refine ⟨Hf1, g1, sl, (r.step b0).step b1, ?_⟩
    simp only at q
    match ev : fe sl g1 with
    | none => rw [ev] at q; exact q.elim
    | some (.exc c, g2) =>
      rw [ev] at q
      exact fun H' Hf' b' => q H' Hf' (b0.trans (b1.trans b'))
    | some (.ok vd, g2) =>
      rw [ev] at q
      intro y2 H2 Hf2 b2 d2
      simp only [M.lift] at q
      match et : keyT kd with
      | none => rw [et] at q; exact q.elim
      | some ks =>
        rw [et] at q
        obtain ⟨b, rfl, hb⟩ := keyT_v et d1
        have b12 := b1.trans b2
        have hp2 : H2 p = some (.dT []) := b12.keep p _ upd_same n3
        have hf2 : Hf2 p = none := (b12.old p (by rw [upd_same]; simp)).trans n2
        have hg2 : ¬ Z.W.fp g2 p := fun z => by
          rcases b12.fpo p z with z | z
          · exact n3 z
          · rw [upd_same] at z; cases z
        refine ⟨hp2, b, ks.map toKey, rfl, b2.fh _ _ (b2.ff _ _ hb), ?_⟩
        have bA := (b0.trans b12).updFresh (.dT [(ks.map toKey, y2)]) n1 hf2 hg2
        exact q _ _ _ bA ⟨⟨p, _, rfl, upd_same, .cons ⟨rfl, d2⟩ .nil, hE, hf2, hg2⟩, fun _ a ea => by cases ea; exact n1⟩
theorem mT_go {α β : Type} {Rl : Z.W.G → Hp → Hp → β → α → Prop} {σ : St} {sl : SL} {H Hf : Hp} {g : Z.W.G} {k : List (List DKey × D) → M Z.W.G α} {Q : β → Hp → Prop} (r : R X.K E H Hf g sl σ) (h : go Z Rl Wx σ (M.bind (mT i) k sl g) H Hf g Q) :
    ∃ a kvs, σ[i]? = some (some (.ref a)) ∧ sl[i]? = some (some (.oT kvs)) ∧ go Z Rl Wx σ (k kvs sl g) H Hf g Q := by
  unfold M.bind mT at h
  match e : sl[i]? with
  | some (some (.oT kvs)) =>
    rw [e] at h
    obtain ⟨v, h1, a, vs, rfl, _⟩ := r.slot i _ e
    exact ⟨a, kvs, h1, rfl, h⟩
  | some (some (.d y)) => rw [e] at h; exact h.elim
  | some (some (.oL y)) => rw [e] at h; exact h.elim
  | some (some (.oK y)) => rw [e] at h; exact h.elim
  | some (some (.kK y)) => rw [e] at h; exact h.elim
  | some none => rw [e] at h; exact h.elim
  | none => rw [e] at h; exact h.elim
theorem R.dt {σ : St} {sl : SL} {H Hf : Hp} {g : Z.W.G} {a : Addr} {kvs : List (List DKey × D)} (r : R X.K E H Hf g sl σ) (hs : sl[i]? = some (some (.oT kvs))) (ha : σ[i]? = some (some (.ref a))) :
    ∃ vs, H a = some (.dT vs) ∧ TVd X.K Hf vs kvs ∧ OwnOk E Hf g a := by
  obtain ⟨v, h1, b, vs, rfl, h2, h3, h4⟩ := r.slot i _ hs
  rw [ha] at h1
  cases h1
  exact ⟨vs, h2, h3, h4⟩
theorem de_tget (hu : X.A.units + 1 < cLine) (hk : DE X Z E Wx a fa) (hN : X.N[i]? = some x := by rfl) (hv : Vis X.env.scope x := by first | exact Or.inl rfl | exact Or.inr (Or.inl rfl) | exact Or.inr (Or.inr rfl)) (hd : (x == ("__debug__" : Str)) = false := by decide)
    (hcd : (x == ("__classdict__" : Str)) = false := by decide) (hs : NoSl a := by intro _ _; rfl) : DE X Z E Wx (.Subscript (.Name x p) a pos) (eTGet i fa) := by
  refine PE.imp (pe_dget hu (pe_var hN hv hd hcd) hk hs) fun σ H Q ⟨Hf, g, sl, r, q⟩ => ?_
  obtain ⟨b, kvs, h1, h2, q1⟩ := mT_go r q
  refine ⟨_, h1, Hf, g, sl, r, (go_bind (Rm := RlD X.K) q1).mono fun y H1 ⟨Hf1, g1, kd, b1, d1, q2⟩ => ?_⟩
  obtain ⟨d, ed, k⟩ := go_lift q2
  obtain ⟨ky, e1, e2⟩ := Option.bind_eq_some_iff.mp ed
  obtain ⟨t, rfl, ht⟩ := keyT_v e1 d1
  obtain ⟨vs, rd, kv, _⟩ := (r.step b1).dt h2 h1
  rcases pv_get (f := fun l : List DKey => l.map toKey) toKeys_inj ky kv with ⟨n1, _⟩ | ⟨d', v, n1, n2, n3⟩
  · rw [e2] at n1; cases n1
  · rw [e2] at n1
    cases n1
    refine ⟨b, v, rfl, ?_, k _ _ _ b1.self n3⟩
    rw [← n2]
    exact DGet.t rd (b1.fh _ _ ht)
theorem dt_tnin (hu : X.A.units + 1 < cLine) (hk : DE X Z E Wx a fa) (hN : X.N[i]? = some x := by rfl) (hv : Vis X.env.scope x := by first | exact Or.inl rfl | exact Or.inr (Or.inl rfl) | exact Or.inr (Or.inr rfl)) (hd : (x == ("__debug__" : Str)) = false := by decide)
    (hcd : (x == ("__classdict__" : Str)) = false := by decide) (hb : behindInMarks .NotIn (.Name x p) = false := by rfl) : DT X Z E Wx (.Compare a [.NotIn] [.Name x p] pos) (tV (eTNin i fa)) := by
  refine PT.imp (pt_cmp (pc_dnotin hu hk (pe_var hN hv hd hcd)) hb) fun σ H Q h => tB_of h fun Q' q => ?_
  obtain ⟨Hf, g, sl, r, q⟩ := q
  refine ⟨Hf, g, sl, r, (go_bind (Rm := RlD X.K) q).mono fun y H1 ⟨Hf1, g1, kd, b1, d1, q1⟩ => ?_⟩
  obtain ⟨b, kvs, h1, h2, q2⟩ := mT_go (r.step b1) q1
  obtain ⟨d, ed, k⟩ := go_lift q2
  obtain ⟨ky, e1, rfl⟩ := Option.map_eq_some_iff.mp ed
  obtain ⟨t, rfl, ht⟩ := keyT_v e1 d1
  obtain ⟨vs, rd, kv, _⟩ := (r.step b1).dt h2 h1
  refine ⟨_, h1, b, valV vs (ky.map toKey), rfl, DGet.t rd (b1.fh _ _ ht), ?_⟩
  rcases pv_get (f := fun l : List DKey => l.map toKey) toKeys_inj ky kv with ⟨n1, n2⟩ | ⟨d', v, n1, n2, n3⟩
  · rw [n1] at k
    rw [n2]
    exact k _ _ _ b1.self (.bl _)
  · rw [n1] at k
    rw [n2]
    exact k _ _ _ b1.self (.bl _)
/-- the own thing at q is written -/
theorem R.updAny {H Hf : Hp} {g : Z.W.G} {sl : SL} {σ : St} {x y : Slot} {q : Addr} {o : HO} (r : R X.K E H Hf g sl σ) (hi : sl[i]? = some (some x)) (ox : x.own = true) (oy : y.own = true) (hq : σ[i]? = some (some (.ref q))) (h4 : OwnOk E Hf g q) (hy : SlotOk X.K E (upd H q o) Hf g (.ref q) y) :
    R X.K E (upd H q o) Hf g (sl.set i (some y)) σ := by
  have key : ∀ (j : Nat) (z : Slot), (sl.set i (some y))[j]? = some (some z) → (j = i ∧ z = y) ∨ (j ≠ i ∧ sl[j]? = some (some z)) := by
    intro j z ej
    rw [List.getElem?_set] at ej
    split at ej
    · rename_i hij
      split at ej
      · cases ej; exact .inl ⟨hij.symm, rfl⟩
      · cases ej
    · rename_i hij
      exact .inr ⟨fun z => hij z.symm, ej⟩
  refine ⟨r.base.updFresh _ h4.1 h4.2.1 h4.2.2, fun j z ej => ?_, fun j l z z' b n ej el oz oz' => ?_, by rw [List.length_set]; exact r.len⟩
  · rcases key j z ej with ⟨rfl, rfl⟩ | ⟨hj, ej'⟩
    · exact ⟨_, hq, hy⟩
    · obtain ⟨w, q1, q2⟩ := r.slot j z ej'
      refine ⟨w, q1, ?_⟩
      have hw : z.own = true → w ≠ .ref q := fun oz e => by subst e; exact r.apart i j _ z q (Ne.symm hj) hi ej' ox oz hq q1
      match z, q2, hw with
      | .d x, q2, _ => exact q2
      | .oL zs, ⟨b, us, e1, k1, k2, k3⟩, hw => exact ⟨b, us, e1, by rw [upd_ne (fun z => hw rfl (by rw [e1, z]))]; exact k1, k2, k3⟩
      | .oK zs, ⟨b, us, e1, k1, k2, k3⟩, hw => exact ⟨b, us, e1, by rw [upd_ne (fun z => hw rfl (by rw [e1, z]))]; exact k1, k2, k3⟩
      | .kK zs, q2, _ => exact q2
      | .oT zs, ⟨b, us, e1, k1, k2, k3⟩, hw => exact ⟨b, us, e1, by rw [upd_ne (fun z => hw rfl (by rw [e1, z]))]; exact k1, k2, k3⟩
  · have aux : ∀ (j : Nat) (z : Slot), (sl.set i (some y))[j]? = some (some z) → z.own = true → ∃ z', sl[j]? = some (some z') ∧ z'.own = true := by
      intro j z ej oz
      rcases key j z ej with ⟨rfl, rfl⟩ | ⟨hj, ej'⟩
      · exact ⟨_, hi, ox⟩
      · exact ⟨z, ej', oz⟩
    obtain ⟨y', e1, o1⟩ := aux j z ej oz
    obtain ⟨z2, e2, o2⟩ := aux l z' el oz'
    exact r.apart j l y' z2 b n e1 e2 o1 o2
theorem goS_ownT {K : PySem.W.Frag} {Hf : Hp} {sl : SL} {g : Z.W.G} {k : SM Z.W.G} {D : Ends} (h : goS Z K E Wx Hf (sOwnT i k sl g) D) : ∃ xs, sl[i]? = some (some (.oT xs)) ∧ goS Z K E Wx Hf (k sl g) D := by
  unfold sOwnT at h
  split at h
  · rename_i xs hx; exact ⟨xs, hx, h⟩
  · exact h.elim
theorem goS_mutT {H Hf : Hp} {sl : SL} {σ : St} {g : Z.W.G} {h : List (List DKey × D) → Option (List (List DKey × D))} {xs : List (List DKey × D)} {D : Ends} (r : R X.K E H Hf g sl σ) (hi : sl[i]? = some (some (.oT xs))) (q : goS Z X.K E Wx Hf (sMutT i h sl g) D) :
    ∃ ys, h xs = some ys ∧ ∀ q ws, σ[i]? = some (some (.ref q)) → OwnOk E Hf g q → TVd X.K Hf ws ys → D.nx σ (upd H q (.dT ws)) := by
  unfold sMutT at q
  rw [hi] at q
  simp only at q
  split at q
  · rename_i ys hy
    refine ⟨ys, hy, fun a ws ha own d => q σ _ Hf (same_refl _) (r.updAny hi rfl rfl ha own ⟨a, ws, rfl, upd_same, d, own⟩)⟩
  · exact q.elim
theorem ds_tput {ps : Pos} (hu : X.A.units + 1 < cLine) (hk : DE X Z E Wx a fa) (he : DE X Z E Wx e fe) (hN : X.N[i]? = some x := by rfl) (hv : Vis X.env.scope x := by first | exact Or.inl rfl | exact Or.inr (Or.inl rfl) | exact Or.inr (Or.inr rfl)) (hd : (x == ("__debug__" : Str)) = false := by decide)
    (hcd : (x == ("__classdict__" : Str)) = false := by decide) (hs : swapsWith e (some (.Subscript (.Name x p) a ps)) pos.line X.env = pure false := by rfl) :
    DS X Z E Wx (.Assign [.Subscript (.Name x p) a ps] e pos) (sTPut i fa fe) := by
  refine PS.imp (ps_dput hu (pe_var hN hv hd hcd) hk he hs) fun D σ H ⟨Hf, g, sl, r, q⟩ => ?_
  obtain ⟨xs, hi, q⟩ := goS_ownT q
  refine ⟨Hf, g, sl, r, (goS_do (Rl := RlD X.K) r q).mono fun v H1 ⟨Hf1, g1, d, b1, r1, d1, q1⟩ => ?_⟩
  obtain ⟨v0, h1, l, vs, rfl, hH, dv, hown⟩ := r1.slot i _ hi
  refine ⟨_, h1, Hf1, g1, sl, r1, (goS_do (Rl := RlD X.K) r1 q1).mono fun kv H2 ⟨Hf2, g2, kd, b2, r2, d2, q2⟩ => ?_⟩
  obtain ⟨ys, ey, k⟩ := goS_mutT r2 hi q2
  obtain ⟨ks, e1, e2⟩ := Option.bind_eq_some_iff.mp ey
  obtain ⟨t, rfl, ht⟩ := keyT_v e1 d2
  obtain ⟨vs2, rd, kv2, own2⟩ := r2.dt hi h1
  split at e2
  · rename_i hlen
    cases e2
    refine ⟨l, _, rfl, DPut.t rd (b2.fh _ _ ht) (by rw [pv_len (f := fun l : List DKey => l.map toKey) kv2]; exact lim_lt (Nat.le_of_lt hlen)), k l _ h1 own2 (pv_put (f := fun l : List DKey => l.map toKey) toKeys_inj ks (Dv.mono b2.ff _ d1) kv2)⟩
  · cases e2
end
end DL
namespace DL
open PySem L2
/-! ### a dict of written texts -/
abbrev trC (l : List (List Nat × List Nat)) : List (TE × TE) := l.map fun p => (tC (.str (mkS p.1)), tC (.str (mkS p.2)))
theorem tPairs_c {σ : St} {H : Hp} : ∀ (l : List (List Nat × List Nat)) {Q : List (V × V) → Hp → Prop}, Q (l.map fun p => (V.str (mkS p.1), V.str (mkS p.2))) H → tPairs (trC l) σ H Q
  | [], _, h => h
  | p :: l, Q, h => by
    show tPairs (trC l) σ H fun ps H3 => Q ((V.str (mkS p.1), V.str (mkS p.2)) :: ps) H3
    exact tPairs_c l h
def dispK (l : List (List Nat × List Nat)) : List (DKey × D) := l.map fun p => (.inr p.1, .str p.2)
def xDisp {G : Type} (l : List (List Nat × List Nat)) : M G Slot := M.pure (.oK (dMerge [] (dispK l)))
def okPs (l : List (List Nat × List Nat)) : Bool := l.all fun p => okSb p.2
theorem kvd_disp {K : PySem.W.Frag} {Hf : Hp} : ∀ (l : List (List Nat × List Nat)), okPs l = true → KVd K Hf (l.map fun p => ((.inr (mkS p.1) : Key), V.str (mkS p.2))) (dispK l)
  | [], _ => .nil
  | p :: l, ok => by
    have ok' : (okSb p.2 && okPs l) = true := ok
    rw [Bool.and_eq_true] at ok'
    exact .cons ⟨rfl, .str p.2 (okSb_ok ok'.1)⟩ (kvd_disp l ok'.2)
theorem pps_c {X : Cx} {pos : Pos} (a b : List Nat) {x y : Str} {j j2 : Nat} {p p2 : Pos} {ks : List (Option Expr)} {vs : List Expr} {l : List (List Nat × List Nat)} (hr : PPs X pos ks vs (trC l)) (hx : x = mkS a := by rfl) (hy : y = mkS b := by rfl) :
    PPs X pos (some (.Constant (.str x) j p) :: ks) (.Constant (.str y) j2 p2 :: vs) (trC ((a, b) :: l)) := by
  subst hx hy
  exact pps_cons pe_str pe_str hr
section
variable {X : Cx} {Z : Cn} {E : Ent Z.W} {Wx : WX} {pos : Pos}
theorem dx_disp (l : List (List Nat × List Nat)) {keys : List (Option Expr)} {values : List Expr} (h : PPs X pos keys values (trC l)) (hall : keys.all (·.isSome) = true) (hl : keys.length = values.length) (h0 : keys ≠ []) (h15 : keys.length ≤ 15) (hl15 : l.length ≤ 15) (ok : okPs l = true) :
    DX X Z E Wx (.Dict keys values pos) (xDisp l) := by
  refine PE.imp (pe_disp h hall hl h0 h15) fun σ H Q ⟨Hf, g, sl, r, q⟩ p hp => ?_
  obtain ⟨n1, n2, n3⟩ := new_n r.base.self hp
  have hE : E.H p = none := by
    cases e : E.H p with
    | none => rfl
    | some o => exact absurd n1 (r.base.there p (by rw [e]; simp))
  refine tPairs_c l ⟨upd_same, l.map fun p => (.inr (mkS p.1), .str (mkS p.2)), ?_, by rw [List.length_map]; exact hl15, ?_⟩
  · rw [List.map_map]; rfl
  · have b0 := (r.base.self.allocU (.dK []) hp).updFresh (.dK (mergeK [] (l.map fun p => (.inr (mkS p.1), .str (mkS p.2))))) n1 n2 n3
    have kv := kvd_disp (K := X.K) (Hf := Hf) l ok
    exact go_pure q _ _ _ b0 ⟨⟨p, _, rfl, upd_same, pv_merge kv .nil, hE, n2, n3⟩, fun _ a ea => by cases ea; exact n1⟩
end
end DL
namespace DL
open PySem L2
/-! ### d.update(dict(..)), sorted(d) -/
section
variable {X : Cx}
def rDUpd : V → List V → Hp → VK → Prop := fun x xs H Q => ∃ (d o : Addr) (kvs more : List (Key × V)), x = .ref d ∧ xs = [.ref o] ∧ d ≠ o ∧ H d = some (.dK kvs) ∧ H o = some (.dK more) ∧ kvs.length + more.length ≤ sizeLine ∧ Q .non (upd H d (.dK (mergeK kvs more)))
theorem mt_dupd : MtR X "dict.update" rDUpd := by
  intro pins s σ H x xs v us Q I rx rs h
  obtain ⟨d, o, kvs, more, rfl, rfl, hne, hd, ho, hz, q⟩ := h
  obtain rfl : v = Value.ref d := rx
  rw [Vals.ref1 rs]
  obtain ⟨z, hdS, vs, rel, dd⟩ := dk_of I.hok hd
  obtain ⟨z2, hoS, vs2, rel2, dd2⟩ := dk_of I.hok ho
  refine call_meetsIn PySem.F.slot_dict_update dd.typeIs PySem.F.entry_dict_update (PySem.F.args_dict_update_2 _ _) (meets_dict_update (mixKind X.prog X.w) d o hne hoS)
    ⟨vs, vs2, dd, dd2, by rw [← rel.length, ← rel2.length]; exact hz, fun h' dd' _ hs => ?_⟩
  have he : ∃ q, h'.get? d = some q := let ⟨q, _, _, hq, _⟩ := dd'; ⟨q, hq⟩
  have hlen : (mergeK kvs more).length ≤ sizeLine := Nat.le_trans (length_mergeK more kvs) hz
  exact ⟨.non, _, d_write (t' := s.toks) I (by rw [hd]; exact True.intro) hs he (dk_new hlen hdS (rel2.merge rel) dd'), rfl, q⟩
end
section
variable {G : Type}
def sOwnK (i : Nat) (k : SM G) : SM G := fun sl g => match sl[i]? with
  | some (some (.oK _)) => k sl g
  | _ => none
def sMutK (i : Nat) (h : List (DKey × D) → Option (List (DKey × D))) : SM G := fun sl g => match sl[i]? with
  | some (some (.oK xs)) => match h xs with
    | some ys => some (.nx, sl.set i (some (.oK ys)), g)
    | none => none
  | _ => none
def sUpd (i : Nat) (f : M G D) : SM G := sOwnK i <| sDo f fun d => sMutK i fun kvs => ((asL d).bind asPrs).bind fun prs => if kvs.length + prs.length ≤ LIM then some (dMerge kvs (dMerge [] prs)) else none
def intKs : List (DKey × D) → Option (List Int)
  | [] => some []
  | (.inl i, _) :: l => (intKs l).map (i :: ·)
  | (.inr _, _) :: _ => none
def eSortK (i : Nat) : M G D := M.bind (mK i) fun kvs => M.lift ((intKs kvs).bind fun ks => if ks.length < 64 then some (.lst ((sortG leI ks).map D.int)) else none)
end
section
variable {X : Cx} {Z : Cn} {E : Ent Z.W} {Wx : WX} {e a b c tg : Expr} {pos p p2 ap cp dp : Pos} {fe fa fb fc : M Z.W.G D} {i : Nat} {x : Str}
theorem goS_ownK {K : PySem.W.Frag} {Hf : Hp} {sl : SL} {g : Z.W.G} {k : SM Z.W.G} {D : Ends} (h : goS Z K E Wx Hf (sOwnK i k sl g) D) : ∃ xs, sl[i]? = some (some (.oK xs)) ∧ goS Z K E Wx Hf (k sl g) D := by
  unfold sOwnK at h
  split at h
  · rename_i xs hx; exact ⟨xs, hx, h⟩
  · exact h.elim
theorem asPrs_len : ∀ {ds : List D} {prs : List (DKey × D)}, asPrs ds = some prs → prs.length = ds.length
  | [], _, h => by cases h; rfl
  | .tup [k, v] :: ds, _, h => by
    obtain ⟨k', e1, e2⟩ := Option.bind_eq_some_iff.mp h
    obtain ⟨l, e3, rfl⟩ := Option.map_eq_some_iff.mp e2
    simp [asPrs_len e3]
theorem ds_upd (hc : X.calm = true) (hg : Gl X "dict") (hm : X.mg "dict" = none) (ha : DR X Z E Wx a fa) (hN : X.N[i]? = some x := by rfl) (hv : Vis X.env.scope x := by first | exact Or.inl rfl | exact Or.inr (Or.inl rfl) | exact Or.inr (Or.inr rfl)) (hd : (x == ("__debug__" : Str)) = false := by decide)
    (hcd : (x == ("__classdict__" : Str)) = false := by decide) (hbase : attributeBase (.Name x p) "update" X.env (eval (.Name x p) X.env) = eval (.Name x p) X.env := by rfl)
    (hfew : ((backTo cp (starEach [.Call (.Name "dict" p2) [a] [] dp] X.env)).all (fun x => !x.1) && (backToKw cp (keywordEach [] X.env)).all (fun x => x.1.isSome)
      && decide (([.Call (.Name "dict" p2) [a] [] dp] : List Expr).length + ([] : List Keyword).length + (if ([] : List Keyword).isEmpty then 0 else 1) < 30)) = true := by rfl)
    (hline : (ap.endLine == cp.line) = true := by rfl) (hst : starEach [.Call (.Name "dict" p2) [a] [] dp] X.env = (false, eval (.Call (.Name "dict" p2) [a] [] dp) X.env) :: starEach [] X.env := by rfl) (hplain : (backTo cp (starEach [] X.env)).any (·.1) = false := by rfl)
    (hsa : starEach [a] X.env = (false, eval a X.env) :: starEach [] X.env := by rfl) (hpl : (backTo dp (starEach [] X.env)).any (·.1) = false := by rfl)
    (hs : swapsWith (.Call (.Attribute (.Name x p) "update" ap) [.Call (.Name "dict" p2) [a] [] dp] [] cp) none pos.line X.env = pure false := by rfl) : DS X Z E Wx (.Expr (.Call (.Attribute (.Name x p) "update" ap) [.Call (.Name "dict" p2) [a] [] dp] [] cp) pos) (sUpd i fa) := by
  refine PS.imp (ps_expr (pe_bm PySem.F.plainAttrs_dict PySem.F.slot_dict_update PySem.F.type_dict_update mt_dupd (pe_var hN hv hd hcd) (pa_cons (pe_callTy (call_dictP hc) hg hm bt_dict (pa_cons ha pa_nil hsa) (by decide) (by decide) hsa hpl) pa_nil hst) hbase hfew hline hst hplain) hs) fun D σ H ⟨Hf, g, sl, r, q⟩ => ?_
  obtain ⟨kvs, hi, q⟩ := goS_ownK q
  obtain ⟨v0, h1, l, vs, rfl, hH, kv, hown⟩ := r.slot i _ hi
  refine ⟨_, h1, .inr (.inr (.inl ⟨rfl, .inl ⟨vs, hH⟩⟩)), Hf, g, sl, r, (goS_do (Rl := RlR X.K) r q).mono fun y H1 ⟨Hf1, g1, d, b1, r1, d1, q1⟩ => ?_⟩
  unfold sMutK at q1
  rw [hi] at q1
  simp only at q1
  match em : ((asL d).bind asPrs) with
  | none => rw [em] at q1; exact q1.elim
  | some prs =>
    rw [em] at q1
    simp only [Option.bind_some] at q1
    split at q1
    · rename_i ys hys
      split at hys
      · rename_i hlen
        cases hys
        obtain ⟨ds, e1, e3⟩ := Option.bind_eq_some_iff.mp em
        obtain rfl := asL_some e1
        obtain ⟨l2, vs2, rfl, g1', g2'⟩ := d1.lst b1.fh
        obtain ⟨ps, ms, rfl, q2, q3⟩ := asPrs_v b1.fh e3 g2'
        refine ⟨l2, ps, ms, rfl, SqL.of g1', q2, fun pn hpn => ?_⟩
        obtain ⟨n1, n2, n3⟩ := new_n b1 hpn
        have r2 := r1.step (r1.base.self.allocU (.dK (mergeK [] ms)) hpn)
        obtain ⟨v1, h1', l', vs', e', hH', kv', hown'⟩ := r2.slot i _ hi
        rw [h1] at h1'
        cases h1'
        cases e'
        have hne : l ≠ pn := fun z => by
          subst z
          rw [hH] at n1
          cases n1
        have kvM : KVd X.K Hf1 (mergeK [] ms) (dMerge [] prs) := pv_merge q3 .nil
        refine ⟨l, pn, vs', mergeK [] ms, rfl, rfl, hne, hH', upd_same, ?_, ?_⟩
        · have a1 := pv_len kv'
          have a2 := length_mergeK ms []
          have a3 : ms.length = prs.length := pv_len q3
          simp only [List.length_nil, Nat.zero_add] at a2
          have := lim_line2 hlen
          omega
        · exact q1 σ _ Hf1 (same_refl _) (r2.updAny hi rfl rfl h1 hown' ⟨l, _, rfl, upd_same, pv_merge kvM kv', hown'⟩)
      · cases hys
    · exact q1.elim
theorem intKs_keys {K : PySem.W.Frag} {Hf : Hp} : ∀ {kvs : List (DKey × D)} {vs : List (Key × V)} {ks : List Int}, intKs kvs = some ks → KVd K Hf vs kvs → vs.map (·.1) = ks.map Sum.inl
  | [], _, _, h, .nil => by cases h; rfl
  | (.inl i, d) :: kvs, _, _, h, .cons h1 t => by
    obtain ⟨l, e1, rfl⟩ := Option.map_eq_some_iff.mp h
    rw [List.map_cons, intKs_keys e1 t, h1.1]
    rfl
theorem de_sortK (hc : X.calm = true) (hg : Gl X "sorted") (hm : X.mg "sorted" = none) (hN : X.N[i]? = some x := by rfl) (hv : Vis X.env.scope x := by first | exact Or.inl rfl | exact Or.inr (Or.inl rfl) | exact Or.inr (Or.inr rfl)) (hd : (x == ("__debug__" : Str)) = false := by decide)
    (hcd : (x == ("__classdict__" : Str)) = false := by decide) (hs : starEach [(.Name x p2 : Expr)] X.env = (false, eval (.Name x p2) X.env) :: starEach [] X.env := by rfl) (hpl : (backTo pos (starEach [] X.env)).any (·.1) = false := by rfl) :
    DE X Z E Wx (.Call (.Name "sorted" p) [.Name x p2] [] pos) (eSortK i) := by
  refine PE.imp (pe_callB (call_sortedDI hc) hg hm bt_sorted (pa_cons (pe_var hN hv hd hcd) pa_nil hs) (by decide) (by decide) hs hpl) fun σ H Q ⟨Hf, g, sl, r, q⟩ => ?_
  obtain ⟨b, kvs, h1, h2, q1⟩ := mK_go r q
  refine ⟨_, h1, ?_⟩
  obtain ⟨d, ed, k⟩ := go_lift q1
  obtain ⟨ks, e1, e2⟩ := Option.bind_eq_some_iff.mp ed
  split at e2
  · rename_i hlt
    cases e2
    obtain ⟨vs, rd, kv⟩ := r.dk h2 h1
    refine ⟨b, vs, ks, rfl, rd, intKs_keys e1 kv, hlt, fun ys p' pm po hp => ?_⟩
    rw [sortI_uniq pm po]
    exact k _ _ _ (r.base.self.alloc (.lst ((sortG leI ks).map V.int)) hp) (.lst upd_same (DvAll.ofInts _))
  · cases e2
def max2D : D → D → Option D
  | .int i, .int j => some (.int (if j > i then j else i))
  | _, _ => none
def min2D : D → D → Option D
  | .int i, .int j => some (.int (if j < i then j else i))
  | _, _ => none
theorem de_max2 (hc : X.calm = true) (hg : Gl X "max") (hm : X.mg "max" = none) (ha : DE X Z E Wx a fa) (hb : DE X Z E Wx b fb) (hs : starEach [a, b] X.env = (false, eval a X.env) :: starEach [b] X.env := by rfl) (hs2 : starEach [b] X.env = (false, eval b X.env) :: starEach [] X.env := by rfl) (hpl : (backTo pos (starEach [b] X.env)).any (·.1) = false := by rfl) :
    DE X Z E Wx (.Call (.Name "max" p) [a, b] [] pos) (e2 max2D fa fb) := by
  refine PE.imp (pe_callB (call_max2 hc) hg hm bt_max (pa_cons ha (pa_cons hb pa_nil hs2) hs) (by decide) (by decide) hs hpl) fun σ H Q ⟨Hf, g, sl, r, q⟩ => ⟨Hf, g, sl, r, (go_bind (Rm := RlD X.K) q).mono fun y H1 ⟨Hf1, g1, d, b1, d1, q1⟩ => ⟨Hf1, g1, sl, r.step b1, (go_bind (Rm := RlD X.K) q1).mono fun y2 H2 ⟨Hf2, g2, d', b2, d2, q2⟩ => ?_⟩⟩
  obtain ⟨o, ed, k⟩ := go_lift q2
  match d, d', ed, d1, d2 with
  | .int i, .int j, ed, d1, d2 =>
    cases ed
    cases d1
    cases d2
    exact ⟨i, j, rfl, k _ _ _ b2.self (.int _)⟩
theorem de_min2 (hc : X.calm = true) (hg : Gl X "min") (hm : X.mg "min" = none) (ha : DE X Z E Wx a fa) (hb : DE X Z E Wx b fb) (hs : starEach [a, b] X.env = (false, eval a X.env) :: starEach [b] X.env := by rfl) (hs2 : starEach [b] X.env = (false, eval b X.env) :: starEach [] X.env := by rfl) (hpl : (backTo pos (starEach [b] X.env)).any (·.1) = false := by rfl) :
    DE X Z E Wx (.Call (.Name "min" p) [a, b] [] pos) (e2 min2D fa fb) := by
  refine PE.imp (pe_callB (call_min2 hc) hg hm bt_min (pa_cons ha (pa_cons hb pa_nil hs2) hs) (by decide) (by decide) hs hpl) fun σ H Q ⟨Hf, g, sl, r, q⟩ => ⟨Hf, g, sl, r, (go_bind (Rm := RlD X.K) q).mono fun y H1 ⟨Hf1, g1, d, b1, d1, q1⟩ => ⟨Hf1, g1, sl, r.step b1, (go_bind (Rm := RlD X.K) q1).mono fun y2 H2 ⟨Hf2, g2, d', b2, d2, q2⟩ => ?_⟩⟩
  obtain ⟨o, ed, k⟩ := go_lift q2
  match d, d', ed, d1, d2 with
  | .int i, .int j, ed, d1, d2 =>
    cases ed
    cases d1
    cases d2
    exact ⟨i, j, rfl, k _ _ _ b2.self (.int _)⟩
end
end DL
namespace DL
open PySem L2
/-! ### behind a store under a name of one's own a token is out -/
section
variable {M : Model} {A : Around} {s : Shared}
theorem text_tok {Γ : Ctx} {x : Str} {f : Value → Sem Unit} {Q : Unit → Shared → Prop} {E : Value → Shared → Prop} {p : Pos} (h : Sem.wp M Γ (mkText x >>= f) (fun a _ s' => Q a s') (fun e _ s' => E e s') p s) : Sem.wp M Γ (mkText x >>= f) (fun a _ s' => 1 ≤ s'.toks ∧ Q a s') (fun e _ s' => E e s') p s := by
  have h' : Sem.wp M Γ (f (.str x s.toks)) (fun a _ s' => Q a s') (fun e _ s' => E e s') p { s with toks := s.toks + 1 } := by
    rw [Sem.wp_bind'] at h
    exact h
  rw [Sem.wp_bind']
  show Sem.wp M Γ (f (.str x s.toks)) (fun a _ s' => 1 ≤ s'.toks ∧ Q a s') (fun e _ s' => E e s') p { s with toks := s.toks + 1 }
  exact Sem.wp_mono M Γ _ (fun _ _ _ z => z) (fun _ _ _ z => z.2) _ _ (Sem.wp_toks M Γ 1 _ _ _ _ _ (by show 1 ≤ s.toks + 1; omega) h')
theorem nsSet_tok {a : Addr} {x : Str} {v : Value} {Q : Unit → Shared → Prop} {E : Value → Shared → Prop} (h : wpAny M A (nsSet a x v) Q E s) : wpAny M A (nsSet a x v) (fun u s' => 1 ≤ s'.toks ∧ Q u s') E s := by
  intro Γ p hΓ
  have h := h Γ p hΓ
  unfold nsSet at h ⊢
  rw [Sem.wp_bind'] at h ⊢
  exact Sem.wp_mono M Γ _ (fun hv p1 s1 h1 => text_tok h1) (fun _ _ _ z => z) p s h
theorem store_tok {X : Cx} {pins : List (Addr × Obj)} {σ : List (Option V)} {H : Hp} {E : Value → Shared → Prop} {i : Nat} {x : Str} {v : V} {u : Value} {Q : Unit → Shared → Prop} (I : Inv X pins σ H s) (hN : X.N.Nodup) (hi : X.N[i]? = some x) (hx : X.env.scope.names.lookup x = some .local) (r : RelV v u)
    (h : ∀ s', 1 ≤ s'.toks → Inv X pins (σ.set i (some v)) H s' → Q () s') : wpAny M A (storeName X.env x u) Q E s := by
  have hcls : (X.env.scope.kind == .class || (X.env.scope.kind == .module && X.env.locals != X.env.globals)) = false := by rw [I.ok.kind]; rfl
  have w := store_ok (M := M) (A := A) (E := E) (Q := fun _ s' => Inv X pins (σ.set i (some v)) H s') I hN hi (.inl hx) r (fun s' I' => I') (.inr hx)
  rw [storeName_local hx hcls] at w ⊢
  exact thn (nsSet_tok w) fun _ s' ⟨k, I'⟩ => h s' k I'
end
section
variable {X : Cx} {rest : List Stmt} {u : TS}
theorem PST.imp {st : Stmt} {t t' : TS} (h : PST X st t) (k : ∀ D σ H, t' D σ H → t D σ H) : PST X st t' := fun pins s σ H D h0 I q => h pins s σ H D h0 I (k D σ H q)
theorem PSsT.imp {st : List Stmt} {t t' : TS} (h : PSsT X st t) (k : ∀ D σ H, t' D σ H → t D σ H) : PSsT X st t' := fun pins s σ H D h0 I q => h pins s σ H D h0 I (k D σ H q)
/-- x = e, x a name of one's own: behind it a token is out -/
theorem pss_asgT {i : Nat} {x : Str} {e : Expr} {te : TE} {pos' pos : Pos} (hN : X.N.Nodup) (hi : X.N[i]? = some x) (hx : X.env.scope.names.lookup x = some .local) (he : PE X e te) (h2 : PSsT X rest u)
    (hs : swapsWith e (some (.Name x pos')) pos.line X.env = pure false := by rfl) : PSs X (.Assign [.Name x pos'] e pos :: rest) (tSeq (tAsg te (gName i)) u) := by
  refine ⟨fun pins s σ H D I h => ?_⟩
  refine wpAny_execs_cons (wpAny_Assign_Name (thn (he.run pins s σ H _ I h) fun v s1 ⟨y, H1, I1, r1, q1⟩ => ?_) hs)
  exact store_tok I1 hN hi hx r1 fun s2 k I2 => h2 pins s2 _ H1 D k I2 q1
/-- x = e, where e wants a token -/
theorem pst_set {i : Nat} {x : Str} {e : Expr} {te : TE} {pos' pos : Pos} (hN : X.N.Nodup) (hi : X.N[i]? = some x) (hx : Loc X.env.scope x) (he : PET X e te) (hs : swapsWith e (some (.Name x pos')) pos.line X.env = pure false := by rfl)
    (hf : X.fn x = true ∨ X.env.scope.names.lookup x = some .local := by first | exact .inl rfl | exact .inr rfl | assumption) : PST X (.Assign [.Name x pos'] e pos) (tAsg te (gName i)) := by
  intro pins s σ H D h0 I h
  refine wpAny_Assign_Name (thn (he pins s σ H _ h0 I h) fun v s1 ⟨y, H1, I1, r1, q1⟩ => ?_) hs
  exact store_ok I1 hN hi hx r1 (fun s2 I2 => ⟨_, H1, I2, q1⟩) hf
end
end DL
namespace DL
open PySem PySem.Spec PyProof.Rows L2
/-! ### o.replace("..", a[b]) -/
def tReplE (to : TE) (y : Str) (ta tb : TE) : TE := fun σ H Q => to σ H fun v H1 => ∃ x, v = .str x ∧ ta σ H1 fun va H2 => tb σ H2 fun vb H3 => ∃ z i c, va = .str z ∧ vb = .int i ∧ 0 ≤ i ∧ i < 2 ^ 63 ∧ i < z.length ∧ z.cps[i.toNat]? = some c ∧ (y == (⟨#[c]⟩ : Str)) = false ∧ x.length + (x.length + 1) * (⟨#[c]⟩ : Str).length ≤ 16777216 ∧ Q (.str (Txt.replace x y ⟨#[c]⟩)) H3
section
variable {X : Cx} {o a b : Expr} {to ta tb : TE} {y : Str} {j : Nat} {c0 spos apos pos : Pos}
theorem pet_replE (ho : PE X o to) (ha : PE X a ta) (hb : PE X b tb) (hs : PlainIxT b)
    (hst : starEach [.Constant (.str y) j c0, .Subscript a b spos] X.env = [(false, eval (.Constant (.str y) j c0) X.env), (false, eval (.Subscript a b spos) X.env)] := by rfl)
    (hbase : attributeBase o "replace" X.env (eval o X.env) = eval o X.env := by rfl) (hline : (apos.endLine == pos.line) = true := by rfl) :
    PET X (.Call (.Attribute o "replace" apos) [.Constant (.str y) j c0, .Subscript a b spos] [] pos) (tReplE to y ta tb) := by
  intro pins s σ H Q h0 I h
  refine PySem.Call_method2 hbase hst hline (wpAny_mono (PySem.wpAny_toks (ho.run pins s σ H _ I h)) (fun v s1 q => ?_) fun _ _ z => z.2)
  obtain ⟨hk, v', H1, I1, r1, x, e1, q⟩ := q
  subst e1
  obtain ⟨tx, e2⟩ := r1
  subst e2
  refine ⟨"str", _, PySem.F.plainAttrs_str, PySem.F.slot_str_replace, PySem.F.type_str_replace, typeIs_str _ _ _, (fun _ e => nomatch e), Calls.callWith_builtin rfl (Calls.evalArgs_plain (Calls.spliced_cons ?_))⟩
  refine Calls.Constant_str (Calls.spliced_cons ?_)
  refine Subscript_ (wpAny_mono (PySem.wpAny_toks (ha.run pins _ σ H1 _ (I1.tok (s1.toks + 1)) q)) (fun va s2 q2 => ?_) fun _ _ z => z.2)
  obtain ⟨k2, xa, H2, I2, r2, q2⟩ := q2
  refine wpAny_mono (PySem.wpAny_toks (hb.run pins s2 σ H2 _ I2 q2)) (fun vb s3 q3 => ?_) fun _ _ z => z.2
  obtain ⟨k3, xb, H3, I3, r3, z, i, c, rfl, rfl, i0, i63, i1, hc, hyz, hbd, q3⟩ := q3
  obtain ⟨t, rfl⟩ := r2
  obtain ⟨t', rfl⟩ := r3
  have k2' : s1.toks + 1 ≤ s2.toks := k2
  have e : seqIndex? i z.length = some i.toNat := PySem.StrLaws.seqIndex_nonneg i0 i1
  refine tail_any (typeIs_str s3 z t) slot_str_getitem.lookup (getItem_str (c := c) (by
    have e1 : decide (i < -(2 ^ 63 : Int)) = false := decide_eq_false (by omega)
    have e2 : decide (i ≥ 2 ^ 63) = false := decide_eq_false (by omega)
    rw [e1, e2] <;> rfl) (by rw [e]; exact hc) (Calls.spliced_nil ?_)) (hs _ _)
  exact PySem.SC.replace (by show s1.toks ≠ 0; omega) (by show s3.toks ≠ 0; omega) (by show s1.toks ≠ s3.toks; omega) hyz hbd fun t' k => ⟨.str (Txt.replace x y ⟨#[c]⟩), H3, I3.tok k, ⟨t', rfl⟩, q3⟩
end
end DL
namespace DL
open PySem PySem.Spec PyProof.Rows L2
theorem repl_map (p c : Nat) : ∀ x : List Nat, PySem.StrLaws.replL [p] [c] x = x.map fun d => if d = p then c else d
  | [] => PySem.StrLaws.replL_nil
  | d :: x => by
    by_cases h : d = p
    · subst h
      rw [PySem.StrLaws.replL_hit (by simp) (by simp)]
      show [c] ++ PySem.StrLaws.replL [d] [c] x = _
      rw [repl_map]; simp
    · rw [PySem.StrLaws.replL_miss (by simpa using h), repl_map]; simp [h]
theorem replace_map (p c : Nat) (x : List Nat) : Txt.replace (mkS x) (mkS [p]) (mkS [c]) = mkS (x.map fun d => if d = p then c else d) := by
  have := PySem.StrLaws.replace_list (x := mkS x) (y := mkS [p]) (z := mkS [c]) (by rw [mkS_len]; simp)
  rw [mkS_cps, mkS_cps, mkS_cps, repl_map] at this
  rw [← mkS_surj (Txt.replace _ _ _), this]
theorem dv_okS {K : PySem.W.Frag} {H : Hp} {v : V} {s : List Nat} (h : Dv K H v (.str s)) : v = .str (mkS s) ∧ okS s := by
  cases h with
  | str _ h => exact ⟨rfl, h⟩
/-- o.replace("p", a[b]): what it gives, on data -/
def rplD (p : Nat) (x : List Nat) (da db : D) : Option D := match da, db with
  | .str z, .int i => match z[i.toNat]? with
    | some c => if 0 ≤ i ∧ i < 1000 ∧ c ≠ p ∧ x.length ≤ 1000 ∧ i < z.length then some (.str (x.map fun d => if d = p then c else d)) else none
    | none => none
  | _, _ => none
def eRepl {G : Type} (p : Nat) (fo fa fb : M G D) : M G D := M.bind fo fun d => match d with
  | .str s => M.bind fa fun da => M.bind fb fun db => M.lift (rplD p s da db)
  | _ => M.lift none
section
variable {X : Cx} {Z : Cn} {E : Ent Z.W} {Wx : WX} {o a b : Expr} {fo fa fb : M Z.W.G D} {j : Nat} {c0 spos apos pos : Pos} {st : Stmt} {sts : List Stmt} {fs fs' : SM Z.W.G}
abbrev DET (X : Cx) (Z : Cn) (E : Ent Z.W) (Wx : WX) (e : Expr) (f : M Z.W.G D) : Prop := PET X e (tG Z X.K E (RlD X.K) Wx f)
abbrev DST (X : Cx) (Z : Cn) (E : Ent Z.W) (Wx : WX) (st : Stmt) (f : SM Z.W.G) : Prop := PST X st (tS Z X.K E Wx f)
abbrev DSsT (X : Cx) (Z : Cn) (E : Ent Z.W) (Wx : WX) (st : List Stmt) (f : SM Z.W.G) : Prop := PSsT X st (tS Z X.K E Wx f)
theorem PET.imp {e : Expr} {t t' : TE} (h : PET X e t) (k : ∀ σ H Q, t' σ H Q → t σ H Q) : PET X e t' := fun pins s σ H Q h0 I q => h pins s σ H Q h0 I (k σ H Q q)
theorem det_repl {p : Nat} (ho : DE X Z E Wx o fo) (ha : DE X Z E Wx a fa) (hb : DE X Z E Wx b fb) (hs : PlainIxT b)
    (hst : starEach [.Constant (.str (mkS [p])) j c0, .Subscript a b spos] X.env = [(false, eval (.Constant (.str (mkS [p])) j c0) X.env), (false, eval (.Subscript a b spos) X.env)] := by rfl)
    (hbase : attributeBase o "replace" X.env (eval o X.env) = eval o X.env := by rfl) (hline : (apos.endLine == pos.line) = true := by rfl) :
    DET X Z E Wx (.Call (.Attribute o "replace" apos) [.Constant (.str (mkS [p])) j c0, .Subscript a b spos] [] pos) (eRepl p fo fa fb) := by
  refine PET.imp (pet_replE ho ha hb hs hst hbase hline) fun σ H Q ⟨Hf, g, sl, r, q⟩ => ⟨Hf, g, sl, r, (go_bind (Rm := RlD X.K) q).mono fun v H1 ⟨Hf1, g1, d, b1, d1, q1⟩ => ?_⟩
  cases d with
  | str x =>
    obtain ⟨rfl, hx⟩ := dv_okS d1
    refine ⟨mkS x, rfl, Hf1, g1, sl, r.step b1, (go_bind (Rm := RlD X.K) q1).mono fun va H2 ⟨Hf2, g2, da, b2, d2, q2⟩ => ⟨Hf2, g2, sl, (r.step b1).step b2, (go_bind (Rm := RlD X.K) q2).mono fun vb H3 ⟨Hf3, g3, db, b3, d3, q3⟩ => ?_⟩⟩
    obtain ⟨d, ed, k⟩ := go_lift q3
    unfold rplD at ed
    split at ed
    · rename_i z i _
      split at ed
      · rename_i c hc
        split at ed
        · rename_i hcond
          obtain ⟨i0, i1, hne, hxl, hiz⟩ := hcond
          cases ed
          obtain ⟨rfl, hz⟩ := dv_okS d2
          cases d3
          have e1 : (⟨#[c]⟩ : Str) = mkS [c] := rfl
          have hcm : c ∈ z := List.mem_of_getElem? hc
          refine ⟨mkS z, i, c, rfl, rfl, i0, by omega, by rw [mkS_len]; exact hiz, by simpa [mkS] using hc, ?_, ?_, ?_⟩
          · rw [e1]
            exact beq_false_of_ne fun e => hne (by have := mkS_inj e; simp at this; exact this.symm)
          · rw [e1, mkS_len, mkS_len]; simp; omega
          · rw [e1, replace_map]
            refine k _ _ _ b3.self (.str _ ⟨?_, fun d hd => ?_⟩)
            · rw [List.length_map]; exact hx.1
            · obtain ⟨d', hd', rfl⟩ := List.mem_map.mp hd
              split
              · exact hz.2 c hcm
              · exact hx.2 d' hd'
        · cases ed
      · cases ed
    · cases ed
  | _ => obtain ⟨d, ed, k⟩ := go_lift q1; cases ed
theorem dsst_cons (h1 : DST X Z E Wx st fs) (h2 : DSsT X Z E Wx sts fs') : DSsT X Z E Wx (st :: sts) (sSeq fs fs') :=
  PSsT.imp (psst_cons h1 h2) fun D σ H ⟨Hf, g, sl, r, q⟩ => ⟨Hf, g, sl, r, goS_seq q⟩
theorem dst_of (h : DS X Z E Wx st fs) : DST X Z E Wx st fs := PST.of h
theorem dsst_of (h : DSs X Z E Wx sts fs) : DSsT X Z E Wx sts fs := PSsT.of h
end
end DL
namespace DL
open PySem PySem.Spec PyProof.Rows L2
section
variable {X : Cx} {Z : Cn} {E : Ent Z.W} {Wx : WX} {e : Expr} {fe : M Z.W.G D} {fx : M Z.W.G Slot} {pos : Pos} {st : Stmt} {sts : List Stmt} {fs fs' : SM Z.W.G}
abbrev DXT (X : Cx) (Z : Cn) (E : Ent Z.W) (Wx : WX) (e : Expr) (f : M Z.W.G Slot) : Prop := PET X e (tX Z X.K E Wx f)
theorem dxt_e (h : DET X Z E Wx e fe) : DXT X Z E Wx e (xD fe) := by
  refine PET.imp h fun σ H Q ⟨Hf, g, sl, r, q⟩ => ⟨Hf, g, sl, r, (go_bind (Rm := RlD X.K) q).mono fun v H1 ⟨Hf1, g1, d, b1, d1, q1⟩ => ?_⟩
  exact q1 _ _ _ b1.self ⟨d1, fun z => by cases z⟩
theorem dst_set {i : Nat} {x : Str} {pos' : Pos} (hN : X.N.Nodup) (hi : X.N[i]? = some x) (hx : Loc X.env.scope x) (he : DXT X Z E Wx e fx) (hs : swapsWith e (some (.Name x pos')) pos.line X.env = pure false := by rfl)
    (hf : X.fn x = true ∨ X.env.scope.names.lookup x = some .local := by first | exact .inl rfl | exact .inr rfl | assumption) : DST X Z E Wx (.Assign [.Name x pos'] e pos) (sAsg i fx) :=
  PST.imp (pst_set hN hi hx he hs hf) fun D σ H ⟨Hf, g, sl, r, q⟩ => ⟨Hf, g, sl, r, (goS_do (Rl := RlX X.K E H) r q).mono fun v H1 ⟨Hf1, g1, s, b1, r1, d1, q1⟩ => q1 _ H1 Hf1 (same_refl _) (R.set_new r r1 d1)⟩
theorem dss_setT {i : Nat} {x : Str} {pos' : Pos} (hN : X.N.Nodup) (hi : X.N[i]? = some x) (hx : X.env.scope.names.lookup x = some .local) (he : DX X Z E Wx e fx) (h2 : DSsT X Z E Wx sts fs') (hs : swapsWith e (some (.Name x pos')) pos.line X.env = pure false := by rfl) :
    DSs X Z E Wx (.Assign [.Name x pos'] e pos :: sts) (sSeq (sAsg i fx) fs') :=
  PSs.imp (pss_asgT hN hi hx he h2 hs) fun D σ H ⟨Hf, g, sl, r, q⟩ => ⟨Hf, g, sl, r, (goS_do (Rl := RlX X.K E H) r (goS_seq q)).mono fun v H1 ⟨Hf1, g1, s, b1, r1, d1, q1⟩ => q1 _ H1 Hf1 (same_refl _) (R.set_new r r1 d1)⟩
theorem dss_docT {x : Str} {j : Nat} {p p' : Pos} (h : DSsT X Z E Wx sts fs) : DSs X Z E Wx (.Expr (.Constant (.str x) j p) p' :: sts) fs := CwR.pss_docT h
end
end DL
namespace DL
open PySem PySem.Spec PyProof.Rows L2
section
variable {X : Cx} {Z : Cn} {E : Ent Z.W} {Wx : WX} {e : Expr} {fe : M Z.W.G D} {pos : Pos}
theorem dst_ret (h : DET X Z E Wx e fe) : DST X Z E Wx (.Return (some e) pos) (sRet fe) :=
  PST.imp (CwR.pst_ret h) fun D σ H ⟨Hf, g, sl, r, q⟩ => ⟨Hf, g, sl, r, (goS_do (Rl := RlD X.K) r q).mono fun v H1 ⟨Hf1, g1, d, b1, r1, d1, q1⟩ => q1 v H1 Hf1 r1.base d1⟩
end
end DL
namespace DL
open PySem PySem.Spec PyProof.Rows L2
/-! ### min of three texts -/
def strOfV : Value → List Nat
  | .str x _ => x.cps.toList
  | _ => []
def IsS (v : Value) : Prop := ∃ x t, v = .str x t
theorem cmpOf_ltS {prog : Program} {w : World} {A : Around} (vs : Array Value) (hn : ∀ v ∈ vs, IsS v) :
    CmpOf prog w A .Lt (fun i v => vs[i]? = some v) (fun i j => decide (strOfV (vs.getD i .none) < strOfV (vs.getD j .none))) := fun i j vi vj s Q E hi hj h => by
  have e1 : vs.getD i .none = vi := by simp [Array.getD_eq_getD_getElem?, hi]
  have e2 : vs.getD j .none = vj := by simp [Array.getD_eq_getD_getElem?, hj]
  simp only [e1, e2] at h
  obtain ⟨x, t, rfl⟩ := hn _ (Array.mem_of_getElem? hi)
  obtain ⟨y, u, rfl⟩ := hn _ (Array.mem_of_getElem? hj)
  exact PySem.P.lt_str h
theorem min3_str {prog : Program} {w : World} {A : Around} {E : Value → Shared → Prop} {s : Shared} {Q : Value → Shared → Prop} {a b c : Value} (hh : A.handled = none) (ha : IsS a) (hb : IsS b) (hc : IsS c)
    (h : ∀ h' tk, (∀ d o, s.heap.get? d = some o → h'.get? d = some o) →
      Q (if strOfV c < strOfV (if strOfV b < strOfV a then b else a) then c else (if strOfV b < strOfV a then b else a)) { s with heap := h', toks := tk }) :
    wpAny (model prog w) A (call (.builtin "min") [a, b, c]) Q E s := by
  have hT : (s.heap.push { cls := .type "tuple", data := .seq #[a, b, c] }).IsTuple s.heap.objs.size #[a, b, c] := ⟨_, Heap.get?_push_size _ rfl, rfl, 0, rfl⟩
  refine call_min_three (wpAny_pyIter_tuple hT ?_)
  have hsz : (s.heap.push { cls := .type "tuple", data := .seq #[a, b, c] }).objs.size = s.heap.objs.size + 1 := Heap.size_push ..
  refine ⟨_, [_, s.heap.objs.size], [_], _, _, _, _, rfl, Walks.tuple (A := A.in1) hh _ s.heap.objs.size (by rw [hsz]; exact Nat.ne_of_lt (Nat.lt_succ_self _)) #[a, b, c],
    ⟨⟨_, Heap.get?_push_size _ rfl, rfl, rfl⟩, hT.push _⟩, fun d hd => ?_, by simp, cmpOf_ltS #[a, b, c] (by simp [ha, hb, hc]), fun v h' tk hP hk => ?_⟩
  · show d < ((s.heap.push _).push _).objs.size
    rw [Heap.size_push, hsz]
    rcases List.mem_cons.mp hd with rfl | hd
    · rw [hsz]; exact Nat.lt_succ_self _
    · rcases List.mem_cons.mp hd with rfl | hd
      · exact Nat.lt_succ_of_lt (Nat.lt_succ_self _)
      · cases hd
  · have hold : ∀ d o, s.heap.get? d = some o → h'.get? d = some o := fun d o e => by
      refine hk d o (fun hm => ?_) (Heap.get?_push_of_some _ (Heap.get?_push_of_some _ e))
      rcases List.mem_cons.mp hm with e1 | hm
      · have := Heap.lt_size e; rw [e1, hsz] at this; exact Nat.lt_irrefl _ (Nat.lt_of_succ_lt this)
      · cases hm
    have := h h' tk hold
    have hv : (if strOfV c < strOfV (if strOfV b < strOfV a then b else a) then c else (if strOfV b < strOfV a then b else a)) = v := by
      by_cases h1 : strOfV b < strOfV a
      · by_cases h2 : strOfV c < strOfV b <;> simp [argBest, h1, h2] at hP <;> simp [h1, h2] <;> exact hP
      · by_cases h2 : strOfV c < strOfV a <;> simp [argBest, h1, h2] at hP <;> simp [h1, h2] <;> exact hP
    rw [hv] at this
    exact this
section
variable {X : Cx}
def minS (a b : List Nat) : List Nat := if b < a then b else a
theorem call_min3S (hc : X.calm = true) : CallR X (.builtin "min") (fun xs H Q => ∃ a b c : List Nat, xs = [.str (mkS a), .str (mkS b), .str (mkS c)] ∧ Q (.str (mkS (minS (minS a b) c))) H) := by
  intro pins s σ H xs us Q I r h
  obtain ⟨a, b, c, rfl, q⟩ := h
  obtain ⟨u1, u2, u3, rfl, r1, r2, r3⟩ : ∃ u1 u2 u3, us = [u1, u2, u3] ∧ RelV (.str (mkS a)) u1 ∧ RelV (.str (mkS b)) u2 ∧ RelV (.str (mkS c)) u3 := by
    cases r with
    | cons q1 r => cases r with
      | cons q2 r => cases r with
        | cons q3 r => cases r; exact ⟨_, _, _, rfl, q1, q2, q3⟩
  obtain ⟨t1, rfl⟩ := r1
  obtain ⟨t2, rfl⟩ := r2
  obtain ⟨t3, rfl⟩ := r3
  refine min3_str (I.ok.hd hc) ⟨_, _, rfl⟩ ⟨_, _, rfl⟩ ⟨_, _, rfl⟩ fun h' tk k => ⟨_, H, I.kept k, ?_, q⟩
  show RelV _ _
  unfold minS
  by_cases h1 : b < a
  · by_cases h2 : c < b
    · simp [strOfV, mkS_cps, h1, h2]; exact ⟨_, rfl⟩
    · simp [strOfV, mkS_cps, h1, h2]; exact ⟨_, rfl⟩
  · by_cases h2 : c < a
    · simp [strOfV, mkS_cps, h1, h2]; exact ⟨_, rfl⟩
    · simp [strOfV, mkS_cps, h1, h2]; exact ⟨_, rfl⟩
end
def min3D : D → D → D → Option D
  | .str a, .str b, .str c => some (.str (minS (minS a b) c))
  | _, _, _ => none
def eMin3 {G : Type} (fa fb fc : M G D) : M G D := M.bind fa fun x => M.bind fb fun y => M.bind fc fun z => M.lift (min3D x y z)
section
variable {X : Cx} {Z : Cn} {E : Ent Z.W} {Wx : WX} {a b c : Expr} {fa fb fc : M Z.W.G D} {p pos apos : Pos}
theorem minS_ok {x y : List Nat} (h1 : okS x) (h2 : okS y) : okS (minS x y) := by unfold minS; split <;> assumption
theorem de_min3 (hc : X.calm = true) (hg : Gl X "min") (hm : X.mg "min" = none) (ha : DE X Z E Wx a fa) (hb : DE X Z E Wx b fb) (hcc : DE X Z E Wx c fc) (hs : starEach [a, b, c] X.env = (false, eval a X.env) :: starEach [b, c] X.env := by rfl) (hs2 : starEach [b, c] X.env = (false, eval b X.env) :: starEach [c] X.env := by rfl) (hs3 : starEach [c] X.env = (false, eval c X.env) :: starEach [] X.env := by rfl) (hpl : (backTo pos (starEach [b, c] X.env)).any (·.1) = false := by rfl) :
    DE X Z E Wx (.Call (.Name "min" p) [a, b, c] [] pos) (eMin3 fa fb fc) := by
  refine PE.imp (pe_callB (call_min3S hc) hg hm bt_min (pa_cons ha (pa_cons hb (pa_cons hcc pa_nil hs3) hs2) hs) (by decide) (by decide) hs hpl) fun σ H Q ⟨Hf, g, sl, r, q⟩ => ⟨Hf, g, sl, r, (go_bind (Rm := RlD X.K) q).mono fun y H1 ⟨Hf1, g1, d, b1, d1, q1⟩ => ⟨Hf1, g1, sl, r.step b1, (go_bind (Rm := RlD X.K) q1).mono fun y2 H2 ⟨Hf2, g2, d', b2, d2, q2⟩ => ⟨Hf2, g2, sl, (r.step b1).step b2, (go_bind (Rm := RlD X.K) q2).mono fun y3 H3 ⟨Hf3, g3, d'', b3, d3, q3⟩ => ?_⟩⟩⟩
  obtain ⟨o, ed, k⟩ := go_lift q3
  match d, d', d'', ed, d1, d2, d3 with
  | .str i, .str j, .str l, ed, d1, d2, d3 =>
    cases ed
    obtain ⟨rfl, h1⟩ := dv_okS d1
    obtain ⟨rfl, h2⟩ := dv_okS d2
    obtain ⟨rfl, h3⟩ := dv_okS d3
    exact ⟨i, j, l, rfl, k _ _ _ b3.self (.str _ (minS_ok (minS_ok h1 h2) h3))⟩
/-! ### l.index(x), texts -/
def idxD (xs : List D) : D → Option D
  | .str s => (asSs xs).bind fun ss => if s ∈ ss then some (.int (ss.idxOf s : Nat)) else none
  | _ => none
theorem idx_first : ∀ (ss : List (List Nat)) (s : List Nat) (m : Nat), m < ss.idxOf s → ss[m]? ≠ some s
  | [], s, m, h, e => by simp at e
  | x :: ss, s, m, h, e => by
    rw [List.idxOf_cons] at h
    by_cases hx : x = s
    · subst hx; simp at h
    · have : (x == s) = false := by simpa using hx
      rw [this] at h
      cases m with
      | zero => simp at e; exact hx e
      | succ m => exact idx_first ss s m (by simpa using h) (by simpa using e)
def eIdx {G : Type} (fo fa : M G D) : M G D := M.bind fo fun d => match d with
  | .lst xs => M.bind fa fun y => M.lift (idxD xs y)
  | _ => M.lift none
theorem de_index {o : Expr} {fo : M Z.W.G D} (ho : DE X Z E Wx o fo) (ha : DE X Z E Wx a fa) (hst : starEach [a] X.env = (false, eval a X.env) :: starEach [] X.env := by rfl)
    (hbase : attributeBase o "index" X.env (eval o X.env) = eval o X.env := by rfl)
    (hfew : ((backTo pos (starEach [a] X.env)).all (fun x => !x.1) && (backToKw pos (keywordEach [] X.env)).all (fun x => x.1.isSome)
      && decide ([a].length + ([] : List Keyword).length + (if ([] : List Keyword).isEmpty then 0 else 1) < 30)) = true := by rfl)
    (hline : (apos.endLine == pos.line) = true := by rfl) (hplain : (backTo pos (starEach [] X.env)).any (·.1) = false := by rfl) :
    DE X Z E Wx (.Call (.Attribute o "index" apos) [a] [] pos) (eIdx fo fa) := by
  refine PE.imp (pe_bm PySem.F.plainAttrs_list PySem.F.slot_list_index PySem.F.type_list_index mt_index ho (pa_cons ha pa_nil hst) hbase hfew hline hst hplain) fun σ H Q ⟨Hf, g, sl, r, q⟩ => ⟨Hf, g, sl, r, (go_bind (Rm := RlD X.K) q).mono fun v H1 ⟨Hf1, g1, d, b1, d1, q1⟩ => ?_⟩
  cases d with
  | lst xs =>
    cases d1 with
    | lst h1 h2 =>
      refine ⟨.inl ⟨rfl, _, .inl (.inl (b1.fh _ _ h1))⟩, Hf1, g1, sl, r.step b1, (go_bind (Rm := RlD X.K) q1).mono fun y H2 ⟨Hf2, g2, d', b2, d2, q2⟩ => ?_⟩
      obtain ⟨oo, ed, k⟩ := go_lift q2
      match d', ed, d2 with
      | .str s, ed, d2 =>
        obtain ⟨rfl, hs⟩ := dv_okS d2
        unfold idxD at ed
        obtain ⟨ss, e1, e2⟩ := Option.bind_eq_some_iff.mp ed
        have := asSs_some e1
        subst this
        have hv := DvAll.strs h2
        subst hv
        split at e2
        · rename_i hm
          cases e2
          have hlt : ss.idxOf s < ss.length := List.idxOf_lt_length_of_mem hm
          refine ⟨_, _, _, ss.idxOf s, .str (mkS s), rfl, rfl, .inl (.inl (b2.fh _ _ (b2.ff _ _ h1))), rfl, ?_, ?_, ?_, fun m z' hm' hz => ?_, k _ _ _ b2.self (.int _)⟩
          · rw [List.all_map]; exact List.all_eq_true.mpr fun _ _ => rfl
          · rw [List.getElem?_map, List.getElem?_map, List.getElem?_eq_getElem hlt, List.getElem_idxOf hlt]; rfl
          · simp [eqV]
          · rw [List.getElem?_map, List.getElem?_map] at hz
            obtain ⟨x, hx, rfl⟩ := Option.map_eq_some_iff.mp hz
            obtain ⟨x', hx', rfl⟩ := Option.map_eq_some_iff.mp hx
            have hne : x' ≠ s := fun e => by
              subst e
              exact idx_first ss x' m hm' hx'
            have hne' : mkS x' ≠ mkS s := fun e => hne (mkS_inj e)
            simp [eqV, hne']
        · cases e2
  | _ => exact absurd q1 (by intro h; obtain ⟨_, e, _⟩ := go_lift h; cases e)
end
end DL
namespace DL
open PySem PySem.Spec PyProof.Rows L2
/-! ### t.index(x), t a tuple made right ahead of it -/
def TupAt (s : Shared) (p : Addr) : Prop := s.TypeIs (.ref p) "tuple" ∧ ∃ ob, s.heap.get? p = some ob ∧ ob.dict = none
def NmT (i : Nat) (s : Shared) (σ : L2.St) : Prop := ∃ p, σ[i]? = some (some (V.ref p)) ∧ TupAt s p
section
variable {X : Cx} {i : Nat}
def PEk (X : Cx) (i : Nat) (e : Expr) (t : TE) : Prop := ∀ (pins : List (Addr × Obj)) (s : Shared) (σ : L2.St) (H : Hp) (Q : VK), NmT i s σ → Inv X pins σ H s → t σ H Q → wpAny (model X.prog X.w) X.A (eval e X.env) (EP X pins σ Q) X.xe s
def PTk (X : Cx) (i : Nat) (e : Expr) (t : TT) : Prop := ∀ (pins : List (Addr × Obj)) (s : Shared) (σ : L2.St) (H : Hp) (Q : Bool → Hp → Prop), NmT i s σ → Inv X pins σ H s → t σ H Q → wpAny (model X.prog X.w) X.A (isTrue e X.env (eval e X.env)) (TP X pins σ Q) X.xe s
def PWk (X : Cx) (i : Nat) (e : Expr) (t : TT) : Prop := ∀ (whole : Sem Value) (pins : List (Addr × Obj)) (s : Shared) (σ : L2.St) (H : Hp) (Q : Bool → Hp → Prop), NmT i s σ → Inv X pins σ H s → t σ H Q → wpAny (model X.prog X.w) X.A (isTrue e X.env whole) (TP X pins σ Q) X.xe s
def PSk (X : Cx) (i : Nat) (st : Stmt) (t : TS) : Prop := ∀ (pins : List (Addr × Obj)) (s : Shared) (σ : L2.St) (H : Hp) (D : Ends), NmT i s σ → Inv X pins σ H s → t D σ H → wpAny (model X.prog X.w) X.A (exec st X.env) (SP X pins D) X.xe s
def PSsk (X : Cx) (i : Nat) (st : List Stmt) (t : TS) : Prop := ∀ (pins : List (Addr × Obj)) (s : Shared) (σ : L2.St) (H : Hp) (D : Ends), NmT i s σ → Inv X pins σ H s → t D σ H → wpAny (model X.prog X.w) X.A (execs st X.env) (SP X pins D) X.xe s
theorem PEk.imp {e : Expr} {t t' : TE} (h : PEk X i e t) (k : ∀ σ H Q, t' σ H Q → t σ H Q) : PEk X i e t' := fun pins s σ H Q n I q => h pins s σ H Q n I (k σ H Q q)
theorem PTk.imp {e : Expr} {t t' : TT} (h : PTk X i e t) (k : ∀ σ H Q, t' σ H Q → t σ H Q) : PTk X i e t' := fun pins s σ H Q n I q => h pins s σ H Q n I (k σ H Q q)
theorem PWk.imp {e : Expr} {t t' : TT} (h : PWk X i e t) (k : ∀ σ H Q, t' σ H Q → t σ H Q) : PWk X i e t' := fun w pins s σ H Q n I q => h w pins s σ H Q n I (k σ H Q q)
theorem PSk.imp {e : Stmt} {t t' : TS} (h : PSk X i e t) (k : ∀ D σ H, t' D σ H → t D σ H) : PSk X i e t' := fun pins s σ H D n I q => h pins s σ H D n I (k D σ H q)
theorem PSsk.imp {e : List Stmt} {t t' : TS} (h : PSsk X i e t) (k : ∀ D σ H, t' D σ H → t D σ H) : PSsk X i e t' := fun pins s σ H D n I q => h pins s σ H D n I (k D σ H q)
theorem PWk.pt {e : Expr} {t : TT} (h : PWk X i e t) : PTk X i e t := h _
theorem ld_var {pins : List (Addr × Obj)} {s : Shared} {σ : L2.St} {H : Hp} {x : Str} {v : V} {pos : Pos} {Q : Value → Shared → Prop} {E : Value → Shared → Prop} (I : Inv X pins σ H s) (hN : X.N[i]? = some x) (e : σ[i]? = some (some v)) (hv : Vis X.env.scope x) (h : ∀ u, RelV v u → Q u s)
    (hd : (x == ("__debug__" : Str)) = false) (hcd : (x == ("__classdict__" : Str)) = false) : wpAny (model X.prog X.w) X.A (eval (.Name x pos) X.env) Q E s := by
  obtain ⟨m, hn, hl⟩ := I.loc
  obtain ⟨u, r, l⟩ := hl i x v hN e hv
  have fin : Q u s := h u r
  rcases l with ⟨hk, hm⟩ | ⟨hk, c, hc, hcell⟩
  · exact wpAny_Name (wpAny_loadName_local I.ok.kind hk hn hm fin) hd
  · rcases hk with hk | hk
    · exact wpAny_Name (wpAny_loadName_cell I.ok.kind hk hc hcell fin) hd
    · exact wpAny_Name (wpAny_loadName_free I.ok.kind hk hc hcell fin hcd) hd
def rTIx (K : PySem.W.Frag) (x : V) (xs : List V) (H : Hp) (Q : VK) : Prop := ∃ p, ∃ ys : List Str, ∃ z j, x = .ref p ∧ xs = [.str z] ∧ SqT K H p (ys.map V.str) ∧ ys[j]? = some z ∧ (∀ m, m < j → ys[m]? ≠ some z) ∧ Q (.int (j : Nat)) H
theorem pek_index {x : Str} {a : Expr} {ta : TA} {npos apos pos : Pos} (hN : X.N[i]? = some x) (hv : Vis X.env.scope x) (ha : PA X [a] ta) (hst : starEach [a] X.env = (false, eval a X.env) :: starEach [] X.env)
    (hbase : attributeBase (.Name x npos) "index" X.env (eval (.Name x npos) X.env) = eval (.Name x npos) X.env)
    (hfew : ((backTo pos (starEach [a] X.env)).all (fun x => !x.1) && (backToKw pos (keywordEach [] X.env)).all (fun x => x.1.isSome)
      && decide ([a].length + ([] : List Keyword).length + (if ([] : List Keyword).isEmpty then 0 else 1) < 30)) = true)
    (hline : (apos.endLine == pos.line) = true) (hplain : (backTo pos (starEach [] X.env)).any (·.1) = false) (hd : (x == ("__debug__" : Str)) = false) (hcd : (x == ("__classdict__" : Str)) = false) :
    PEk X i (.Call (.Attribute (.Name x npos) "index" apos) [a] [] pos) (fun σ H Q => ta σ H fun xs H2 => ∃ v, σ[i]? = some (some v) ∧ rTIx X.K v xs H2 Q) := by
  intro pins s σ H Q ⟨p, hp, h1, h2⟩ I q
  refine wpAny_Call_method_late hbase hfew hline rfl (ld_var I hN hp hv (fun u r => ?_) hd hcd)
  cases r
  refine ⟨"tuple", "tuple.index", PySem.F.plainAttrs_tuple, PySem.F.slot_tuple_index, PySem.F.type_tuple_index, h1, (fun a e => by cases e; exact h2), ?_⟩
  have hA := ha.run pos pins s σ H _ I q
  rw [hst] at hA ⊢
  refine Calls.callWith_builtin (by show (false || (backTo pos (starEach [] X.env)).any (·.1)) = false; rw [hplain] <;> rfl) (Calls.evalArgs_plain ?_)
  refine thn hA fun us s2 ⟨vs, H2, I2, r2, v, hv', q2⟩ => ?_
  rw [hp] at hv'
  cases hv'
  exact mt_tup_index pins s2 σ H2 (.ref p) vs (.ref p) us Q I2 rfl r2 q2
theorem ptk_cmpR {a b : Expr} {ta tb : TE} {pos : Pos} {op : CmpOp} {r : R2} (ho : OpR X (compareOp op) r) (ha : PEk X i a ta) (hb : PE X b tb) (hm : behindInMarks op b = false) : PTk X i (.Compare a [op] [b] pos) (tTest (tOp r ta tb)) := by
  intro pins s σ H Q n I h
  refine wpAny_isTrue_Compare1 (thn (ha pins s σ H _ n I h) fun v s1 ⟨x, H1, I1, r1, q1⟩ => thn (hb.run pins s1 σ H1 _ I1 q1) fun u s2 ⟨y, H2, I2, r2, q2⟩ =>
    thn (ho pins s2 σ H2 x y v u _ I2 r1 r2 q2) fun c s3 ⟨z, H3, I3, r3, k, e, q3⟩ => ?_) hm
  subst e
  cases r3
  exact wpAny_truthy_bool ⟨H3, I3, q3⟩
theorem pwk_or {a b : Expr} {rest : List Expr} {pos : Pos} {tA tB' : TT} (ha : PTk X i a tA) (hb : PW X (.BoolOp .Or (b :: rest) pos) tB') : PWk X i (.BoolOp .Or (a :: b :: rest) pos) (tOr tA tB') := by
  intro wh pins s σ H Q n I h
  refine isTrue_or (thn (ha pins s σ H _ n I h) fun c s1 ⟨H1, I1, q1⟩ => ?_)
  cases c with
  | true => exact ⟨H1, I1, q1⟩
  | false => exact hb.run wh pins s1 σ H1 Q I1 q1
theorem psk_if {c : Expr} {a b : List Stmt} {tc : TT} {t u : TS} {pos : Pos} (hc : PTk X i c tc) (ha : PSs X a t) (hb : PSs X b u) : PSk X i (.If c a b pos) (tIfS tc t u) := by
  intro pins s σ H D n I h
  refine wpAny_If (thn (hc pins s σ H _ n I h) fun d s1 ⟨H1, I1, q1⟩ => ?_)
  cases d with
  | true => exact ha.run pins s1 σ H1 D I1 q1
  | false => exact hb.run pins s1 σ H1 D I1 q1
theorem pssk_cons {st : Stmt} {rest : List Stmt} {t u : TS} (h1 : PSk X i st t) (h2 : PSs X rest u) : PSsk X i (st :: rest) (tSeq t u) := by
  intro pins s σ H D n I h
  refine wpAny_execs_cons (thn (h1 pins s σ H _ n I h) fun f s1 q => ?_)
  cases f with
  | next => obtain ⟨σ', H', I', q'⟩ := q; exact h2.run pins s1 σ' H' D I' q'
  | brk => exact q
  | cont => exact q
  | ret u => exact q
/-- x = tuple(l), l a list: behind it the tuple is known to be one -/
theorem pss_tupK {x : Str} {e : Expr} {es : TA} {p pos' cpos pos : Pos} {rest : List Stmt} {u : TS} (hg : Gl X "tuple") (hm : X.mg "tuple" = none) (hN : X.N.Nodup) (hi : X.N[i]? = some x) (hx : Loc X.env.scope x) (he : PA X [e] es) (h2 : PSsk X i rest u)
    (hst : starEach [e] X.env = (false, eval e X.env) :: starEach [] X.env) (hpl : (backTo cpos (starEach [] X.env)).any (·.1) = false) (hs : swapsWith (.Call (.Name "tuple" p) [e] [] cpos) (some (.Name x pos')) pos.line X.env = pure false)
    (hf : X.fn x = true ∨ X.env.scope.names.lookup x = some .local) : PSs X (.Assign [.Name x pos'] (.Call (.Name "tuple" p) [e] [] cpos) pos :: rest) (fun D σ H => es σ H fun xs H1 => ∃ q ys, xs = [.ref q] ∧ SqL X.K H1 q ys ∧ ∀ l, H1 l = none → u D (σ.set i (some (.ref l))) (upd H1 l (.tup ys))) := by
  refine ⟨fun pins s σ H D I h => ?_⟩
  refine wpAny_execs_cons (wpAny_Assign_Name ?_ hs)
  refine wpAny_Call_Name_kw (ld_blt I hg hm bt_tuple ?_ (by decide) (by decide))
  refine PyProof.Rows.callWith_type1 (thn (he.run cpos pins s σ H _ I h) fun us s1 ⟨vs, H1, I1, r1, q1⟩ => ?_) hst hpl
  obtain ⟨q, ys, rfl, hq, k⟩ := q1
  obtain ⟨uu, rfl, rx⟩ := vals1 r1
  cases rx
  obtain ⟨its, r', pl, hz⟩ := I1.list hq
  have hlen := r'.length
  refine call_tuple_list pl.isList (fun h' kp => ?_) (by simp only [List.size_toArray] <;> omega)
  have I2 : Inv X pins σ H1 { s1 with heap := h' } := I1.kept (t' := s1.toks) kp
  have I3 : Inv X pins σ (upd H1 h'.objs.size (.tup ys)) { s1 with heap := h'.push { cls := .type "tuple", data := .seq its.toArray } } :=
    I2.laid (t' := s1.toks) (fun b o e => Heap.get?_push_of_some _ e) (Nat.le_refl _) (show ObjOk X.prog X.w _ _ _ (.tup ys) from ⟨hz, its, r', IsTup.new _ _⟩)
  refine store_ok2 (v := .ref h'.objs.size) I3 hN hi hx rfl (fun s4 I4 ⟨a, sb, hb⟩ => ?_) hf
  have hne : h'.objs.size ≠ a := fun z => by
    have hsome : (upd H1 h'.objs.size (.tup ys)) h'.objs.size = some (.tup ys) := upd_same
    rcases hb with e | e
    · rw [z, e] at hsome
      have := I4.free
      rw [z, e] at this
      rw [hsome] at this
      cases this
    · have := I4.freeC x a e
      rw [z] at hsome this
      rw [hsome] at this
      cases this
  have hget : s4.heap.get? h'.objs.size = some { cls := .type "tuple", data := .seq its.toArray } := by
    rw [sb.2 _ hne]; exact Heap.get?_push_size _ rfl
  refine h2 pins s4 _ _ D ⟨h'.objs.size, ?_, ⟨_, hget, rfl⟩, ⟨_, hget, rfl⟩⟩ I4 (k _ (I2.hok.fresh (Nat.le_refl _)))
  have hlt : i < σ.length := by rw [I3.len]; exact (List.getElem?_eq_some_iff.mp hi).1
  simp [hlt]
end
end DL
namespace DL
open PySem PySem.Spec PyProof.Rows L2
def eIdxT {G : Type} (i : Nat) (fa : M G D) : M G D := fun sl g => match sl[i]? with
  | some (some (.d (.tup xs))) => M.bind fa (fun y => M.lift (idxD xs y)) sl g
  | _ => none
def tupLD : D → Option D
  | .lst s => some (.tup s)
  | _ => none
section
variable {X : Cx} {Z : Cn} {E : Ent Z.W} {Wx : WX} {a b c e : Expr} {fa fb fe : M Z.W.G D} {ft fu : M Z.W.G Bool} {fs fs' : SM Z.W.G} {st : Stmt} {sts : List Stmt} {p npos pos apos : Pos} {i : Nat}
abbrev DEk (X : Cx) (Z : Cn) (E : Ent Z.W) (Wx : WX) (i : Nat) (e : Expr) (f : M Z.W.G D) : Prop := PEk X i e (tG Z X.K E (RlD X.K) Wx f)
abbrev DRk (X : Cx) (Z : Cn) (E : Ent Z.W) (Wx : WX) (i : Nat) (e : Expr) (f : M Z.W.G D) : Prop := PEk X i e (tG Z X.K E (RlR X.K) Wx f)
abbrev DTk (X : Cx) (Z : Cn) (E : Ent Z.W) (Wx : WX) (i : Nat) (e : Expr) (f : M Z.W.G Bool) : Prop := PTk X i e (tG Z X.K E RlB Wx f)
abbrev DWk (X : Cx) (Z : Cn) (E : Ent Z.W) (Wx : WX) (i : Nat) (e : Expr) (f : M Z.W.G Bool) : Prop := PWk X i e (tG Z X.K E RlB Wx f)
abbrev DSk (X : Cx) (Z : Cn) (E : Ent Z.W) (Wx : WX) (i : Nat) (st : Stmt) (f : SM Z.W.G) : Prop := PSk X i st (tS Z X.K E Wx f)
abbrev DSsk (X : Cx) (Z : Cn) (E : Ent Z.W) (Wx : WX) (i : Nat) (st : List Stmt) (f : SM Z.W.G) : Prop := PSsk X i st (tS Z X.K E Wx f)
theorem drk_index {x : Str} (ha : DE X Z E Wx a fa) (hN : X.N[i]? = some x := by rfl) (hv : Vis X.env.scope x := by first | exact Or.inl rfl | exact Or.inr (Or.inl rfl) | exact Or.inr (Or.inr rfl)) (hst : starEach [a] X.env = (false, eval a X.env) :: starEach [] X.env := by rfl)
    (hbase : attributeBase (.Name x npos) "index" X.env (eval (.Name x npos) X.env) = eval (.Name x npos) X.env := by rfl)
    (hfew : ((backTo pos (starEach [a] X.env)).all (fun x => !x.1) && (backToKw pos (keywordEach [] X.env)).all (fun x => x.1.isSome)
      && decide ([a].length + ([] : List Keyword).length + (if ([] : List Keyword).isEmpty then 0 else 1) < 30)) = true := by rfl)
    (hline : (apos.endLine == pos.line) = true := by rfl) (hplain : (backTo pos (starEach [] X.env)).any (·.1) = false := by rfl) (hd : (x == ("__debug__" : Str)) = false := by decide) (hcd : (x == ("__classdict__" : Str)) = false := by decide) :
    DRk X Z E Wx i (.Call (.Attribute (.Name x npos) "index" apos) [a] [] pos) (eIdxT i fa) := by
  refine PEk.imp (pek_index hN hv (pa_cons ha pa_nil hst) hst hbase hfew hline hplain hd hcd) fun σ H Q ⟨Hf, g, sl, r, q⟩ => ⟨Hf, g, sl, r, ?_⟩
  unfold eIdxT at q
  split at q
  · rename_i xs hsl
    obtain ⟨v, h1, h2⟩ := r.slot i _ hsl
    refine (go_bind (Rm := RlD X.K) q).mono fun y H2 ⟨Hf2, g2, d', b2, d2, q2⟩ => ?_
    obtain ⟨oo, ed, k⟩ := go_lift q2
    have h2 : Dv X.K Hf v (.tup xs) := h2
    cases h2 with
    | tup hh1 hh2 =>
      match d', ed, d2 with
      | .str s, ed, d2 =>
        obtain ⟨rfl, hs⟩ := dv_okS d2
        unfold idxD at ed
        obtain ⟨ss, e1, e2⟩ := Option.bind_eq_some_iff.mp ed
        have := asSs_some e1
        subst this
        have hv' := DvAll.strs hh2
        subst hv'
        split at e2
        · rename_i hm
          cases e2
          have hlt : ss.idxOf s < ss.length := List.idxOf_lt_length_of_mem hm
          refine ⟨_, h1, _, ss.map mkS, mkS s, ss.idxOf s, rfl, rfl, .inl (.inl (b2.fh _ _ (b2.ff _ _ hh1))), ?_, fun m hm' hz => ?_, k _ _ _ b2.self (.inl (.int _))⟩
          · rw [List.getElem?_map, List.getElem?_eq_getElem hlt, List.getElem_idxOf hlt]; rfl
          · rw [List.getElem?_map] at hz
            obtain ⟨x', hx', hxe⟩ := Option.map_eq_some_iff.mp hz
            have := mkS_inj hxe
            subst this
            exact idx_first ss x' m hm' hx'
        · cases e2
  · exact q.elim
theorem dtk_cmp {o : CmpOp} {op : D → D → Option D} (ho : OpD X (compareOp o) op) (ha : DRk X Z E Wx i a fa) (hb : DR X Z E Wx b fb) (hm : behindInMarks o b = false := by rfl) : DTk X Z E Wx i (.Compare a [o] [b] pos) (tV (e2 op fa fb)) := by
  obtain ⟨r, hr, k⟩ := ho
  exact PTk.imp (ptk_cmpR hr ha hb hm) fun σ H Q h => tTest_of h fun Q' q => op_run k q
theorem dwk_or {rest : List Expr} (ha : DTk X Z E Wx i a ft) (hb : DW X Z E Wx (.BoolOp .Or (b :: rest) pos) fu) : DWk X Z E Wx i (.BoolOp .Or (a :: b :: rest) pos) (tOrM ft fu) := by
  refine PWk.imp (pwk_or ha hb) fun σ H Q ⟨Hf, g, sl, r, q⟩ => ⟨Hf, g, sl, r, (go_bind (Rm := RlB) q).mono fun x H1 ⟨Hf1, g1, c, b1, e1, q1⟩ => ?_⟩
  cases e1
  cases x with
  | true => rw [if_pos rfl] at q1 ⊢; exact q1 _ _ _ b1.self rfl
  | false => rw [if_neg (by decide)] at q1 ⊢; exact ⟨Hf1, g1, sl, r.step b1, q1⟩
theorem dsk_if {ca cb : List Stmt} (hc : DTk X Z E Wx i c ft) (ha : DSs X Z E Wx ca fs) (hb : DSs X Z E Wx cb fs') : DSk X Z E Wx i (.If c ca cb pos) (sIf ft fs fs') := by
  refine PSk.imp (psk_if hc ha hb) fun D σ H ⟨Hf, g, sl, r, q⟩ => ⟨Hf, g, sl, r, (goS_do (Rl := RlB) r q).mono fun v H1 ⟨Hf1, g1, k, b1, r1, e1, q1⟩ => ?_⟩
  cases e1
  cases v with
  | true => rw [if_pos rfl] at q1 ⊢; exact ⟨Hf1, g1, sl, r1, q1⟩
  | false => rw [if_neg (by decide)] at q1 ⊢; exact ⟨Hf1, g1, sl, r1, q1⟩
theorem dssk_cons (h1 : DSk X Z E Wx i st fs) (h2 : DSs X Z E Wx sts fs') : DSsk X Z E Wx i (st :: sts) (sSeq fs fs') :=
  PSsk.imp (pssk_cons h1 h2) fun D σ H ⟨Hf, g, sl, r, q⟩ => ⟨Hf, g, sl, r, goS_seq q⟩
theorem dss_tupK {x : Str} {pos' cpos : Pos} (hg : Gl X "tuple") (hm : X.mg "tuple" = none) (hN : X.N.Nodup) (hi : X.N[i]? = some x) (hx : Loc X.env.scope x) (he : DE X Z E Wx e fe) (h2 : DSsk X Z E Wx i sts fs')
    (hst : starEach [e] X.env = (false, eval e X.env) :: starEach [] X.env := by rfl) (hpl : (backTo cpos (starEach [] X.env)).any (·.1) = false := by rfl) (hs : swapsWith (.Call (.Name "tuple" p) [e] [] cpos) (some (.Name x pos')) pos.line X.env = pure false := by rfl)
    (hf : X.fn x = true ∨ X.env.scope.names.lookup x = some .local := by first | exact .inl rfl | exact .inr rfl | assumption) :
    DSs X Z E Wx (.Assign [.Name x pos'] (.Call (.Name "tuple" p) [e] [] cpos) pos :: sts) (sSeq (sAsg i (xD (e1 tupLD fe))) fs') := by
  refine PSs.imp (pss_tupK hg hm hN hi hx (pa_cons he pa_nil hst) h2 hst hpl hs hf) fun D σ H ⟨Hf, g, sl, r, q⟩ => ⟨Hf, g, sl, r, (go_bind (Rm := RlD X.K) (go_bind (Rm := RlD X.K) (goS_do (Rl := RlX X.K E H) r (goS_seq q)))).mono fun v H1 ⟨Hf1, g1, d, b1, d1, q3⟩ => ?_⟩
  obtain ⟨o, ed, k⟩ := go_lift q3
  match d, ed, d1 with
  | .lst ys, ed, d1 =>
    cases ed
    have d1' : Dv X.K Hf1 v (.lst ys) := d1
    cases d1' with
    | @lst q' vs _ hh1 hh2 =>
      refine ⟨q', vs, rfl, .inl (.inl (b1.fh _ _ hh1)), fun l hl => ?_⟩
      obtain ⟨Hf2, g2, d2, b2, dd2, q4⟩ := k (.ref l) _ _ (b1.self.alloc (.tup vs) hl) (.tup upd_same (DvAll.mono (same_new (b1.hn hl)) _ hh2))
      obtain ⟨Hf3, g3, s3, b3, r3, d3, q5⟩ := q4 _ _ _ b2.self ⟨dd2, fun z => by cases z⟩
      exact q5 _ _ Hf3 (same_refl _) (R.set_new r r3 d3)
end
end DL
namespace L2
open PySem PySem.Spec PyProof.Rows
section
variable {X : Cx}
/-- sorted(t), t a tuple of texts -/
def rSortedTS (K : PySem.W.Frag) : List V → Hp → VK → Prop := fun vs H Q => ∃ (a : Addr) (xs : List Str), vs = [V.ref a] ∧ SqT K H a (xs.map V.str) ∧
  ∀ (ys : List Str) (p : Addr), ys.Perm xs → sortedS ys = true → H p = none → Q (.ref p) (upd H p (.lst (ys.map V.str)))
theorem cr_sortedTS : CallR X (.builtin "sorted") (rSortedTS X.K) := by
  intro pins s σ H vs us Q I r h
  obtain ⟨a, xs, rfl, hs, q⟩ := h
  obtain ⟨its, rv, ht, hz⟩ := I.tuple hs
  rw [Vals.ref1 r]
  have hi := rv.strs
  have hlen := rv.length
  refine Calls.call_function_entry kind_sorted plain_sorted entry_sorted (args_sorted1 _) ?_
  unfold Builtin.«sorted»
  refine wpAny_bind (m := checkCount "sorted" 1 1 _) (wpAny_pure (wpAny_bind (collect_tup ht (by rw [← hlen]; exact hz) fun h' k hsz => ?_)))
  have I1 : Inv X pins σ H { s with heap := h' } := I.kept (t' := s.toks) k
  refine wpAny_bind (wpAny_newList ?_ (by rw [← hlen]; exact hz))
  have hL : (h'.push (seqObj "list" its.toArray 0)).get? h'.objs.size = some (seqObj "list" its.toArray 0) := Heap.get?_push_size _ rfl
  refine wpAny_bind (wpAny_holding (wpAny_call_entry slot_list_sort ⟨_, hL, rfl⟩ entry_list_sort
    (list_sort_treeKAny strKind_oneLt (s := { s with heap := h'.push (seqObj "list" its.toArray 0) }) hL hi.keysOf (fun v₁ v₂ rest e => keyKind_strs (by rw [← e]; exact hi)) (by rw [← hlen]; exact hz) fun st' hp hs' => ⟨_, rfl, ?_⟩) (args_list_sort _)))
  obtain ⟨ys, a1, a2, a3⟩ := sorted_out_str hi hp hs'
  obtain ⟨e', he'⟩ := sortedHeap_at (vs := its) (out := _) hL
  have lenY : (ys.map V.str).length ≤ sizeLine := by
    rw [List.length_map, a2.length_eq]
    rw [List.length_map] at hz
    exact hz
  refine wpAny_pure ⟨_, rfl, .ref h'.objs.size, upd H h'.objs.size (.lst (ys.map V.str)), I1.laid (t' := s.toks) (fun b u e => ?_) (Nat.le_refl _)
    (show ObjOk X.prog X.w _ _ _ (.lst (ys.map V.str)) from ⟨lenY, _, e', vals_of_strs a1, by rw [Array.toArray_toList]; exact he'⟩), rfl, q ys _ a2 a3 (I1.hok.fresh (Nat.le_refl _))⟩
  have hb : b < h'.objs.size := Heap.lt_size e
  rw [sortedHeap_old (Nat.ne_of_lt hb) (by rw [size_push']; exact Nat.lt_succ_of_lt hb)]
  exact Heap.get?_push_of_some _ e
end
end L2
namespace DL
open PySem PySem.Spec PyProof.Rows L2
def sortTSD : D → Option D
  | .tup xs => (asSs xs).map fun ss => .lst ((sortG leS ss).map D.str)
  | _ => none
theorem c_sortTS {X : Cx} : C1 X (.builtin "sorted") sortTSD := by
  refine ⟨_, cr_sortedTS, fun W H Hf g x a d Q B ha ed k => ?_⟩
  match a, ed, ha with
  | .tup xs, ed, ha =>
    obtain ⟨ss, e1, rfl⟩ := Option.map_eq_some_iff.mp ed
    obtain rfl := asSs_some e1
    obtain ⟨p, vs, rfl, h1, h2⟩ := ha.tup
    have hvs := h2.strs
    subst hvs
    have oks := h2.oks
    refine ⟨p, ss.map mkS, rfl, SqT.of (B.fh _ _ h1), fun ys q pm po hq => ?_⟩
    rw [sortS_uniq pm po]
    exact k _ _ _ (B.alloc (.lst (((sortG leS ss).map mkS).map V.str)) hq) (.lst upd_same (DvAll.ofStrs _ fun s hs => oks s ((sortG_perm leS ss).mem_iff.mp hs)))
end DL
namespace DL
open PySem PySem.Spec PyProof.Rows L2 LamX
/-! ### a lambda that is made: the one table grows, or nothing -/
def TabStep (H H1 : Hp) (P : Addr) (q : Str) (c : Addr) : Prop :=
  (H1 = H ∧ ∃ (ps : Array Value) (pos : Pos), H P = some (.tbl ps) ∧ codeAmong pos ps.toList = some (.ref c)) ∨
  ∃ (ps ps' : Array Value), H P = some (.tbl ps) ∧ H c = none ∧ TriplesOk ps'.toList ∧ (∀ pos cv, codeAmong pos ps'.toList = some cv → codeAmong pos ps.toList = some cv ∨ cv = .ref c) ∧ H1 = upd (upd H P (.tbl ps')) c (CodeO c q)
/-- the def that calls what it got: a calls it; TT: what it makes of the lambda's reading -/
def Gives3 (X : Cx) (Ng : List Str) (x : Str) (sg : Scope) (g : Addr) (cdg : Value) (bg : List Stmt) (a : Str) (q : Str) (TT : Addr → (XK → Hp → VK → Prop) → Hp → VK → Prop) : Prop :=
  ∀ (f c' : Addr) (s : Shared) (H : Hp) (Q : VK) (tl : XK → Hp → VK → Prop), Room 1 (X.A.deeper (envOfC x sg s.heap.objs.size g cdg)) →
    (∀ (W : WX) (pn : List (Addr × Obj)) (xe : Value → Shared → Prop) (p1 p2 : Pos), Takes ((cxOf C8.CX0 X.prog X.w X.K X.mg X.base Ng x sg g cdg X.A X.stack s H C8.E0).tr pn xe) W →
      PE ((cxOf C8.CX0 X.prog X.w X.K X.mg X.base Ng x sg g cdg X.A X.stack s H C8.E0).tr pn xe) (.Call (.Name a p1) [] [] p2) (fun σZ HZ Q => σZ[0]? = some (some (.ref f)) ∧ HZ c' = some (CodeO c' q) ∧ tl (fun cls d H' => W cls d σZ H') HZ Q)) →
    H c' = some (CodeO c' q) → TT c' tl H Q →
    ∃ t, PSs (cxOf C8.CX0 X.prog X.w X.K X.mg X.base Ng x sg g cdg X.A X.stack s H C8.E0).nox bg t ∧ t { nx := fun _ H' => Q .non H', rt := Q } (L2.start Ng [.ref f]) H
section
variable {X : Cx} {pins : List (Addr × Obj)} {σ : L2.St} {H : Hp} {s : Shared}
theorem lam_make3 {c P : Addr} {params : Arguments} {body : Expr} {scope : Scope} {pos : Pos} {E : Value → Shared → Prop} {Q : Value → Shared → Prop} (I : Inv X pins σ H s) (TB : TabB X.base X.mg c P) (hcode : X.env.code = .ref c)
    (hT : TabS H P (X.env.qual ++ "<lambda>")) (hdef : defaultsOf params X.env = ([], [])) (hfree : ∀ y ∈ scope.names, y.2 = .free → ∃ c, X.env.cells.lookup y.1 = some c)
    (h : ∀ (f c' : Addr) (pm ctv : Value) (H1 : Hp) (s' : Shared), Inv X pins σ H1 s' → TabStep H H1 P (X.env.qual ++ "<lambda>") c' → TabS H1 P (X.env.qual ++ "<lambda>") →
      s'.heap.get? f = some (PySem.W.kla_obj "<lambda>" (X.env.qual ++ "<lambda>") params body scope (cloFrom X.env.cells scope.names []) pm c' ctv) → H1 f = none → f ∉ frs X.stack → H1 c' = some (CodeO c' (X.env.qual ++ "<lambda>")) → Q (.ref f) s') :
    wpAny (model X.prog X.w) X.A (eval (.Lambda params body scope pos) X.env) Q E s := by
  obtain ⟨ps, hP, ht, ha⟩ := hT
  have bP : s.heap.BuiltinsAt X.mg P := TB.bm.keeps I.bk
  have oP : s.heap.get? P = some { cls := .none, data := .fields ps } := I.hok P _ hP
  have out : ∀ f, s.heap.objs.size ≤ f → f ∉ frs X.stack := fun f hf z => by
    rcases List.mem_cons.mp (I.stkSub _ z) with e | e
    · have h1 := I.lt
      rw [← e] at h1
      exact absurd h1 (Nat.not_lt.mpr hf)
    · exact I.nofs hf e
  refine PySem.W.kla_eval hdef ?_
  cases hc : codeAmong pos ps.toList with
  | some cv =>
    obtain ⟨c', rfl, hco⟩ := ha pos cv hc
    refine PySem.W.kla_makeFunctionHit (mg := X.mg) (c := c) (P := P) (ps := ps) (closure_ok hfree) I.ok.glob (I.mod.glob.keeps I.bk) hcode (TB.code.keeps I.bk) oP ht hc bP fun ctv h' tk hx hsz => ?_
    exact h h'.objs.size c' _ ctv H _ (I.kept fun b o e => Heap.get?_push_of_some _ (hx b o e)) (.inl ⟨rfl, ps, pos, hP, hc⟩) ⟨ps, hP, ht, ha⟩ (Heap.get?_push_size _ rfl) (I.hok.fresh hsz) (out _ hsz) hco
  | none =>
    refine PySem.W.kla_makeFunction (mg := X.mg) (c := c) (P := P) (ps := ps) (closure_ok hfree) I.ok.glob (I.mod.glob.keeps I.bk) hcode (TB.code.keeps I.bk) oP ht hc TB.gP bP fun c' ctv h' tk hx hge hlt hrec htb => ?_
    obtain ⟨c2, oc, vs, t, e2, hoc, hd, hv⟩ := hrec
    cases e2
    have hsz : s.heap.objs.size ≤ h'.objs.size := Nat.le_trans hge (Nat.le_of_lt hlt)
    have nC : H c' = none := I.hok.fresh hge
    have nPc : P ≠ c' := ne_of_none hP nC
    refine h h'.objs.size c' _ ctv _ _ (inv_table (t' := tk) (more := #[rawInt pos.line, rawInt pos.col, .ref c']) I hP (fun b o hb e => Heap.get?_push_of_some _ (hx b o hb e)) (Heap.get?_push_of_some _ htb) hge ⟨oc, vs, t, Heap.get?_push_of_some _ hoc, hd, hv⟩)
      (.inr ⟨ps, _, hP, nC, by rw [Array.toList_append]; exact PySem.TriplesOk_snoc _ _ _ _ ht, fun p' cv hcv => by rw [Array.toList_append] at hcv; exact among_app _ ht hcv, rfl⟩) ⟨ps ++ #[rawInt pos.line, rawInt pos.col, .ref c'], by rw [upd_ne nPc, upd_same], ?_, fun p' cv hcv => ?_⟩ (Heap.get?_push_size _ rfl) ?_ (out _ hsz) upd_same
    · rw [Array.toList_append]; exact PySem.TriplesOk_snoc _ _ _ _ ht
    · rw [Array.toList_append] at hcv
      rcases among_app _ ht hcv with z | z
      · obtain ⟨c0, e1, e2⟩ := ha p' cv z
        have n0 : c0 ≠ c' := ne_of_none e2 nC
        have n1 : c0 ≠ P := fun w => by
          rw [w, hP] at e2
          exact codeO_ne ps (Option.some.inj e2).symm
        exact ⟨c0, e1, by rw [upd_ne n0, upd_ne n1]; exact e2⟩
      · exact ⟨c', z, upd_same⟩
    · have n1 : h'.objs.size ≠ c' := Nat.ne_of_gt hlt
      have n2 : h'.objs.size ≠ P := Nat.ne_of_gt (Nat.lt_of_lt_of_le (Heap.lt_size oP) hsz)
      rw [upd_ne n1, upd_ne n2]
      exact I.hok.fresh hsz
end
/-- a(), in the def that got the lambda; what it raises is asked at that very place -/
theorem pe_act3 {CXg : CXT} {Eg : XK} {Ng : List Str} {qg : Str} {sg : Scope} {g f c' : Addr} {cdg pm ctv : Value} {params : Arguments} {body : Expr} {scope : Scope} {k i : Nat} {a : Str} {pn : List (Addr × Obj)} {xe : Value → Shared → Prop} {W : WX} {tb : XK → TE} {p1 p2 : Pos} {X : Cx} {pins : List (Addr × Obj)} {σ : L2.St} {H : Hp} {s : Shared}
    (I : Inv X pins σ H s) (L : LamS X.env.scope scope) (hf : s.heap.get? f = some (PySem.W.kla_obj "<lambda>" (X.env.qual ++ "<lambda>") params body scope (cloFrom X.env.cells scope.names []) pm c' ctv)) (hfn : H f = none) (hfr : f ∉ frs X.stack)
    (hbind : bindArgs (PySem.W.kla_fn "<lambda>" (X.env.qual ++ "<lambda>") params body scope (cloFrom X.env.cells scope.names []) pm (.ref c') ctv) ⟨[], []⟩ = pure [])
    (tk : Takes ((cxOf CXg X.prog X.w X.K X.mg X.base Ng qg sg g cdg X.A X.stack s H Eg).tr pn xe) W) (hr : Room (k + 1) (X.A.deeper (envOfC qg sg s.heap.objs.size g cdg)))
    (hbody : ∀ (A : Around) (outer : List Env) (s : Shared) (H : Hp) (E : XK), Room k (A.deeper (lamEnv X scope s.heap.objs.size f c')) → PE (lamCx X A outer s H E scope f c') body (tb E))
    (hN : Ng[i]? = some a) (hv : Vis sg a) (hd : (a == ("__debug__" : Str)) = false) (hcd : (a == ("__classdict__" : Str)) = false) :
    PE ((cxOf CXg X.prog X.w X.K X.mg X.base Ng qg sg g cdg X.A X.stack s H Eg).tr pn xe) (.Call (.Name a p1) [] [] p2)
      (fun σZ HZ Q => σZ[i]? = some (some (.ref f)) ∧ HZ c' = some (CodeO c' (X.env.qual ++ "<lambda>")) ∧ tb (fun cls d H' => W cls d σZ H') σ HZ Q) := by
  refine ⟨fun pinsZ sZ σZ HZ Q IZ ⟨hs, hc, ht⟩ => ?_⟩
  refine wpAny_Call_Name_kw (ld_var (i := i) IZ hN hs hv (fun u ru => ?_) hd hcd)
  cases ru
  have of1 : sZ.heap.get? f = some (PySem.W.kla_obj "<lambda>" (X.env.qual ++ "<lambda>") params body scope (cloFrom X.env.cells scope.names []) pm c' ctv) := IZ.base.keep f _ hf hfn hfr (fun z => nomatch (show f ∈ ([] : List Addr) from z))
  refine PySem.W.callWith_F0 ⟨_, _, _, _, of1⟩ ?_
  have un : Un (frs X.stack) [] H HZ s.heap sZ.heap := IZ.base
  obtain ⟨⟨oc, vs, t, hoc, hdc, hvc⟩, _, _⟩ := IZ.hok c' _ hc
  have rc : codeAny (model X.prog X.w) (X.A.deeper (envOfC qg sg s.heap.objs.size g cdg)) (.call (.ref f) ⟨[], []⟩) (CR (L2.CX X.prog X.w) (envOfC qg sg s.heap.objs.size g cdg :: X.stack) X.prog X.w HZ sZ Q (WE W σZ)) sZ := by
    refine PySem.W.kla_callFunE hr.depth of1 rfl L.co L.gen rfl ⟨c', oc, vs, t, rfl, hoc, hdc, hvc⟩ ?_
    rw [hbind]
    refine wpAny_pure (wpAny_newFunctionEnv (fun y hy => (L.own y hy).2) (fun y hy => absurd hy (by simp)) (fun h₁ hns hsb => ⟨IZ.nolimit.fresh _ hsb, ?_⟩) L.kind)
    show codeAny _ _ (.expr body (lamEnv X scope sZ.heap.objs.size f c')) _ _
    have kp : ∀ b o, sZ.heap.get? b = some o → h₁.get? b = some o := fun b o e => hsb.extBut b o (Nat.ne_of_lt (Heap.lt_size e)) (Heap.get?_push_of_some _ e)
    have J : Inv (lamCx X (X.A.deeper (envOfC qg sg s.heap.objs.size g cdg)) (envOfC qg sg s.heap.objs.size g cdg :: X.stack) sZ HZ (WE W σZ) scope f c') [] σ HZ { sZ with heap := h₁, toks := sZ.toks + ([] : List (Str × Value)).length } :=
      lam_start2 I L IZ.env0 hr.hd un hns kp
    refine PySem.W.kla_codeExpr (wpAny_mono ((hbody _ _ sZ HZ (WE W σZ) (hr.deeper _)).run [] _ _ HZ Q J ht) (fun v s' hq => ?_) fun e s' hq => hq)
    obtain ⟨w', H', J', rv, q⟩ := hq
    exact ⟨w', H', J'.os, J'.bare, J'.base, J'.hok, rv, q⟩
  refine wpAny_call (codeAny_mono rc fun r s' hq => ?_)
  cases r with
  | error e => exact passAt tk σZ pinsZ HZ sZ e s' IZ hq
  | ok fl =>
    cases fl with
    | ret u => exact IZ.after hq
    | next => exact False.elim hq
    | brk => exact False.elim hq
    | cont => exact False.elim hq
def tLam3 (P : Addr) (q : Str) (TT : Addr → (XK → Hp → VK → Prop) → Hp → VK → Prop) (t : XK → TE) : TE := fun σ H Q => TabS H P q ∧ ∀ H1 c', TabStep H H1 P q c' → TabS H1 P q → TT c' (fun E H' Q' => t E σ H' Q') H1 Q
section
variable {X : Cx}
/-- x(lambda: body) -/
theorem pe_lam3 {TT : Addr → (XK → Hp → VK → Prop) → Hp → VK → Prop} {x a : Str} {g c P : Addr} {k : Nat} {pg : Arguments} {bg : List Stmt} {sg : Scope} {dV kV doc pm cdv ct oc : Value} {an od : Option Addr} {osl : Array (Option Value)} {Ng : List Str}
    {params : Arguments} {body : Expr} {scope : Scope} {t : XK → TE} {p lpos pos : Pos} (hg : Gl X x) (hm : X.mg x = some (.ref g)) (hk : PySem.W.keepIn X.K (.ref g) = true)
    (lk : X.K.lookup g = some ⟨oc, od, .func (PySem.W.fnOf x x pg bg sg dV kV doc pm an cdv ct), osl⟩) (hcg : PySem.W.codeIn X.K cdv x = true) (hb : L2.Binds X.K (PySem.W.fnOf x x pg bg sg dV kV doc pm an cdv ct) [a] []) (Sg : FnScope Ng [a] sg) (hNg : Ng[0]? = some a) (hva : Vis sg a)
    (hG : Gives3 X Ng x sg g cdv bg a (X.env.qual ++ "<lambda>") TT)
    (TB : TabB X.base X.mg c P) (hcode : X.env.code = .ref c) (hr : Room (k + 2) X.A) (L : LamS X.env.scope scope) (hdef : defaultsOf params X.env = ([], []))
    (hbind : ∀ (q : Str) (cl : List (Str × Addr)) (pm cv ctv : Value), bindArgs (PySem.W.kla_fn "<lambda>" q params body scope cl pm cv ctv) ⟨[], []⟩ = pure [])
    (hbody : ∀ (A : Around) (outer : List Env) (s : Shared) (H : Hp) (E : XK) (f c' : Addr), Room k (A.deeper (lamEnv X scope s.heap.objs.size f c')) → PE (lamCx X A outer s H E scope f c') body (t E))
    (hdb : (x == ("__debug__" : Str)) = false := by decide) (hd : (a == ("__debug__" : Str)) = false := by decide) (hcd : (a == ("__classdict__" : Str)) = false := by decide) :
    PE X (.Call (.Name x p) [.Lambda params body scope lpos] [] pos) (tLam3 P (X.env.qual ++ "<lambda>") TT t) := by
  refine ⟨fun pins s σ H Q I ⟨hT, h⟩ => ?_⟩
  refine wpAny_Call_Name_kw (ld_glob I hg hm ?_ hdb)
  refine PySem.W.callWith_K (h₀ := X.base) I.ok.mod.kin hk ?_ (by rfl) (by rfl)
  show wpAny _ _ (spliced ((false, eval (.Lambda params body scope lpos) X.env) :: backTo pos (starEach [] X.env))) _ _ s
  refine Calls.spliced_cons (lam_make3 I TB hcode hT hdef (L.has I.ok) fun f c' pm' ctv H1 s' I1 st T1 hf hfn hfr hco => Calls.spliced_nil ⟨I1.kIn, ?_⟩)
  have rc : codeAny (model X.prog X.w) X.A (.call (.ref g) ⟨[.ref f], []⟩) (CR C8.CX0 X.stack X.prog X.w H1 s' Q C8.E0) s' := by
    refine run_ofS (N := Ng) (ps := [a]) (us := [.ref f]) (vs := [.ref f]) lk hcg Sg hr I1.env0 (hb s' [.ref f] I1.kIn rfl) (.cons rfl .nil) rfl fun hr' => ?_
    obtain ⟨t', ht', hq'⟩ := hG f c' s' H1 Q (fun E H' Q' => t E σ H' Q') (hr'.mono (by omega)) (fun W pn xe p1 p2 tk => pe_act3 (i := 0) (tb := t) I1 L hf hfn hfr (hbind _ _ _ _ _) tk hr' (fun A outer s H E hr2 => hbody A outer s H E f c' hr2) hNg hva hd hcd) hco (h H1 c' st T1)
    exact ⟨t', ht'.nox, hq'⟩
  refine wpAny_call (codeAny_mono rc fun r s2 hq => ?_)
  cases r with
  | error e => exact (show False from hq).elim
  | ok fl =>
    cases fl with
    | ret u => exact I1.after hq
    | next => exact False.elim hq
    | brk => exact False.elim hq
    | cont => exact False.elim hq
end
end DL
namespace DL
open PySem PySem.Spec PyProof.Rows L2 LamX
/-! ### try: .. / except x as n: ..: what is caught is known behind it, too -/
/-- what the clause wishes of an exception of the body: it is caught; NX: what is asked behind the clause -/
def wAsK (K : PySem.W.Frag) (c : Value) (i : Nat) (ts : Addr → Value → Option Addr → TS) (NX : Addr → Value → Option Addr → L2.St → Hp → Prop) : WX := fun cls d σ H =>
  PySem.W.exmOne K cls c = some true ∧ ∀ a, H a = none → ts a cls d { nx := fun σ' H' => NX a cls d (σ'.set i none) H', rt := fun _ _ => False, bk := fun _ _ => False, ct := fun _ _ => False } (σ.set i (some (.ref a))) H
section
variable {X : Cx} {x n : Str} {c : Value} {i : Nat} {body suite : List Stmt} {b₀ : Stmt} {np pos pos' : Pos} {tb : WX → TS} {ts : Addr → Value → Option Addr → TS}
theorem try_asK (hs : X.stack = X.env :: X.outer) (hf : X.env.frame = some X.env.locals) (hN : X.N.Nodup) (hi : X.N[i]? = some n) (hln : X.env.kindOf n = some .local) (hc : Names X x c)
    (hb : ∀ (W : WX) (pn : List (Addr × Obj)) (xe : Value → Shared → Prop), Takes (X.tr pn xe) W → PassesOwn (model X.prog X.w) X.A X.env xe → PSs (X.tr pn xe) body (tb W))
    (hsu : ∀ (a : Addr) (oe : Obj) (cls : Value) (d : Option Addr) (pn : List (Addr × Obj)), Zc cls d oe → (∃ vs, oe.data = .fields vs) → PSs (X.suite a ((a, oe) :: pn)) (b₀ :: suite) (ts a cls d))
    {pins : List (Addr × Obj)} {s : Shared} {σ : L2.St} {H : Hp} {D : Ends} {NX : Addr → Value → Option Addr → L2.St → Hp → Prop} (I : Inv X pins σ H s) (h : tb (wAsK X.K c i ts NX) D σ H) :
    wpAny (model X.prog X.w) X.A (exec (.Try body [.ExceptHandler (some (.Name x np)) (some n) (b₀ :: suite) pos'] [] [] pos) X.env)
      (fun f s1 => SP X pins D f s1 ∨ (f = .next ∧ ∃ a oe cls d σ' H', Inv X ((a, oe) :: pins) σ' H' s1 ∧ Zc cls d oe ∧ (∃ vs, oe.data = .fields vs) ∧ NX a cls d σ' H')) X.xe s := by
  have ok := I.ok
  have hfr : X.A.frames = some (X.env :: X.outer) := by rw [ok.frames, hs]
  have hloc : Loc X.env.scope n := .inl hln
  refine wpAny_Try_except ?_
  refine wpAny_mono ((hb (wAsK X.K c i ts NX) (X.pn ++ pins) (fun e s₁ => wpAny (model X.prog X.w) X.A (noteFrame e X.env) (fun _ s₂ => wpAny (model X.prog X.w) X.A (setFlight e none) (fun _ s₃ =>
    wpAny (model X.prog X.w) X.A (handleBy e X.env [.ExceptHandler (some (.Name x np)) (some n) (b₀ :: suite) pos']) (fun f s1 => SP X pins D f s1 ∨ (f = .next ∧ ∃ a oe cls d σ' H', Inv X ((a, oe) :: pins) σ' H' s1 ∧ Zc cls d oe ∧ (∃ vs, oe.data = .fields vs) ∧ NX a cls d σ' H')) X.xe s₃) X.xe s₂) X.xe s₁) (fun u s' xx => ?_) PassesOwn.looking).run [] s σ H D (I.toTry _) h) (fun f s1 hsp => ?_) (fun e s1 he => he)
  · obtain ⟨a, B, sI, pins', σ', H', cls, d, rfl, J', nb, up, sky, na, os, ag, hb1, hyes⟩ := xx
    have J : Inv X pins σ' H' sI := J'.ofTry ok
    have sky' : Sky B (X.env :: X.outer) a (Zc cls d) X.env.locals s'.heap := by rw [← hs]; exact sky
    show wpAny (model X.prog X.w) X.A (noteFrame (.ref a) X.env) _ _ _
    refine Sky.land Zc.steady hfr hf sky' fun h3 fl3 up3 => ?_
    have J3 : Inv X pins σ' H' { s' with heap := h3 } := J.landed nb fl3.1 (up.trans up3) os ag
    obtain ⟨oe3, vs3, he3, hz3, hd3⟩ := fl3.there
    have nfr : a ∉ frs (X.env :: X.outer) := fun hm => by
      obtain ⟨_, o', e', hnf⟩ := fl3.2.2.1.mem hm
      rw [he3] at e'; cases e'
      exact hnf _ hd3
    have nL : a ≠ X.env.locals := fun z => nfr (List.mem_filterMap.mpr ⟨X.env, List.mem_cons_self, by rw [hf, z]⟩)
    have nF : a ∉ X.fs := fun hm => by
      obtain ⟨e, he, q⟩ := List.mem_filterMap.mp hm
      exact nfr (List.mem_filterMap.mpr ⟨e, List.mem_cons_of_mem _ he, q⟩)
    have S3 := J3.suite he3 hd3 na nL nF
    refine wpAny_handleBy_cons (codeAny_handlers_test ?_) (by intro q; cases q)
    have LT : PySem.W.Looks (model X.prog X.w) h3 (typeOf (.ref a)) cls := fun A Q E s k q => wpAny_typeOf_ref (k _ _ he3) (by rw [hz3.1]; exact q)
    have LM := PySem.W.exm_one (M := model X.prog X.w) (J3.kIn) LT hb1
    have test : ∀ {Q : Value → Shared → Prop} {E : Value → Shared → Prop}, Q c { s' with heap := h3 } → wpAny (model X.prog X.w) (X.A.mark (some (.ref a))) (eval (.Name x np) X.env) Q E { s' with heap := h3 } := fun {Q E} q => by
      obtain ⟨hg, hdbg, hm | ⟨hm, hv, hnn⟩⟩ := hc
      · exact ld_glob (X := X.suite a ((a, oe3) :: (X.pn ++ pins))) S3 hg hm q hdbg
      · exact ld_blt (X := X.suite a ((a, oe3) :: (X.pn ++ pins))) S3 hg hm hv q hnn hdbg
    refine test (LM.here ?_)
    refine codeAny_handlers_suite_as ?_
    refine HandSPX.lands_againZ fl3 fun h4 fl4 up4 => ?_
    have J4 : Inv X pins σ' H' { s' with heap := h4 } := J.landed nb fl4.1 ((up.trans up3).trans up4) os ag
    obtain ⟨oe4, vs4, he4, hz4, hd4⟩ := fl4.there
    have S4 := J4.suite he4 hd4 na nL nF
    refine store_ok (X := X.suite a ((a, oe4) :: (X.pn ++ pins))) (v := .ref a) S4 hN hi hloc rfl (fun s5 S5 => ?_) (.inr hln)
    refine wpAny_mono ((hsu a oe4 cls d (X.pn ++ pins) hz4 ⟨_, hd4⟩).run [] s5 _ H' _ S5 (hyes a na)) (fun f s6 hsp => ?_) (fun _ _ z => False.elim z)
    cases f with
    | next =>
      obtain ⟨σ6, H6, S6, q6⟩ := hsp
      have J6 : Inv X ((a, oe4) :: pins) σ6 H6 s6 := (S6.unsuite ok).pins_of fun p hp => by
        rcases List.mem_cons.mp hp with rfl | hp
        · exact S6.pin _ (List.mem_append_left _ List.mem_cons_self)
        · exact (S6.unsuite ok).pin p (List.mem_append_right _ hp)
      exact gone_ok J6 hN hi hln fun s7 J7 => .inr ⟨rfl, a, oe4, cls, d, _, _, J7, hz4, ⟨_, hd4⟩, q6⟩
    | brk => obtain ⟨_, _, _, q⟩ := hsp; exact q.elim
    | cont => obtain ⟨_, _, _, q⟩ := hsp; exact q.elim
    | ret u => obtain ⟨_, _, _, _, _, q⟩ := hsp; exact q.elim
  · cases f with
    | next =>
      obtain ⟨σ', H', J', q⟩ := hsp
      exact wpAny_execs_nil (.inl ⟨σ', H', J'.ofTry ok, q⟩)
    | brk =>
      obtain ⟨σ', H', J', q⟩ := hsp
      exact .inl ⟨σ', H', J'.ofTry ok, q⟩
    | cont =>
      obtain ⟨σ', H', J', q⟩ := hsp
      exact .inl ⟨σ', H', J'.ofTry ok, q⟩
    | ret u =>
      obtain ⟨v, σ', H', J', r, q⟩ := hsp
      exact .inl ⟨v, σ', H', J'.ofTry ok, r, q⟩
/-- the try and what stands behind it: t0 where the body ran through, t1 where something was caught -/
theorem pss_tryK {rest : List Stmt} {t0 : TS} {t1 : Addr → Value → Option Addr → TS} (hs : X.stack = X.env :: X.outer) (hf : X.env.frame = some X.env.locals) (hN : X.N.Nodup) (hi : X.N[i]? = some n) (hln : X.env.kindOf n = some .local) (hc : Names X x c)
    (hb : ∀ (W : WX) (pn : List (Addr × Obj)) (xe : Value → Shared → Prop), Takes (X.tr pn xe) W → PassesOwn (model X.prog X.w) X.A X.env xe → PSs (X.tr pn xe) body (tb W))
    (hsu : ∀ (a : Addr) (oe : Obj) (cls : Value) (d : Option Addr) (pn : List (Addr × Obj)), Zc cls d oe → (∃ vs, oe.data = .fields vs) → PSs (X.suite a ((a, oe) :: pn)) (b₀ :: suite) (ts a cls d))
    (h0 : PSs X rest t0) (h1 : ∀ (a : Addr) (oe : Obj) (cls : Value) (d : Option Addr) (pn : List (Addr × Obj)), (a, oe) ∈ pn → Zc cls d oe → (∃ vs, oe.data = .fields vs) → PSs (X.tr pn X.xe) rest (t1 a cls d)) :
    PSs X (.Try body [.ExceptHandler (some (.Name x np)) (some n) (b₀ :: suite) pos'] [] [] pos :: rest)
      (fun D σ H => tb (wAsK X.K c i ts (fun a cls d σ' H' => t1 a cls d D σ' H')) { D with nx := t0 D } σ H) := by
  refine ⟨fun pins s σ H D I h => ?_⟩
  refine wpAny_execs_cons (thn (try_asK hs hf hN hi hln hc hb hsu I h) fun f s1 q => ?_)
  rcases q with q | ⟨rfl, a, oe, cls, d, σ', H', J, hz, hv, q⟩
  · cases f with
    | next => obtain ⟨σ', H', I', q⟩ := q; exact h0.run pins s1 σ' H' D I' q
    | brk => exact q
    | cont => exact q
    | ret u => exact q
  · refine wpAny_mono ((h1 a oe cls d (X.pn ++ ((a, oe) :: pins)) (List.mem_append_right _ List.mem_cons_self) hz hv).run [] s1 σ' H' D (J.toTry _) q) (fun f s2 hsp => ?_) fun _ _ z => z
    have down : ∀ {σ2 : L2.St} {H2 : Hp}, Inv (X.tr (X.pn ++ ((a, oe) :: pins)) X.xe) [] σ2 H2 s2 → Inv X pins σ2 H2 s2 := fun {σ2 H2} K => (K.ofTry I.ok).pins_of fun p hp => (K.ofTry I.ok).pin p (List.mem_append_right _ (List.mem_cons_of_mem _ hp))
    cases f with
    | next => obtain ⟨σ2, H2, K, q2⟩ := hsp; exact ⟨σ2, H2, down K, q2⟩
    | brk => obtain ⟨σ2, H2, K, q2⟩ := hsp; exact ⟨σ2, H2, down K, q2⟩
    | cont => obtain ⟨σ2, H2, K, q2⟩ := hsp; exact ⟨σ2, H2, down K, q2⟩
    | ret u => obtain ⟨v, σ2, H2, K, r, q2⟩ := hsp; exact ⟨v, σ2, H2, down K, r, q2⟩
/-- isinstance(e, c), e an exception of an own class that is pinned -/
theorem call_isP {a D : Addr} {oe : Obj} (C : ExcC X.K D) (hz : Zc (.ref D) none oe) (hv : ∃ vs, oe.data = .fields vs) (hp : (a, oe) ∈ X.pn) : CallR X (.builtin "isinstance") (rIsE X.K D a) := by
  intro pins s σ H xs us Q I r h
  obtain ⟨c, cv, b, rfl, hcv, e, q⟩ := h
  cases r with
  | cons rx rr =>
    cases rr with
    | cons rt rr =>
      cases rr
      cases rx
      have ec := hcv _ rt
      subst ec
      obtain ⟨hget, _⟩ := I.pin (a, oe) (List.mem_append_left _ hp)
      obtain ⟨vs, hv⟩ := hv
      have J : PySem.W.InstAt s.heap a oe D none := by
        obtain ⟨oc, od, oda, osl⟩ := oe
        obtain ⟨h1, h2⟩ := hz
        dsimp only at h1 h2 hv
        subst h1 h2 hv
        exact ⟨hget, rfl, rfl, trivial⟩
      exact PySem.W.kia_one (PySem.W.handS_kitx_exc C.hg C.hk C.hs C.hd C.ha C.hn C.ht C.hm) I.kIn J e (fun z => nomatch z) fun tk => ⟨.bl b, H, I.kept (t' := tk) fun _ _ z => z, rfl, q⟩
end
end DL
namespace DL
open PySem PySem.Spec PyProof.Rows L2 LamX
/-! ### the world's table of code objects -/
def VwT (P : Addr) (q : Str) : Wd where
  G := Unit
  rep := fun _ H Hf => ∃ ps : Array Value, H P = some (.tbl ps) ∧ TriplesOk ps.toList ∧ ∀ (pos : Pos) (cv : Value), codeAmong pos ps.toList = some cv → ∃ c, cv = .ref c ∧ Hf c = some (CodeO c q)
  fp := fun _ b => b = P
  loc := fun _ H H' Hf Hf' ⟨ps, h1, h2, h3⟩ e x => ⟨ps, by rw [e P rfl]; exact h1, h2, fun pos cv hc => by
    obtain ⟨c, e1, e2⟩ := h3 pos cv hc
    exact ⟨c, e1, x c _ e2⟩⟩
  there := fun _ H Hf b ⟨ps, h1, _⟩ hb => by subst hb; rw [h1]; simp
theorem tabS_of {K : PySem.W.Frag} {P : Addr} {q : Str} {H0 Hf0 H Hf : Hp} {g0 g : Tw × Unit} (b : Base (TW K (VwT P q)) H0 Hf0 g0 H Hf g) : TabS H P q := by
  obtain ⟨ps, h1, h2, h3⟩ := b.rep.2.1
  exact ⟨ps, h1, h2, fun pos cv hc => by
    obtain ⟨c, e1, e2⟩ := h3 pos cv hc
    exact ⟨c, e1, b.fh _ _ e2⟩⟩
theorem base_tab {K : PySem.W.Frag} {P c : Addr} {q : Str} {H H1 Hf : Hp} {g : Tw × Unit} (b : Base (TW K (VwT P q)) H Hf g H Hf g) (st : TabStep H H1 P q c) : ∃ Hf1, Base (TW K (VwT P q)) H Hf g H1 Hf1 g ∧ Hf1 c = some (CodeO c q) := by
  obtain ⟨ps0, r1, r2, r3⟩ := b.rep.2.1
  rcases st with ⟨rfl, ps, pos, hP, hc⟩ | ⟨ps, ps', hP, nC, ht, ha, rfl⟩
  · rw [r1] at hP
    cases hP
    obtain ⟨c0, e1, e2⟩ := r3 pos _ hc
    cases e1
    exact ⟨Hf, b, e2⟩
  · rw [r1] at hP
    cases hP
    have hf := b.hn nC
    have nPc : P ≠ c := ne_of_none r1 nC
    have fpP : (TW K (VwT P q)).fp g P := .inr rfl
    have at_ : ∀ x, x ≠ P → x ≠ c → upd (upd H P (.tbl ps')) c (CodeO c q) x = H x := fun x h1 h2 => by rw [upd_ne h2, upd_ne h1]
    have nfp : ∀ x, g.1.fp x → x ≠ P ∧ x ≠ c := fun x hx => ⟨fun z => b.rep.2.2 x hx z, fun z => by subst z; exact b.rep.1.there hx nC⟩
    refine ⟨upd Hf c (CodeO c q), ?_, upd_same⟩
    exact { ff := same_new hf
            fh := fun x o e => by
              by_cases hx : x = c
              · subst hx; rw [upd_same] at e ⊢; exact e
              · rw [upd_ne hx] at e
                have hxP : x ≠ P := fun z => by subst z; rw [b.dis _ fpP] at e; cases e
                rw [at_ x hxP hx]; exact b.fh x o e
            keep := fun x o e n => by
              have hxP : x ≠ P := fun z => by subst z; exact n fpP
              have hxc : x ≠ c := ne_of_none e nC
              rw [at_ x hxP hxc]; exact e
            old := fun x e => by
              have hxc : x ≠ c := fun z => by subst z; exact e nC
              rw [upd_ne hxc]
            there := fun x e => by
              have hxc : x ≠ c := fun z => by subst z; exact e nC
              by_cases hxP : x = P
              · subst hxP; rw [upd_ne hxc, upd_same]; simp
              · rw [at_ x hxP hxc]; exact e
            rep := ⟨b.rep.1.loc fun x hx => at_ x (nfp x hx).1 (nfp x hx).2, ⟨ps', by rw [upd_ne nPc, upd_same], ht, fun pos cv hcv => by
              rcases ha pos cv hcv with z | z
              · obtain ⟨c0, e1, e2⟩ := r3 pos cv z
                exact ⟨c0, e1, same_new hf _ _ e2⟩
              · exact ⟨c, z, upd_same⟩⟩, b.rep.2.2⟩
            dis := fun x z => by
              have hxc : x ≠ c := fun w => by
                subst w
                rcases z with z | z
                · exact (nfp x z).2 rfl
                · exact nPc z.symm
              rw [upd_ne hxc]; exact b.dis x z
            fpo := fun x z => .inl z }
/-! ### isinstance(e, c) of what is caught -/
def tIsP (i : Nat) (a : Addr) (b : Bool) : TE := fun σ H Q => σ[i]? = some (some (.ref a)) ∧ Q (.bl b) H
section
variable {X : Cx} {i : Nat} {x cn : Str} {p p1 p2 pos : Pos}
theorem pe_isP {a D : Addr} {oe : Obj} {v : V} {cv : Value} {b : Bool} (C : ExcC X.K D) (hz : Zc (.ref D) none oe) (hf : ∃ vs, oe.data = .fields vs) (hp : (a, oe) ∈ X.pn) (hC : PE X (.Name cn p2) (tC v)) (hcv : ∀ u, RelV v u → u = cv) (e : PySem.W.kitOne X.K (.ref D) cv = some b)
    (hg : Gl X "isinstance") (hm : X.mg "isinstance" = none) (hN : X.N[i]? = some x) (hv : Vis X.env.scope x) (hd : (x == ("__debug__" : Str)) = false := by decide) (hcd : (x == ("__classdict__" : Str)) = false := by decide)
    (hs : starEach [.Name x p1, .Name cn p2] X.env = (false, eval (.Name x p1) X.env) :: starEach [.Name cn p2] X.env := by rfl) (hpl : (backTo pos (starEach [.Name cn p2] X.env)).any (·.1) = false := by rfl) :
    PE X (.Call (.Name "isinstance" p) [.Name x p1, .Name cn p2] [] pos) (tIsP i a b) :=
  PE.imp (pe_callB (call_isP C hz hf hp) hg hm (by decide +kernel) (pa_cons (pe_var hN hv hd hcd) (pa_cons hC pa_nil) hs) (by decide) (by decide) hs hpl) fun σ H Q ⟨h1, h2⟩ => ⟨.ref a, h1, v, cv, b, rfl, hcv, e, h2⟩
end
/-! ### dicts of such tests -/
abbrev trB (i : Nat) (a : Addr) (l : List (List Nat × Bool)) : List (TE × TE) := l.map fun p => (tC (.str (mkS p.1)), tIsP i a p.2)
theorem tPairs_b {i : Nat} {a : Addr} {σ : L2.St} {H : Hp} (hi : σ[i]? = some (some (.ref a))) : ∀ (l : List (List Nat × Bool)) {Q : List (V × V) → Hp → Prop}, Q (l.map fun p => (V.str (mkS p.1), V.bl p.2)) H → tPairs (trB i a l) σ H Q
  | [], _, h => h
  | p :: l, Q, h => by
    show σ[i]? = some (some (.ref a)) ∧ tPairs (trB i a l) σ H fun ps H3 => Q ((V.str (mkS p.1), V.bl p.2) :: ps) H3
    exact ⟨hi, tPairs_b hi l h⟩
def dispB (l : List (List Nat × Bool)) : List (DKey × D) := l.map fun p => (.inr p.1, .bl p.2)
theorem kvd_dispB {K : PySem.W.Frag} {Hf : Hp} : ∀ (l : List (List Nat × Bool)), KVd K Hf (l.map fun p => ((.inr (mkS p.1) : Key), V.bl p.2)) (dispB l)
  | [] => .nil
  | p :: l => .cons ⟨rfl, .bl p.2⟩ (kvd_dispB l)
def mAt {G : Type} (i : Nat) (a : Addr) : M G Unit := fun sl g => match sl[i]? with
  | some (some (.d (.ref x))) => if x = a then some (.ok (), g) else none
  | _ => none
def xDispB {G : Type} (i : Nat) (a : Addr) (l : List (List Nat × Bool)) : M G Slot := M.bind (mAt i a) fun _ => M.pure (.oK (dMerge [] (dispB l)))
def eIsB {G : Type} (i : Nat) (a : Addr) (b : Bool) : M G D := M.bind (mAt i a) fun _ => M.pure (.bl b)
def sUpdB {G : Type} (i j : Nat) (a : Addr) (l : List (List Nat × Bool)) : SM G := sOwnK i <| sDo (mAt j a) fun _ => sMutK i fun kvs => if kvs.length + l.length ≤ LIM then some (dMerge kvs (dMerge [] (dispB l))) else none
section
variable {X : Cx} {Z : Cn} {E : Ent Z.W} {Wx : WX} {pos p ap cp dp : Pos} {i j : Nat} {x : Str} {a : Addr}
theorem go_mAt {α β : Type} {Rl : Z.W.G → Hp → Hp → β → α → Prop} {σ : L2.St} {sl : SL} {H Hf : Hp} {g : Z.W.G} {k : Unit → M Z.W.G α} {Q : β → Hp → Prop} (r : R X.K E H Hf g sl σ) (h : go Z Rl Wx σ (M.bind (mAt j a) k sl g) H Hf g Q) :
    σ[j]? = some (some (.ref a)) ∧ go Z Rl Wx σ (k () sl g) H Hf g Q := by
  unfold M.bind mAt at h
  match e : sl[j]? with
  | some (some (.d (.ref y))) =>
    rw [e] at h
    simp only at h
    by_cases hy : y = a
    · rw [if_pos hy] at h
      obtain ⟨v, h1, h2⟩ := r.slot j _ e
      have h2 : Dv X.K Hf v (.ref y) := h2
      cases h2
      exact ⟨by rw [h1, hy], h⟩
    · rw [if_neg hy] at h; exact h.elim
  | some (some (.d .non)) => rw [e] at h; exact h.elim
  | some (some (.d (.bl _))) => rw [e] at h; exact h.elim
  | some (some (.d (.int _))) => rw [e] at h; exact h.elim
  | some (some (.d (.str _))) => rw [e] at h; exact h.elim
  | some (some (.d (.tup _))) => rw [e] at h; exact h.elim
  | some (some (.d (.lst _))) => rw [e] at h; exact h.elim
  | some (some (.oL y)) => rw [e] at h; exact h.elim
  | some (some (.oK y)) => rw [e] at h; exact h.elim
  | some (some (.oT y)) => rw [e] at h; exact h.elim
  | some (some (.kK y)) => rw [e] at h; exact h.elim
  | some none => rw [e] at h; exact h.elim
  | none => rw [e] at h; exact h.elim
theorem de_isB {e : Expr} {b : Bool} (h : PE X e (tIsP i a b)) : DE X Z E Wx e (eIsB i a b) :=
  PE.imp h fun σ H Q ⟨Hf, g, sl, r, q⟩ => let ⟨h1, q1⟩ := go_mAt r q; ⟨h1, go_pure q1 _ _ _ r.base.self (.bl b)⟩
theorem dx_dispB (l : List (List Nat × Bool)) {keys : List (Option Expr)} {values : List Expr} (h : PPs X pos keys values (trB i a l)) (hall : keys.all (·.isSome) = true) (hl : keys.length = values.length) (h0 : keys ≠ []) (h15 : keys.length ≤ 15) (hl15 : l.length ≤ 15) :
    DX X Z E Wx (.Dict keys values pos) (xDispB i a l) := by
  refine PE.imp (pe_disp h hall hl h0 h15) fun σ H Q ⟨Hf, g, sl, r, q⟩ p hp => ?_
  obtain ⟨hi, q⟩ := go_mAt r q
  obtain ⟨n1, n2, n3⟩ := new_n r.base.self hp
  have hE : E.H p = none := by
    cases e : E.H p with
    | none => rfl
    | some o => exact absurd n1 (r.base.there p (by rw [e]; simp))
  refine tPairs_b hi l ⟨upd_same, l.map fun p => (.inr (mkS p.1), .bl p.2), ?_, by rw [List.length_map]; exact hl15, ?_⟩
  · rw [List.map_map]; rfl
  · have b0 := (r.base.self.allocU (.dK []) hp).updFresh (.dK (mergeK [] (l.map fun p => (.inr (mkS p.1), .bl p.2)))) n1 n2 n3
    have kv := kvd_dispB (K := X.K) (Hf := Hf) l
    exact go_pure q _ _ _ b0 ⟨⟨p, _, rfl, upd_same, pv_merge kv .nil, hE, n2, n3⟩, fun _ a ea => by cases ea; exact n1⟩
theorem ds_updB (l : List (List Nat × Bool)) {keys : List (Option Expr)} {values : List Expr} (h : PPs X dp keys values (trB j a l)) (hall : keys.all (·.isSome) = true) (hl : keys.length = values.length) (h0 : keys ≠ []) (h15 : keys.length ≤ 15) (hl15 : l.length ≤ 15)
    (hN : X.N[i]? = some x := by rfl) (hv : Vis X.env.scope x := by first | exact Or.inl rfl | exact Or.inr (Or.inl rfl) | exact Or.inr (Or.inr rfl)) (hd : (x == ("__debug__" : Str)) = false := by decide)
    (hcd : (x == ("__classdict__" : Str)) = false := by decide) (hbase : attributeBase (.Name x p) "update" X.env (eval (.Name x p) X.env) = eval (.Name x p) X.env := by rfl)
    (hfew : ((backTo cp (starEach [.Dict keys values dp] X.env)).all (fun x => !x.1) && (backToKw cp (keywordEach [] X.env)).all (fun x => x.1.isSome)
      && decide (([.Dict keys values dp] : List Expr).length + ([] : List Keyword).length + (if ([] : List Keyword).isEmpty then 0 else 1) < 30)) = true := by rfl)
    (hline : (ap.endLine == cp.line) = true := by rfl) (hst : starEach [.Dict keys values dp] X.env = (false, eval (.Dict keys values dp) X.env) :: starEach [] X.env := by rfl) (hplain : (backTo cp (starEach [] X.env)).any (·.1) = false := by rfl)
    (hs : swapsWith (.Call (.Attribute (.Name x p) "update" ap) [.Dict keys values dp] [] cp) none pos.line X.env = pure false := by rfl) : DS X Z E Wx (.Expr (.Call (.Attribute (.Name x p) "update" ap) [.Dict keys values dp] [] cp) pos) (sUpdB i j a l) := by
  refine PS.imp (ps_expr (pe_bm PySem.F.plainAttrs_dict PySem.F.slot_dict_update PySem.F.type_dict_update mt_dupd (pe_var hN hv hd hcd) (pa_cons (pe_disp h hall hl h0 h15) pa_nil hst) hbase hfew hline hst hplain) hs) fun D σ H ⟨Hf, g, sl, r, q⟩ => ?_
  obtain ⟨kvs, hi, q⟩ := goS_ownK q
  obtain ⟨v0, h1, lo, vs, rfl, hH, kv, hown⟩ := r.slot i _ hi
  refine ⟨_, h1, .inr (.inr (.inl ⟨rfl, .inl ⟨vs, hH⟩⟩)), fun pn hpn => ?_⟩
  have hj : σ[j]? = some (some (.ref a)) ∧ goS Z X.K E Wx Hf (sMutK i (fun kvs => if kvs.length + l.length ≤ LIM then some (dMerge kvs (dMerge [] (dispB l))) else none) sl g) D := by
    unfold sDo mAt at q
    match e : sl[j]? with
    | some (some (.d (.ref y))) =>
      rw [e] at q
      simp only at q
      by_cases hy : y = a
      · rw [if_pos hy] at q
        obtain ⟨v, h1, h2⟩ := r.slot j _ e
        have h2 : Dv X.K Hf v (.ref y) := h2
        cases h2
        exact ⟨by rw [h1, hy], q⟩
      · rw [if_neg hy] at q; exact q.elim
    | some (some (.d .non)) => rw [e] at q; exact q.elim
    | some (some (.d (.bl _))) => rw [e] at q; exact q.elim
    | some (some (.d (.int _))) => rw [e] at q; exact q.elim
    | some (some (.d (.str _))) => rw [e] at q; exact q.elim
    | some (some (.d (.tup _))) => rw [e] at q; exact q.elim
    | some (some (.d (.lst _))) => rw [e] at q; exact q.elim
    | some (some (.oL y)) => rw [e] at q; exact q.elim
    | some (some (.oK y)) => rw [e] at q; exact q.elim
    | some (some (.oT y)) => rw [e] at q; exact q.elim
    | some (some (.kK y)) => rw [e] at q; exact q.elim
    | some none => rw [e] at q; exact q.elim
    | none => rw [e] at q; exact q.elim
  obtain ⟨hj, q⟩ := hj
  unfold sMutK at q
  rw [hi] at q
  simp only at q
  split at q
  · rename_i ys hys
    split at hys
    · rename_i hlen
      cases hys
      obtain ⟨n1, n2, n3⟩ := new_n r.base.self hpn
      have hne : lo ≠ pn := fun z => by subst z; rw [hH] at n1; cases n1
      have r2 : R X.K E (upd (upd H pn (.dK [])) pn (.dK (mergeK [] (l.map fun p => (.inr (mkS p.1), .bl p.2))))) Hf g sl σ := r.step ((r.base.self.allocU (.dK []) hpn).updFresh (.dK (mergeK [] (l.map fun p => (.inr (mkS p.1), .bl p.2)))) n1 n2 n3)
      obtain ⟨v1, h1', l', vs', e', hH', kv', hown'⟩ := r2.slot i _ hi
      rw [h1] at h1'
      cases h1'
      cases e'
      have kvM : KVd X.K Hf (mergeK [] (l.map fun p => ((.inr (mkS p.1) : Key), V.bl p.2))) (dMerge [] (dispB l)) := pv_merge (kvd_dispB l) .nil
      refine tPairs_b hj l ⟨upd_same, l.map fun p => (.inr (mkS p.1), .bl p.2), by rw [List.map_map]; rfl, by rw [List.length_map]; exact hl15, lo, pn, vs', _, rfl, rfl, hne, hH', upd_same, ?_, ?_⟩
      · have a1 := pv_len kv'
        have a2 := length_mergeK (l.map fun p => ((.inr (mkS p.1) : Key), V.bl p.2)) []
        simp only [List.length_nil, Nat.zero_add, List.length_map] at a2
        have := lim_line2 hlen
        omega
      · exact q σ _ Hf (same_refl _) (r2.updAny hi rfl rfl h1 hown' ⟨lo, _, rfl, upd_same, pv_merge kvM kv', hown'⟩)
    · cases hys
  · exact q.elim
end
end DL
namespace DL
open PySem PySem.Spec PyProof.Rows L2 LamX
/-! ### what a call answers, or the name of the error that it raises -/
def sReturns : List Nat := [114, 101, 116, 117, 114, 110, 115]
def resD (errs : Nat → List Nat) : Res D → D
  | .ok d => .tup [.str sReturns, d]
  | .exc c => .tup [.str (errs c)]
def eRes {G : Type} (n : Nat) (errs : Nat → List Nat) (f : M G D) : M G D := fun sl g => match f sl g with
  | some (.ok d, g1) => some (.ok (resD errs (.ok d)), g1)
  | some (.exc c, g1) => if c < n then some (.ok (resD errs (.exc c)), g1) else none
  | none => none
def TTres (Z : Cn) (K : PySem.W.Frag) (q : Str) (n : Nat) (errs : Nat → List Nat) : Addr → (XK → Hp → VK → Prop) → Hp → VK → Prop := fun c' tl H1 Q =>
  ∃ (Hf1 : Hp) (g1 : Z.W.G) (out : Res D) (g3 : Z.W.G), Base Z.W H1 Hf1 g1 H1 Hf1 g1 ∧ Hf1 c' = some (CodeO c' q) ∧ (∀ c, out = .exc c → c < n) ∧
    (∀ H2 Hf2, Base Z.W H1 Hf1 g1 H2 Hf2 g1 → ∀ (Ex : XK) (Q' : VK), go Z (RlD K) (fun cls d _ H => Ex cls d H) [] (some (out, g3)) H2 Hf2 g1 Q' → tl Ex H2 Q') ∧
    ∀ v H4 Hf4, Base Z.W H1 Hf1 g1 H4 Hf4 g3 → Dv K Hf4 v (resD errs out) → Q v H4
section
variable {X : Cx} {Z : Cn} {n : Nat} {errs : Nat → List Nat}
abbrev XnC (X : Cx) (N : List Str) (x : Str) (sg : Scope) (g : Addr) (cdg : Value) (s : Shared) (H : Hp) : Cx := (cxOf C8.CX0 X.prog X.w X.K X.mg X.base N x sg g cdg X.A X.stack s H C8.E0).nox
theorem gives_res {N : List Str} {x q a ex nm : Str} {sg : Scope} {g CS : Addr} {cdg : Value} {st1 : Stmt} {rest : List Stmt} {ic ia ie m : Nat} {f1 F0 : SM Z.W.G} {F1 : Addr → Nat → SM Z.W.G} {an cn : Str} {q1 q2 q3 q4 q5 q6 q7 q8 q9 q10 : Pos}
    (hN : N.Nodup) (hl : N.length = m + 1) (hia : N[ia]? = some an) (hic : N[ic]? = some cn) (hie : N[ie]? = some nm) (h0ia : 0 ≠ ia) (h0ic : 0 ≠ ic) (h0ie : 0 ≠ ie)
    (lan : sg.names.lookup an = some .local) (lcn : sg.names.lookup cn = some .local) (lnm : sg.names.lookup nm = some .local) (knm : ∀ s H, (XnC X N x sg g cdg s H).env.kindOf nm = some .local)
    (hex : ∀ s H, Names (XnC X N x sg g cdg s H) ex (.ref CS)) (hexm : ∀ c, c < n → PySem.W.exmOne X.K (Z.cls c) (.ref CS) = some true)
    (dn : (nm == ("__debug__" : Str)) = false) (dcn : (nm == ("__classdict__" : Str)) = false)
    (sw1 : ∀ s H pn xe, swapsWith (.Call (.Name a q2) [] [] q3) (some (.Name an q1)) q4.line ((XnC X N x sg g cdg s H).tr pn xe).env = pure false)
    (sw2 : ∀ s H b pn, swapsWith (.Name nm q7) (some (.Name cn q6)) q8.line ((XnC X N x sg g cdg s H).suite b pn).env = pure false)
    (hst1 : ∀ s H (E2 : Ent Z.W), Room 1 (X.A.deeper (envOfC x sg s.heap.objs.size g cdg)) → DS (XnC X N x sg g cdg s H) Z E2 (fun _ _ _ _ => False) st1 f1)
    (hr0 : ∀ s H (E2 : Ent Z.W), Room 1 (X.A.deeper (envOfC x sg s.heap.objs.size g cdg)) → DSs (XnC X N x sg g cdg s H) Z E2 (fun _ _ _ _ => False) rest F0)
    (hr1 : ∀ s H (E2 : Ent Z.W) (b : Addr) (oe : Obj) (c : Nat) (pn : List (Addr × Obj)), Room 1 (X.A.deeper (envOfC x sg s.heap.objs.size g cdg)) → c < n → (b, oe) ∈ pn → Zc (Z.cls c) none oe → (∃ vs, oe.data = .fields vs) → DSs ((XnC X N x sg g cdg s H).tr pn (XnC X N x sg g cdg s H).xe) Z E2 (fun _ _ _ _ => False) rest (F1 b c))
    (e1 : ∀ (f : Addr) (g : Z.W.G), f1 (some (.d (.ref f)) :: List.replicate m none) g = some (.nx, ((some (.d (.ref f)) :: List.replicate m none).set ic (some (.d .non))).set ia (some (.d .non)), g))
    (e0 : ∀ (f : Addr) (d : D) (g : Z.W.G), ∃ sl', F0 ((((some (.d (.ref f)) :: List.replicate m none).set ic (some (.d .non))).set ia (some (.d .non))).set ia (some (.d d))) g = some (.rt (resD errs (.ok d)), sl', g))
    (e2 : ∀ (f b : Addr) (c : Nat) (g : Z.W.G), c < n → ∃ sl', F1 b c (wipeS ((((((some (.d (.ref f)) :: List.replicate m none).set ic (some (.d .non))).set ia (some (.d .non))).set ie (some (.d (.ref b)))).set ic (some (.d (.ref b))))) [ie]) g = some (.rt (resD errs (.exc c)), sl', g)) :
    Gives3 X N x sg g cdg (st1 :: .Try [.Assign [.Name an q1] (.Call (.Name a q2) [] [] q3) q4] [.ExceptHandler (some (.Name ex q5)) (some nm) [.Assign [.Name cn q6] (.Name nm q7) q8] q9] [] [] q10 :: rest) a q (TTres Z X.K q n errs) := by
  intro f c' s H0 Q tl hr act hc ⟨Hf1, g1, out, g3, B, hcf, hout, htl, hQ⟩
  have hs0 : (L2.start N [V.ref f]) = some (.ref f) :: List.replicate m none := by
    unfold L2.start
    simp [hl]
  refine ⟨_, pss_cons (hst1 s H0 ⟨H0, Hf1, g1⟩ hr) (pss_tryK (X := XnC X N x sg g cdg s H0) (c := .ref CS) (i := ie)
    (tb := fun W D σ H => σ[0]? = some (some (.ref f)) ∧ H c' = some (CodeO c' q) ∧ tl (fun cls d H' => W cls d σ H') H (fun v H' => D.nx (σ.set ia (some v)) H'))
    (ts := fun _ _ _ => tAsg (tVar ie) (gName ic)) (t1 := fun b cls d D σ H => ∃ c, c < n ∧ cls = Z.cls c ∧ d = none ∧ tS Z X.K ⟨H0, Hf1, g1⟩ (fun _ _ _ _ => False) (F1 b c) D σ H)
    rfl rfl hN hie (knm s H0) (hex s H0) (fun W pn xe tk _ => ?_) (fun b oe cls d pn _ _ => ?_) (hr0 s H0 ⟨H0, Hf1, g1⟩ hr) (fun b oe cls d pn hp hz hv => ?_)), ?_⟩
  · exact pss_one (ps_set (X := (XnC X N x sg g cdg s H0).tr pn xe) hN hia (.inl lan) (act W pn xe q2 q3 tk) (sw1 s H0 pn xe) (.inr lan))
  · exact pss_one (ps_set (X := (XnC X N x sg g cdg s H0).suite b ((b, oe) :: pn)) hN hic (.inl lcn) (pe_var hie (.inl lnm) dn dcn) (sw2 s H0 b _) (.inr lcn))
  · refine ⟨fun pins s' σ H' D I ⟨c, hcn, ec, ed, h⟩ => ?_⟩
    subst ec ed
    exact (hr1 s H0 ⟨H0, Hf1, g1⟩ b oe c pn hr hcn hp hz hv).run pins s' σ H' D I h
  · have hlen : (some (.d (.ref f)) :: List.replicate m none : SL).length = m + 1 := by simp
    have R0 : R X.K ⟨H0, Hf1, g1⟩ H0 Hf1 g1 (some (.d (.ref f)) :: List.replicate m none) (L2.start N [V.ref f]) := by
      have := start_R (Z := Z) (P := X.prog) (K := X.K) (N := N) (vs := [V.ref f]) (ds := [.ref f]) B (.cons (.ref f) .nil) (by rw [hl]; simp)
      rw [hl] at this
      simpa using this
    refine ⟨Hf1, g1, _, R0, ?_⟩
    rw [e1 f g1]
    intro σ1 H1 Hf2 sm r
    have b1 := r.base
    have hσ0 : σ1[0]? = some (some (.ref f)) := by
      obtain ⟨v, h1, h2⟩ := r.slot 0 (.d (.ref f)) (by rw [List.getElem?_set_ne h0ia.symm, List.getElem?_set_ne h0ic.symm]; rfl)
      have h2 : Dv X.K Hf2 v (.ref f) := h2
      cases h2
      exact h1
    refine ⟨hσ0, b1.fh _ _ (b1.ff _ _ hcf), htl H1 Hf2 b1 _ _ ?_⟩
    cases out with
    | ok d =>
      intro v H' Hf' b dv
      obtain ⟨sl', e⟩ := e0 f d g3
      refine ⟨Hf', g3, _, (r.step b).setd ia dv, ?_⟩
      rw [e]
      exact fun v4 H4 Hf4 b4 dv4 => hQ v4 H4 Hf4 b4 dv4
    | exc c =>
      intro H' Hf' b
      have hcn := hout c rfl
      refine ⟨hexm c hcn, fun a' na => ?_⟩
      have hlt : ie < σ1.length := by
        rw [← r.len, List.length_set, List.length_set, hlen, ← hl]
        exact (List.getElem?_eq_some_iff.mp hie).1
      refine ⟨.ref a', by rw [List.getElem?_set_self hlt], c, hcn, rfl, rfl, Hf', g3, _, (((r.step b).setd ie (.ref a')).setd ic (.ref a')).wipe [ie], ?_⟩
      obtain ⟨sl', e⟩ := e2 f a' c g3 hcn
      rw [e]
      exact fun v4 H4 Hf4 b4 dv4 => hQ v4 H4 Hf4 b4 dv4
end
end DL
namespace DL
open PySem PySem.Spec PyProof.Rows L2 LamX
section
variable {X : Cx} {q : Str} {P c : Addr} {cls : Nat → Value} {E : Ent (TW X.K (VwT P q))} {Wx : WX} {n : Nat} {errs : Nat → List Nat}
/-- x(lambda: body), x the def that answers so -/
theorem de_res {x a : Str} {g : Addr} {k : Nat} {pg : Arguments} {bg : List Stmt} {sg : Scope} {dV kV doc pm cdv ct oc : Value} {an od : Option Addr} {osl : Array (Option Value)} {Ng : List Str}
    {params : Arguments} {body : Expr} {scope : Scope} {fb : M (Tw × Unit) D} {p lpos pos : Pos} (hq : X.env.qual ++ "<lambda>" = q) (hg : Gl X x) (hm : X.mg x = some (.ref g)) (hk : PySem.W.keepIn X.K (.ref g) = true)
    (lk : X.K.lookup g = some ⟨oc, od, .func (PySem.W.fnOf x x pg bg sg dV kV doc pm an cdv ct), osl⟩) (hcg : PySem.W.codeIn X.K cdv x = true) (hb : L2.Binds X.K (PySem.W.fnOf x x pg bg sg dV kV doc pm an cdv ct) [a] []) (Sg : FnScope Ng [a] sg) (hNg : Ng[0]? = some a) (hva : Vis sg a)
    (hG : Gives3 X Ng x sg g cdv bg a q (TTres (TZ X.K (VwT P q) cls) X.K q n errs))
    (TB : TabB X.base X.mg c P) (hcode : X.env.code = .ref c) (hr : Room (k + 2) X.A) (L : LamS X.env.scope scope) (hdef : defaultsOf params X.env = ([], []))
    (hbind : ∀ (q : Str) (cl : List (Str × Addr)) (pm cv ctv : Value), bindArgs (PySem.W.kla_fn "<lambda>" q params body scope cl pm cv ctv) ⟨[], []⟩ = pure [])
    (hbody : ∀ (A : Around) (outer : List Env) (s : Shared) (H : Hp) (Ex : XK) (f c' : Addr), Room k (A.deeper (lamEnv X scope s.heap.objs.size f c')) → DE (lamCx X A outer s H Ex scope f c') (TZ X.K (VwT P q) cls) E (fun cls d _ H => Ex cls d H) body fb)
    (hdb : (x == ("__debug__" : Str)) = false := by decide) (hd : (a == ("__debug__" : Str)) = false := by decide) (hcd : (a == ("__classdict__" : Str)) = false := by decide) :
    DE X (TZ X.K (VwT P q) cls) E Wx (.Call (.Name x p) [.Lambda params body scope lpos] [] pos) (eRes n errs fb) := by
  subst hq
  refine PE.imp (pe_lam3 hg hm hk lk hcg hb Sg hNg hva hG TB hcode hr L hdef hbind (t := fun Ex => tG (TZ X.K (VwT P (X.env.qual ++ "<lambda>")) cls) X.K E (RlD X.K) (fun cls d _ H => Ex cls d H) fb) hbody hdb hd hcd) fun σ H Q ⟨Hf, g, sl, r, hgo⟩ => ⟨tabS_of r.base, fun H1 c' st T1 => ?_⟩
  obtain ⟨Hf1, b1, hc1⟩ := base_tab r.base.self st
  unfold eRes at hgo
  match e : fb sl g with
  | none => rw [e] at hgo; exact hgo.elim
  | some (.ok d, g3) =>
    rw [e] at hgo
    refine ⟨Hf1, g, .ok d, g3, b1.self, hc1, (fun c hc => by cases hc), fun H2 Hf2 b2 Ex Q' h' => ⟨Hf2, g, sl, (r.step b1).step b2, ?_⟩, fun v H4 Hf4 b4 dv => hgo v H4 Hf4 (b1.trans b4) dv⟩
    rw [e]
    exact h'
  | some (.exc k, g3) =>
    rw [e] at hgo
    simp only at hgo
    by_cases hk : k < n
    · rw [if_pos hk] at hgo
      refine ⟨Hf1, g, .exc k, g3, b1.self, hc1, (fun c hc => by cases hc; exact hk), fun H2 Hf2 b2 Ex Q' h' => ⟨Hf2, g, sl, (r.step b1).step b2, ?_⟩, fun v H4 Hf4 b4 dv => hgo v H4 Hf4 (b1.trans b4) dv⟩
      rw [e]
      exact h'
    · rw [if_neg hk] at hgo; exact hgo.elim
end
end DL
namespace DL
open PySem PySem.Spec PyProof.Rows L2 LamX
/-! ### f(a=.., b=..), all by keywords, in the order of the def -/
def KwB (K : PySem.W.Frag) (fd : FuncData) (ps : List Str) : Prop := ∀ (s : Shared) (ws : List Value), K.In s.heap → ws.length = ps.length → BindsTo s fd ⟨[], ps.zip ws⟩ (ps.zip ws)
section
variable {X : Cx} {Z : Cn} {E : Ent Z.W} {Wx : WX} {k n : Nat} {f : Addr} {fd : FuncData} {ps : List Str} {x : Str} {p pos kpos : Pos} {kws : List Keyword} {e : Expr} {nm : Option Str} {fe : M Z.W.G D} {fs : M Z.W.G (List D)}
abbrev DK (X : Cx) (Z : Cn) (E : Ent Z.W) (Wx : WX) (kws : List Keyword) (fs : M Z.W.G (List D)) : Prop := PK X kws (tG Z X.K E (RlA X.K) Wx fs)
theorem PK.imp {t t' : TA} (h : PK X kws t) (k : ∀ σ H Q, t' σ H Q → t σ H Q) : PK X kws t' := ⟨fun pos pins s σ H Q I q => h.run pos pins s σ H Q I (k σ H Q q)⟩
theorem dk_nil : DK X Z E Wx [] aNil := PK.imp pk_nil fun σ H Q ⟨Hf, g, sl, r, q⟩ => q _ _ _ r.base.self .nil
theorem dk_cons (ha : DE X Z E Wx e fe) (hr : DK X Z E Wx kws fs) : DK X Z E Wx (⟨nm, e, kpos⟩ :: kws) (aCons fe fs) := by
  refine PK.imp (pk_cons ha hr) fun σ H Q ⟨Hf, g, sl, r, q⟩ => ⟨Hf, g, sl, r, (go_bind (Rm := RlD X.K) q).mono fun x H1 ⟨Hf1, g1, c, b1, d1, q1⟩ => ⟨Hf1, g1, sl, r.step b1, (go_bind (Rm := RlA X.K) q1).mono fun xs H2 ⟨Hf2, g2, cs, b2, d2, q2⟩ => ?_⟩⟩
  exact q2 _ _ _ b2.self (.cons (Dv.mono b2.ff c d1) d2)
theorem pe_callKw {sp : Sp} {Ex : L2.St → XK} {tk : TA} (F : FnOk X.prog X.w X.K X.mg X.base (L2.CX X.prog X.w) k f fd ps sp) (hr : Room k X.A) (hg : Gl X x) (hm : X.mg x = some (.ref f)) (hk : PySem.W.keepIn X.K (.ref f) = true) (hb : KwB X.K fd ps) (hx : ∀ σ, PassesAt (L2.CX X.prog X.w) X σ (Ex σ))
    (hkw : PK X kws tk) (hdb : (x == ("__debug__" : Str)) = false) (hall : (backToKw pos (keywordEach kws X.env)).all (·.1.isSome) = true) (hks : (backToKw pos (keywordEach kws X.env)).filterMap (·.1) = ps)
    (hpl : ((backTo pos (starEach [] X.env)).any (·.1) || (backToKw pos (keywordEach kws X.env)).any (·.1.isNone)) = false) :
    PE X (.Call (.Name x p) [] kws pos) (fun σ H Q => tk σ H fun zs H2 => zs.length = ps.length ∧ sp zs H2 Q (Ex σ)) := by
  refine ⟨fun pins s σ H Q I h => ?_⟩
  refine wpAny_Call_Name_kw (ld_glob I hg hm ?_ hdb)
  refine PySem.W.callWith_KW0 (h₀ := X.base) I.ok.mod.kin hk hall (thn (hkw.run pos pins s σ H _ I h) fun ws s2 ⟨zs, H2, I2, rz, l2, q2⟩ => ⟨I2.kIn, ?_⟩) hpl
  rw [hks]
  refine wpAny_call (codeAny_mono (F.run X.A X.stack s2 H2 ⟨[], ps.zip ws⟩ ws zs Q (Ex σ) hr I2.env0 (hb s2 ws I2.kIn (rz.length.symm.trans l2)) rz q2) fun r s' hq => ?_)
  cases r with
  | error e => exact hx σ pins H2 s2 e s' I2 hq
  | ok fl =>
    cases fl with
    | ret u => exact I2.after hq
    | next => exact False.elim hq
    | brk => exact False.elim hq
    | cont => exact False.elim hq
theorem de_callKw {F : Fn Z.W.G} (G : FnOk X.prog X.w X.K X.mg X.base (L2.CX X.prog X.w) k f fd ps (spF Z X.K n F)) (hr : Room k X.A) (hg : Gl X x) (hm : X.mg x = some (.ref f)) (hk : PySem.W.keepIn X.K (.ref f) = true) (hb : KwB X.K fd ps)
    (tk : Takes X Wx) (hn : ps.length = n) (ha : DK X Z E Wx kws fs) (hl : ∀ sl g ds g', fs sl g = some (.ok ds, g') → ds.length = n) (hdb : (x == ("__debug__" : Str)) = false := by decide)
    (hall : (backToKw pos (keywordEach kws X.env)).all (·.1.isSome) = true := by rfl) (hks : (backToKw pos (keywordEach kws X.env)).filterMap (·.1) = ps := by rfl)
    (hpl : ((backTo pos (starEach [] X.env)).any (·.1) || (backToKw pos (keywordEach kws X.env)).any (·.1.isNone)) = false := by rfl) :
    DE X Z E Wx (.Call (.Name x p) [] kws pos) (callM F fs) := by
  refine PE.imp (pe_callKw G hr hg hm hk hb (fun σ => passAt tk σ) ha hdb hall hks hpl) fun σ H Q ⟨Hf, g, sl, r, q⟩ => ⟨Hf, g, sl, r, ?_⟩
  unfold callM M.bind at q
  match eq : fs sl g with
  | none => rw [eq] at q; exact q
  | some (.exc c, g1) => rw [eq] at q; exact q
  | some (.ok ds, g1) =>
    rw [eq] at q
    intro vs H1 Hf1 b1 d1
    have hlen : vs.length = n := by rw [d1.len]; exact hl sl g ds g1 eq
    exact ⟨by rw [hlen, hn], hlen, Hf1, g1, ds, b1.self, d1, go_wx (go.later (g := g) q b1)⟩
end
/-! ### what is told of an error's class -/
structure ErrAt (K : PySem.W.Frag) (mg : Str → Option Value) (x : Str) (C CS : Addr) (bm : List Value) (newId : String) : Prop where
  gC : mg x = some (.ref C)
  kC : PySem.W.keepIn K (.ref C) = true
  q : PySem.W.excIn K C bm newId = true
  exC : PySem.W.subIn K (.ref C) (.type "BaseException") = some true
  tyC : PySem.W.typeIn K (.ref C) = some (.type "type")
  ex : ExcC K C
  exm : PySem.W.exmOne K (.ref C) (.ref CS) = some true
  ve : PySem.W.kitOne K (.ref C) (.type "ValueError") = some true
/-! ### the law, with a table of code objects -/
def spLawT (K : PySem.W.Frag) (P : Addr) : Sp := fun vs H Q _ => ∃ (a : Addr) (ns : List Int), vs = [.ref a] ∧ SqL K H a (ns.map V.int) ∧ ns.length ≤ 63 ∧ H P = some (.tbl #[]) ∧ ∀ H', Q (.bl true) H'
section
variable {cls : Nat → Value}
theorem law_okT {P : Program} {w : World} {K : PySem.W.Frag} {mg : Str → Option Value} {base : Heap} {x qual : Str} {st st0 : Stmt} {rest : List Stmt} {f c Pt : Addr} {q : Str} {oc kV doc pm ct : Value} {od an : Option Addr} {osl : Array (Option Value)} {N : List Str} {k : Nat} {fs : SM (Tw × Unit)} (i : Nat)
    (lk : K.lookup f = some ⟨oc, od, .func (PySem.W.fnOf x qual (defArgs st) (defBody st) (defScope st) .none kV doc pm an (.ref c) ct), osl⟩) (hcd : PySem.W.codeIn K (.ref c) qual = true) (hKP : K.lookup Pt = none)
    (S : FnScope N ["script"] (defScope st)) (hl : 1 ≤ N.length) (hb : defBody st = st0 :: rest)
    (body0 : ∀ (A : Around) (outer : List Env) (s : Shared) (H : Hp) (Ex : XK), Room k (A.deeper (PyProof.Rows.envOfC qual (defScope st) s.heap.objs.size f (.ref c))) →
      PS (cxOf (L2.CX P w) P w K mg base N qual (defScope st) f (.ref c) A outer s H Ex) st0 (tAsg (fun σ H Q => spBeg K (VwT Pt q) [] H Q fun _ _ _ => False) (gName i)))
    (body : ∀ (A : Around) (outer : List Env) (s : Shared) (H : Hp) (E : Ent (TW K (VwT Pt q))) (Ex : XK), Room k (A.deeper (PyProof.Rows.envOfC qual (defScope st) s.heap.objs.size f (.ref c))) →
      DSs (cxOf (L2.CX P w) P w K mg base N qual (defScope st) f (.ref c) A outer s H Ex) (TZ K (VwT Pt q) cls) E (fun cls d _ H => Ex cls d H) rest fs)
    (law : ∀ (inn : Bool) (a : Addr) (ns : List Int) (t q : Addr), ns.length ≤ 63 → ∃ sl' g', fs ((some (.d (.ref a)) :: List.replicate (N.length - 1) none).set i (some (.d (.ref t)))) (lawG () inn a ns t q) = some (.rt (.bl true), sl', g')) :
    FnOk P w K mg base (L2.CX P w) (k + 1) f (PySem.W.fnOf x qual (defArgs st) (defBody st) (defScope st) .none kV doc pm an (.ref c) ct) ["script"] (spLawT K Pt) := by
  refine fn_of lk hcd S (fun vs H Q E ⟨a, ns, h, _⟩ => by rw [h]; rfl) fun A outer s H vs Q Ex hr ⟨a, ns, ev, hs, hn, hT, qq⟩ => ?_
  subst ev
  have hne : a ≠ Pt := fun z => by
    subst z
    rcases hs with (h | ⟨o, h⟩) | ⟨o, _, _, h, _⟩
    · rw [hT] at h; cases h
    · rw [hT] at h; cases h
    · rw [hKP] at h; cases h
  have hinn : ∃ inn : Bool, (inn = true → H a ≠ none) ∧ SqL K (if inn = true then H else fun _ => none) a (ns.map V.int) := by
    cases e : H a with
    | none =>
      refine ⟨false, (fun h => nomatch h), ?_⟩
      exact sql_loc (H := H) hs (by rw [e]; rfl)
    | some o => exact ⟨true, fun _ => by simp, hs⟩
  obtain ⟨inn, hi1, hi2⟩ := hinn
  let g0 : Tw × Unit := (⟨inn, a, ns, none, 0, []⟩, ())
  have B0 : Base (TW K (VwT Pt q)) H (fun _ => none) g0 H (fun _ => none) g0 := .refl (fun _ _ h => by cases h) ⟨⟨hi2, hi1, fun t q h => by cases h⟩, ⟨#[], hT, True.intro, fun pos cv hc => by
      have z : codeAmong pos [] = some cv := hc
      simp [codeAmong] at z⟩, fun b hb hv => by
      rcases hb with ⟨_, rfl⟩ | ⟨t, q, e, _⟩
      · exact hne hv
      · cases e⟩ (fun _ _ => rfl)
  have hbody : PSs (cxOf (L2.CX P w) P w K mg base N qual (defScope st) f (.ref c) A outer s H Ex) (defBody st) (tSeq (tAsg (fun σ H Q => spBeg K (VwT Pt q) [] H Q fun _ _ _ => False) (gName i)) (tS (TZ K (VwT Pt q) cls) K ⟨H, fun _ => none, g0⟩ (fun cls d _ H => Ex cls d H) fs)) := by
    rw [hb]
    exact pss_cons (body0 A outer s H Ex hr) (body A outer s H ⟨H, fun _ => none, g0⟩ Ex hr)
  refine ⟨_, hbody, ?_⟩
  refine ⟨rfl, _, g0, B0, rfl, fun t q0 H' B => ?_⟩
  refine ⟨fun _ => none, begG g0 t q0, (some (.d (.ref a)) :: List.replicate (N.length - 1) none).set i (some (.d (.ref t))), ?_, ?_⟩
  · have r0 : R (W := TW K (VwT Pt q)) K ⟨H, fun _ => none, g0⟩ H (fun _ => none) g0 (some (.d (.ref a)) :: List.replicate (N.length - 1) none) (L2.start N [.ref a]) :=
      start_R (Z := TZ K (VwT Pt q) cls) (P := P) (K := K) (ds := [.ref a]) B0 (.cons (.ref a) .nil) hl
    exact (r0.step B).setd i (.ref t)
  · obtain ⟨sl', g', e⟩ := law inn a ns t q0 hn
    have e' : fs ((some (.d (.ref a)) :: List.replicate (N.length - 1) none).set i (some (.d (.ref t)))) (begG g0 t q0) = some (.rt (.bl true), sl', g') := e
    have hg : goS (TZ K (VwT Pt q) cls) K ⟨H, fun _ => none, g0⟩ (fun cls d _ H => Ex cls d H) (fun _ => none) (some (.rt (.bl true), sl', g')) { nx := fun _ H' => Q .non H', rt := Q } := by
      intro v H2 Hf2 b d
      cases d
      exact qq H2
    exact (congrArg (fun m => goS (TZ K (VwT Pt q) cls) K ⟨H, fun _ => none, g0⟩ (fun cls d _ H => Ex cls d H) (fun _ => none) m { nx := fun _ H' => Q .non H', rt := Q }) e').mpr hg
end
section
variable {X : Cx} {q : Str} {P c : Addr} {cls : Nat → Value} {E : Ent (TW X.K (VwT P q))} {Wx : WX} {n : Nat} {errs : Nat → List Nat}
theorem de_resF {x a : Str} {g : Addr} {k : Nat} {st : Stmt} {fd : FuncData} {Ng : List Str}
    {params : Arguments} {body : Expr} {scope : Scope} {fb : M (Tw × Unit) D} {p lpos pos : Pos} (F : Fun X.K x x st g fd) (hg : Gl X x) (hm : X.mg x = some (.ref g)) (hk : PySem.W.keepIn X.K (.ref g) = true) (hb : L2.Binds X.K fd [a] []) (Sg : FnScope Ng [a] (defScope st)) (hNg : Ng[0]? = some a) (hva : Vis (defScope st) a)
    (hG : ∀ cdv, Gives3 X Ng x (defScope st) g cdv (defBody st) a q (TTres (TZ X.K (VwT P q) cls) X.K q n errs))
    (TB : TabB X.base X.mg c P) (hcode : X.env.code = .ref c) (hr : Room (k + 2) X.A) (L : LamS X.env.scope scope) (hdef : defaultsOf params X.env = ([], []))
    (hbind : ∀ (q : Str) (cl : List (Str × Addr)) (pm cv ctv : Value), bindArgs (PySem.W.kla_fn "<lambda>" q params body scope cl pm cv ctv) ⟨[], []⟩ = pure [])
    (hbody : ∀ (A : Around) (outer : List Env) (s : Shared) (H : Hp) (Ex : XK) (f c' : Addr), Room k (A.deeper (lamEnv X scope s.heap.objs.size f c')) → DE (lamCx X A outer s H Ex scope f c') (TZ X.K (VwT P q) cls) E (fun cls d _ H => Ex cls d H) body fb)
    (hdb : (x == ("__debug__" : Str)) = false := by decide) (hd : (a == ("__debug__" : Str)) = false := by decide) (hcd : (a == ("__classdict__" : Str)) = false := by decide) (hq : X.env.qual ++ "<lambda>" = q := by rfl) :
    DE X (TZ X.K (VwT P q) cls) E Wx (.Call (.Name x p) [.Lambda params body scope lpos] [] pos) (eRes n errs fb) := by
  obtain ⟨oc, od, kV, doc, pm, an, cdv, ct, osl, rfl, lk, hcd'⟩ := F.ex
  exact de_res hq hg hm hk lk hcd' hb Sg hNg hva (hG cdv) TB hcode hr L hdef hbind hbody hdb hd hcd
end
end DL
namespace DL
open PySem PySem.Spec PyProof.Rows L2 LamX
/-! ### a dict that is read alone from here on -/
def sLk {G : Type} (i : Nat) (f : SM G) : SM G := fun sl g => match sl[i]? with
  | some (some (.oK kvs)) => f (sl.set i (some (.kK kvs))) g
  | _ => none
section
variable {X : Cx} {Z : Cn} {E : Ent Z.W} {Wx : WX} {sts : List Stmt} {fs : SM Z.W.G}
theorem dss_lock (i : Nat) (h : DSs X Z E Wx sts fs) : DSs X Z E Wx sts (sLk i fs) := by
  refine ⟨fun pins s σ H D I ⟨Hf, g, sl, r, q⟩ => ?_⟩
  unfold sLk at q
  split at q
  · rename_i kvs ei
    obtain ⟨v, h1, a, vs, rfl, h2, h3, h4⟩ := r.slot i _ ei
    obtain ⟨od, I1⟩ := I.lock h2 trivial
    exact h.run pins s σ _ D I1 ⟨_, g, _, r.lock od ei h1 h2 h3 h4, goS.later q (same_new h4.2.1)⟩
  · exact q.elim
theorem dss_never : DSs X Z E Wx sts (fun _ _ => none) := ⟨fun pins s σ H D I ⟨Hf, g, sl, r, q⟩ => q.elim⟩
end
/-! ### the classes of errors -/
def errChk1 (K : PySem.W.Frag) (Cs : List Addr) (CS c : Addr) (i : Nat) (bm : List Value) (newId : String) : Bool :=
  PySem.W.keepIn K (.ref c) && PySem.W.excIn K c bm newId && (PySem.W.subIn K (.ref c) (.type "BaseException") == some true) && (PySem.W.typeIn K (.ref c) == some (.type "type"))
  && (PySem.W.findIn K (.ref c) "__getattribute__" == some (some (.builtin "BaseException.__getattribute__"))) && (PySem.W.findIn K (.ref c) "__getattr__" == some none) && PySem.W.hasDictIn K c
  && (PySem.W.findIn K (.ref c) "__class__" == some (some (.builtin "object.__class__"))) && (PySem.W.specialIn K (.builtin "object.__class__") "__get__" == some (some (.builtin "getset_descriptor.__get__")))
  && (PySem.W.takesIn K (.builtin "object.__class__") == some true) && (PySem.W.mroIn K c (.type "object") == some true)
  && (PySem.W.exmOne K (.ref c) (.ref CS) == some true) && (PySem.W.kitOne K (.ref c) (.type "ValueError") == some true)
  && (List.range Cs.length).all fun j => j == 0 || (PySem.W.kitOne K (.ref c) (.ref (Cs.getD j 0)) == some (i == j))
def errChk (K : PySem.W.Frag) (Cs : List Addr) (bm : List Value) (newId : String) : Bool := (List.range Cs.length).all fun i => errChk1 K Cs (Cs.getD 0 0) (Cs.getD i 0) i bm newId
structure ErrOk (K : PySem.W.Frag) (C CS : Addr) (bm : List Value) (newId : String) : Prop where
  kC : PySem.W.keepIn K (.ref C) = true
  q : PySem.W.excIn K C bm newId = true
  exC : PySem.W.subIn K (.ref C) (.type "BaseException") = some true
  tyC : PySem.W.typeIn K (.ref C) = some (.type "type")
  ex : ExcC K C
  exm : PySem.W.exmOne K (.ref C) (.ref CS) = some true
  ve : PySem.W.kitOne K (.ref C) (.type "ValueError") = some true
theorem errChk_ok {K : PySem.W.Frag} {Cs : List Addr} {bm : List Value} {newId : String} (h : errChk K Cs bm newId = true) {i : Nat} (hi : i < Cs.length) : ErrOk K (Cs.getD i 0) (Cs.getD 0 0) bm newId ∧ ∀ j, j ≠ 0 → j < Cs.length → PySem.W.kitOne K (.ref (Cs.getD i 0)) (.ref (Cs.getD j 0)) = some (i == j) := by
  have h1 := List.all_eq_true.mp h i (List.mem_range.mpr hi)
  unfold errChk1 at h1
  simp only [Bool.and_eq_true, beq_iff_eq] at h1
  obtain ⟨⟨⟨⟨⟨⟨⟨⟨⟨⟨⟨⟨⟨a1, a2⟩, a3⟩, a4⟩, a5⟩, a6⟩, a7⟩, a8⟩, a9⟩, a10⟩, a11⟩, a12⟩, a13⟩, a14⟩ := h1
  refine ⟨⟨a1, a2, a3, a4, ⟨a5, a6, a3, a7, a8, a9, a10, a11⟩, a12, a13⟩, fun j hj hl => ?_⟩
  have := List.all_eq_true.mp a14 j (List.mem_range.mpr hl)
  rw [Bool.or_eq_true] at this
  rcases this with z | z
  · exact absurd (by simpa using z) hj
  · simpa using z
end DL
namespace DL
open PySem PySem.Spec PyProof.Rows L2 LamX
/-! ### deed(..), deed a name that is one of some defs -/
def eDeed {G : Type} (i : Nat) (l : List (Addr × Fn G)) (fs : M G (List D)) : M G D := fun sl g => match sl[i]? with
  | some (some (.d (.ref x))) => match l.find? fun p => decide (p.1 = x) with
    | some p => callM p.2 fs sl g
    | none => none
  | _ => none
section
variable {X : Cx} {Z : Cn} {E : Ent Z.W} {Wx : WX} {e : Expr} {es : List Expr} {pos p : Pos} {fs : M Z.W.G (List D)} {n i : Nat} {y x : Str}
theorem de_fn {a : Addr} (hm : X.mg x = some (.ref a)) (hg : Gl X x := by rfl) (hd : (x == ("__debug__" : Str)) = false := by decide) : DE X Z E Wx (.Name x pos) (eC (.ref a)) :=
  PE.imp (pe_glob (v := .ref a) hg hm rfl hd) fun σ H Q ⟨Hf, g, sl, r, q⟩ => q (.ref a) H Hf r.base.self (.ref a)
theorem de_deed {l : List (Addr × Fn Z.W.G)} (hl : ∀ q ∈ l, ∃ k fd ps, FnOk X.prog X.w X.K X.mg X.base (L2.CX X.prog X.w) k q.1 fd ps (spF Z X.K n q.2) ∧ Room k X.A ∧ PySem.W.keepIn X.K (.ref q.1) = true ∧ Binds X.K fd ps [])
    (tk : Takes X Wx) (hn : (e :: es).length = n) (ha : DA X Z E Wx (e :: es) fs) (hln : ∀ sl g ds g', fs sl g = some (.ok ds, g') → ds.length = n)
    (hN : X.N[i]? = some y := by rfl) (hv : Vis X.env.scope y := by first | exact Or.inl rfl | exact Or.inr (Or.inl rfl) | exact Or.inr (Or.inr rfl)) (hd : (y == ("__debug__" : Str)) = false := by decide) (hcd : (y == ("__classdict__" : Str)) = false := by decide)
    (he : starEach (e :: es) X.env = (false, eval e X.env) :: starEach es X.env := by rfl) (hpl : (backTo pos (starEach es X.env)).any (·.1) = false := by rfl) :
    DE X Z E Wx (.Call (.Name y p) (e :: es) [] pos) (eDeed i l fs) := by
  refine ⟨fun pins s σ H Q I ⟨Hf, g, sl, r, q⟩ => ?_⟩
  unfold eDeed at q
  split at q
  · rename_i a hs
    split at q
    · rename_i pr hf
      have hm := List.mem_of_find?_eq_some hf
      have hx : pr.1 = a := by simpa using List.find?_some hf
      subst hx
      obtain ⟨v, h1, h2⟩ := r.slot i _ hs
      have h2 : Dv X.K Hf v (.ref pr.1) := h2
      cases h2
      obtain ⟨k, fd, ps, F, hr, hk, hb⟩ := hl pr hm
      refine wpAny_Call_Name_kw (ld_var I hN h1 hv (fun u ru => ?_) hd hcd)
      cases ru
      have hT : tG Z X.K E (RlA X.K) Wx fs σ H (fun vs H1 => spF Z X.K n pr.2 vs H1 Q (WE Wx σ)) := by
        refine ⟨Hf, g, sl, r, ?_⟩
        unfold callM M.bind at q
        match eq : fs sl g with
        | none => rw [eq] at q; exact q
        | some (.exc c, g1) => rw [eq] at q; exact q
        | some (.ok ds, g1) =>
          rw [eq] at q
          intro vs H1 Hf1 b1 d1
          exact ⟨by rw [d1.len]; exact hln sl g ds g1 eq, Hf1, g1, ds, b1.self, d1, go_wx (go.later (g := g) q b1)⟩
      exact PySem.W.callWith_K (h₀ := X.base) I.ok.mod.kin hk (thn (ha.run pos pins s σ H _ I hT) fun us s1 ⟨vs, H1, I1, r1, q1⟩ => ⟨I1.kIn, run_fnS F hr hb (passAt tk σ) I1 r1 q1⟩) he hpl
    · exact q.elim
  · exact q.elim
end
end DL
namespace DL
open PySem PySem.Spec PyProof.Rows L2 LamX
/-! ### f(a, .., k=..): some by keywords, in the order of the def -/
def KwM (K : PySem.W.Frag) (fd : FuncData) (n : Nat) (ps : List Str) : Prop := ∀ (s : Shared) (us ws : List Value), K.In s.heap → us.length = n → ws.length = (ps.drop n).length → BindsTo s fd ⟨us, (ps.drop n).zip ws⟩ (ps.zip (us ++ ws))
def aCat {G : Type} (f h : M G (List D)) : M G (List D) := M.bind f fun xs => M.bind h fun ys => M.pure (xs ++ ys)
theorem aCat_n {G : Type} {h : M G (List D)} : aCat aNil h = h := by
  funext sl g
  unfold aCat aNil M.bind M.pure
  simp only
  rcases h sl g with _ | ⟨_ | _, _⟩ <;> rfl
theorem aCat_c {G : Type} {a : M G D} {f h k : M G (List D)} (e : aCat f h = k) : aCat (aCons a f) h = aCons a k := by
  subst e
  funext sl g
  unfold aCat aCons M.bind M.pure
  rcases a sl g with _ | ⟨_ | _, g1⟩
  · rfl
  · simp only
    rcases f sl g1 with _ | ⟨_ | _, g2⟩
    · rfl
    · simp only
      rcases h sl g2 with _ | ⟨_ | _, g3⟩ <;> rfl
    · rfl
  · rfl
section
variable {X : Cx} {Z : Cn} {E : Ent Z.W} {Wx : WX} {k n m : Nat} {f : Addr} {fd : FuncData} {ps : List Str} {x : Str} {p pos kpos : Pos} {kws : List Keyword} {e : Expr} {es : List Expr} {fs fk fa : M Z.W.G (List D)}
theorem pe_callM {sp : Sp} {Ex : L2.St → XK} {t tk : TA} (F : FnOk X.prog X.w X.K X.mg X.base (L2.CX X.prog X.w) k f fd ps sp) (hr : Room k X.A) (hg : Gl X x) (hm : X.mg x = some (.ref f)) (hk : PySem.W.keepIn X.K (.ref f) = true) (hb : KwM X.K fd m ps) (hx : ∀ σ, PassesAt (L2.CX X.prog X.w) X σ (Ex σ))
    (ha : PA X (e :: es) t) (hkw : PK X kws tk) (hdb : (x == ("__debug__" : Str)) = false) (hall : (backToKw pos (keywordEach kws X.env)).all (·.1.isSome) = true) (hks : (backToKw pos (keywordEach kws X.env)).filterMap (·.1) = ps.drop m)
    (he : starEach (e :: es) X.env = (false, eval e X.env) :: starEach es X.env)
    (hpl : ((backTo pos (starEach (e :: es) X.env)).any (·.1) || (backToKw pos (keywordEach kws X.env)).any (·.1.isNone)) = false) :
    PE X (.Call (.Name x p) (e :: es) kws pos) (fun σ H Q => t σ H fun vs H1 => tk σ H1 fun zs H2 => vs.length = m ∧ zs.length = (ps.drop m).length ∧ sp (vs ++ zs) H2 Q (Ex σ)) := by
  refine ⟨fun pins s σ H Q I h => ?_⟩
  refine wpAny_Call_Name_kw (ld_glob I hg hm ?_ hdb)
  refine PySem.W.callWith_KW (h₀ := X.base) I.ok.mod.kin hk hall (thn (ha.run pos pins s σ H _ I h) fun us s1 ⟨vs, H1, I1, r1, q1⟩ => ?_) hpl he
  refine thn (hkw.run pos pins s1 σ H1 _ I1 q1) fun ws s2 ⟨zs, H2, I2, rz, l1, l2, q2⟩ => ⟨I2.kIn, ?_⟩
  rw [hks]
  refine wpAny_call (codeAny_mono (F.run X.A X.stack s2 H2 ⟨us, (ps.drop m).zip ws⟩ (us ++ ws) (vs ++ zs) Q (Ex σ) hr I2.env0 (hb s2 us ws I2.kIn (r1.length.symm.trans l1) (rz.length.symm.trans l2)) (r1.append rz) q2) fun r s' hq => ?_)
  cases r with
  | error e => exact hx σ pins H2 s2 e s' I2 hq
  | ok fl =>
    cases fl with
    | ret u => exact I2.after hq
    | next => exact False.elim hq
    | brk => exact False.elim hq
    | cont => exact False.elim hq
theorem de_callM {F : Fn Z.W.G} (G : FnOk X.prog X.w X.K X.mg X.base (L2.CX X.prog X.w) k f fd ps (spF Z X.K n F)) (hr : Room k X.A) (hg : Gl X x) (hm : X.mg x = some (.ref f)) (hk : PySem.W.keepIn X.K (.ref f) = true) (hb : KwM X.K fd m ps)
    (tk : Takes X Wx) (hn : ps.length = n) (hm2 : m ≤ n) (ha : DA X Z E Wx (e :: es) fs) (hkw : DK X Z E Wx kws fk) (hc : aCat fs fk = fa)
    (hl : ∀ sl g ds g', fs sl g = some (.ok ds, g') → ds.length = m) (hl2 : ∀ sl g ds g', fk sl g = some (.ok ds, g') → ds.length = n - m) (hdb : (x == ("__debug__" : Str)) = false := by decide)
    (hall : (backToKw pos (keywordEach kws X.env)).all (·.1.isSome) = true := by rfl) (hks : (backToKw pos (keywordEach kws X.env)).filterMap (·.1) = ps.drop m := by rfl)
    (he : starEach (e :: es) X.env = (false, eval e X.env) :: starEach es X.env := by rfl)
    (hpl : ((backTo pos (starEach (e :: es) X.env)).any (·.1) || (backToKw pos (keywordEach kws X.env)).any (·.1.isNone)) = false := by rfl) :
    DE X Z E Wx (.Call (.Name x p) (e :: es) kws pos) (callM F fa) := by
  subst hc
  refine PE.imp (pe_callM G hr hg hm hk hb (fun σ => passAt tk σ) ha hkw hdb hall hks he hpl) fun σ H Q ⟨Hf, g, sl, r, q⟩ => ⟨Hf, g, sl, r, ?_⟩
  unfold callM aCat at q
  unfold M.bind at q
  match eq : fs sl g with
  | none => rw [eq] at q; exact q
  | some (.exc c, g1) => rw [eq] at q; exact q
  | some (.ok ds, g1) =>
    rw [eq] at q
    intro vs H1 Hf1 b1 d1
    refine ⟨Hf1, g1, sl, r.step b1, ?_⟩
    match eq2 : fk sl g1 with
    | none => simp only [eq2] at q; exact q
    | some (.exc c, g2) => simp only [eq2] at q; exact go.later (g := g) q b1
    | some (.ok es', g2) =>
      simp only [eq2] at q
      intro zs H2 Hf2 b2 d2
      have l1 : vs.length = m := by rw [d1.len]; exact hl sl g ds g1 eq
      have l2 : zs.length = n - m := by rw [d2.len]; exact hl2 sl g1 es' g2 eq2
      refine ⟨l1, by rw [l2, List.length_drop, hn], by rw [List.length_append, l1, l2]; omega, Hf2, g2, ds ++ es', b2.self, (DvAll.mono b2.ff _ d1).append d2, go_wx (go.later (g := g) q (b1.trans b2))⟩
end
end DL
namespace DL
open PySem PySem.Spec PyProof.Rows L2 LamX
/-! ### x, y = a, b, y a name of one's own: behind it a token is out -/
structure PGT (X : Cx) (target : Expr) (t : TG) : Prop where
  run : ∀ (pins : List (Addr × Obj)) (s : Shared) (σ : L2.St) (H : Hp) (v : V) (u : Value) (Q : L2.St → Hp → Prop), Inv X pins σ H s → RelV v u → t v σ H Q →
    wpAny (model X.prog X.w) X.A (assign target X.env u) (fun _ s' => 1 ≤ s'.toks ∧ ∃ σ' H', Inv X pins σ' H' s' ∧ Q σ' H') X.xe s
structure PGsT (X : Cx) (ts : List Expr) (t : TGs) : Prop where
  run : ∀ (pins : List (Addr × Obj)) (s : Shared) (σ : L2.St) (H : Hp) (vs : List V) (us : List Value) (Q : L2.St → Hp → Prop), Inv X pins σ H s → Vals vs us → t vs σ H Q →
    wpAny (model X.prog X.w) X.A (assignInOrder ((assignEach ts X.env).map (·.2)) us) (fun _ s' => 1 ≤ s'.toks ∧ ∃ σ' H', Inv X pins σ' H' s' ∧ Q σ' H') X.xe s
section
variable {X : Cx} {pos : Pos}
theorem pgt_name {i : Nat} {x : Str} (hN : X.N.Nodup) (hi : X.N[i]? = some x) (hx : X.env.scope.names.lookup x = some .local) : PGT X (.Name x pos) (gName i) := by
  refine ⟨fun pins s σ H v u Q I r h => ?_⟩
  exact wpAny_assign_Name (store_tok I hN hi hx r fun s' k I' => ⟨k, _, H, I', h⟩)
theorem pgst_one {e : Expr} {t : TG} (h1 : PGT X e t) (hs : (assignEach [e] X.env).map (·.2) = assign e X.env :: (assignEach [] X.env).map (·.2) := by rfl) : PGsT X [e] (gCons t gNil) := by
  refine ⟨fun pins s σ H vs us Q I r h => ?_⟩
  obtain ⟨v, vr, e1, h⟩ := h
  subst e1
  cases r with
  | cons r rr =>
    rw [hs]
    refine assignInOrder_cons (thn (h1.run pins s σ H _ _ _ I r h) fun _ s1 ⟨k, σ1, H1, I1, q1⟩ => ?_)
    obtain ⟨e2, q2⟩ := q1
    subst e2
    cases rr
    exact assignInOrder_nil ⟨k, σ1, H1, I1, q2⟩
theorem pgst_cons {e : Expr} {es : List Expr} {t : TG} {u : TGs} (h1 : PG X e t) (h2 : PGsT X es u)
    (hs : (assignEach (e :: es) X.env).map (·.2) = assign e X.env :: (assignEach es X.env).map (·.2) := by rfl) : PGsT X (e :: es) (gCons t u) := by
  refine ⟨fun pins s σ H vs us Q I r h => ?_⟩
  obtain ⟨v, vr, e1, h⟩ := h
  subst e1
  cases r with
  | cons r rr =>
    rw [hs]
    refine assignInOrder_cons (thn (h1.run pins s σ H _ _ _ I r h) fun _ s1 ⟨σ1, H1, I1, q1⟩ => ?_)
    exact h2.run pins s1 σ1 H1 _ _ Q I1 rr q1
theorem pgt_tup {es : List Expr} {k : Nat} {t : TGs} {n : Nat} (hc : X.calm = true) (h : PGsT X es t)
    (hn : (assignEach es X.env).length = n := by rfl) (hst : (assignEach es X.env).findIdx? (·.1) = none := by rfl) : PGT X (.Tuple es k pos) (gTup X.K n t) := by
  refine ⟨fun pins s σ H v u Q I r hw => ?_⟩
  obtain ⟨a, xs, e1, hq, hl, hw⟩ := hw
  subst e1
  cases r
  obtain ⟨its, rv, ht, hz⟩ := I.tuple hq
  refine assign_Tuple_tuple (I.ok.hd hc) ht (by simp [hn, ← hl, rv.length]) hst fun h' hx => ?_
  have I1 : Inv X pins σ H { s with heap := h' } := I.kept (t' := s.toks) fun b o e => hx b o (Nat.ne_of_lt (Heap.lt_size e)) e
  exact h.run pins _ σ H xs _ Q I1 (by simpa using rv) hw
theorem pss_asgGT {tg e : Expr} {te : TE} {g : TG} {rest : List Stmt} {u : TS} (he : PE X e te) (hg : PGT X tg g) (h2 : PSsT X rest u) (hs : swapsWithSole [tg] e pos.line X.env = pure false := by rfl) (hw : swappedStores [tg] e X.env = pure none := by rfl)
    (h1 : (assignEach [tg] X.env).map (·.2) = [assign tg X.env] := by rfl) : PSs X (.Assign [tg] e pos :: rest) (tSeq (tAsg te g) u) := by
  refine ⟨fun pins s σ H D I h => ?_⟩
  refine wpAny_execs_cons (wpAny_Assign_stores (thn (he.run pins s σ H _ I h) fun v s1 ⟨x, H1, I1, r1, q1⟩ => ?_) hs hw)
  rw [h1]
  exact thn (hg.run pins s1 σ H1 x v _ I1 r1 q1) fun _ s2 ⟨k, σ2, H2, I2, q2⟩ => h2 pins s2 σ2 H2 D k I2 q2
end
section
variable {X : Cx} {Z : Cn} {E : Ent Z.W} {Wx : WX} {e a b o : Expr} {fe fo : M Z.W.G D} {pos : Pos} {st : Stmt} {sts : List Stmt} {fs fs' : SM Z.W.G} {j k : Nat} {c0 c1 apos : Pos}
theorem dss_parCT {fx fy : M Z.W.G Slot} {i j : Nat} {x y : Str} {px py pt : Pos} {kt k2 pt2} (hc : X.calm = true) (hN : X.N.Nodup) (hi : X.N[i]? = some x) (hj : X.N[j]? = some y)
    (hx : Loc X.env.scope x) (hy : X.env.scope.names.lookup y = some .local) (ha : DX X Z E Wx a fx) (hb : DX X Z E Wx b fy) (hrest : DSsT X Z E Wx sts fs')
    (hf : X.fn x = true ∨ X.env.scope.names.lookup x = some .local := by first | exact .inl rfl | exact .inr rfl | assumption)
    (hw : swappedStores [.Tuple [.Name x px, .Name y py] kt pt] (.Tuple [a, b] k2 pt2) X.env = pure none := by rfl)
    (hn : (assignEach [.Name x px, .Name y py] X.env).length = 2 := by rfl) (hst : (assignEach [.Name x px, .Name y py] X.env).findIdx? (·.1) = none := by rfl)
    (hs1 : (assignEach [.Name x px, .Name y py] X.env).map (·.2) = assign (.Name x px) X.env :: (assignEach [.Name y py] X.env).map (·.2) := by rfl) (hs2 : (assignEach [.Name y py] X.env).map (·.2) = assign (.Name y py) X.env :: (assignEach [] X.env).map (·.2) := by rfl)
    (hs : swapsWithSole [.Tuple [.Name x px, .Name y py] kt pt] (.Tuple [a, b] k2 pt2) pos.line X.env = pure false := by rfl) (h1 : starEach [a, b] X.env = (false, eval a X.env) :: starEach [b] X.env := by rfl) (h2 : starEach [b] X.env = (false, eval b X.env) :: starEach [] X.env := by rfl)
    (ht : (assignEach [.Tuple [.Name x px, .Name y py] kt pt] X.env).map (·.2) = [assign (.Tuple [.Name x px, .Name y py] kt pt) X.env] := by rfl) :
    DSs X Z E Wx (.Assign [.Tuple [.Name x px, .Name y py] kt pt] (.Tuple [a, b] k2 pt2) pos :: sts) (sSeq (sPar i j fx fy) fs') := by
  refine PSs.imp (pss_asgGT (pe_tup (pa_cons ha (pa_cons hb pa_nil h2) h1)) (pgt_tup hc (pgst_cons (pg_name hN hi hx hf) (pgst_one (pgt_name hN hj hy) hs2) hs1) hn hst) hrest hs hw ht) fun D σ H ⟨Hf, g, sl, r, q⟩ => ?_
  refine ⟨Hf, g, sl, r, (goS_do (Rl := RlX X.K E H) r (goS_seq q)).mono fun v H1 ⟨Hf1, g1, s1, b1, r1, d1, q1⟩ => ⟨Hf1, g1, sl, r1, (goS_do (Rl := RlX X.K E H1) r1 q1).mono fun w H2 ⟨Hf2, g2, s2, b2, r2, d2, q2⟩ => ?_⟩⟩
  refine ⟨by show 2 ≤ sizeLine; decide, fun p hp => ?_⟩
  have rA := R.set_new (X := X) (i := i) r r1 d1
  have rB := R.set_new (X := X) (i := j) rA (rA.step b2) d2
  exact ⟨p, [v, w], rfl, SqT.of upd_same, rfl, v, [w], rfl, w, [], rfl, rfl, q2 _ _ Hf2 (same_refl _) (rB.tupU _ hp)⟩
theorem okS_1 {c : Nat} (h : okS [c] := by exact ⟨by unfold LIM; decide, by decide⟩) : okS [c] := h
/-- o.replace("p", "c") -/
def rplCD (p c : Nat) (x : D) : Option D := match x with
  | .str x => if x.length ≤ 1000 then some (.str (x.map fun d => if d = p then c else d)) else none
  | _ => none
theorem det_replC {p c : Nat} (ho : DE X Z E Wx o fo) (hc : okS [c]) (hyz : (mkS [p] == mkS [c]) = false := by decide)
    (hst : starEach [.Constant (.str (mkS [p])) j c0, .Constant (.str (mkS [c])) k c1] X.env = [(false, eval (.Constant (.str (mkS [p])) j c0) X.env), (false, eval (.Constant (.str (mkS [c])) k c1) X.env)] := by rfl)
    (hbase : attributeBase o "replace" X.env (eval o X.env) = eval o X.env := by rfl) (hline : (apos.endLine == pos.line) = true := by rfl) :
    DET X Z E Wx (.Call (.Attribute o "replace" apos) [.Constant (.str (mkS [p])) j c0, .Constant (.str (mkS [c])) k c1] [] pos) (e1 (rplCD p c) fo) := by
  refine PET.imp (CwR.pet_replC ho hyz hst hbase hline) fun σ H Q ⟨Hf, g, sl, r, q⟩ => ⟨Hf, g, sl, r, (go_bind (Rm := RlD X.K) q).mono fun v H1 ⟨Hf1, g1, d, b1, d1, q1⟩ => ?_⟩
  obtain ⟨d', ed, kk⟩ := go_lift q1
  unfold rplCD at ed
  split at ed
  · rename_i x
    split at ed
    · rename_i hx
      cases ed
      obtain ⟨rfl, hok⟩ := dv_okS d1
      refine ⟨mkS x, rfl, by rw [mkS_len, mkS_len]; simp; omega, ?_⟩
      rw [replace_map]
      refine kk _ _ _ b1.self (.str _ ⟨by rw [List.length_map]; exact hok.1, fun d hd => ?_⟩)
      obtain ⟨d', hd', rfl⟩ := List.mem_map.mp hd
      split
      · exact hc.2 c (by simp)
      · exact hok.2 d' hd'
    · cases ed
  · cases ed
end
end DL
namespace DL
open PySem PySem.Spec PyProof.Rows L2 LamX
section
variable {X : Cx} {Z : Cn} {E : Ent Z.W} {Wx : WX} {k : Nat} {f : Addr} {fd : FuncData} {x : Str} {p pos : Pos}
/-- f() -/
theorem de_callZ {F : Fn Z.W.G} (G : FnOk X.prog X.w X.K X.mg X.base (L2.CX X.prog X.w) k f fd [] (spF Z X.K 0 F)) (hr : Room k X.A) (hg : Gl X x) (hm : X.mg x = some (.ref f)) (hk : PySem.W.keepIn X.K (.ref f) = true) (hb : Binds X.K fd [] [])
    (tk : Takes X Wx) (hdb : (x == ("__debug__" : Str)) = false := by decide) : DE X Z E Wx (.Call (.Name x p) [] [] pos) (callM F aNil) := by
  refine ⟨fun pins s σ H Q I ⟨Hf, g, sl, r, q⟩ => ?_⟩
  refine wpAny_Call_Name_kw (ld_glob I hg hm ?_ hdb)
  refine PySem.W.callWith_K0 I.kIn hk (run_fnS (us := []) (vs := []) (E := WE Wx) G hr hb (passAt tk σ) I .nil ?_)
  exact ⟨rfl, Hf, g, [], r.base.self, .nil, go_wx q⟩
/-- a def whose code object is known -/
theorem fn_okC {P : Program} {w : World} {K : PySem.W.Frag} {mg : Str → Option Value} {base : Heap} {x qual : Str} {st : Stmt} {f c : Addr} {oc kV doc pm ct : Value} {od an : Option Addr} {osl : Array (Option Value)} {N ps : List Str} {k : Nat} {fs : SM Z.W.G}
    (lk : K.lookup f = some ⟨oc, od, .func (PySem.W.fnOf x qual (defArgs st) (defBody st) (defScope st) .none kV doc pm an (.ref c) ct), osl⟩) (hcd : PySem.W.codeIn K (.ref c) qual = true) (S : FnScope N ps (defScope st)) (hl : ps.length ≤ N.length)
    (body : ∀ (A : Around) (outer : List Env) (s : Shared) (H : Hp) (E : Ent Z.W) (Ex : XK), Room k (A.deeper (PyProof.Rows.envOfC qual (defScope st) s.heap.objs.size f (.ref c))) →
      DSs (cxOf (L2.CX P w) P w K mg base N qual (defScope st) f (.ref c) A outer s H Ex) Z E (fun cls d _ H => Ex cls d H) (defBody st) fs) :
    FnOk P w K mg base (L2.CX P w) (k + 1) f (PySem.W.fnOf x qual (defArgs st) (defBody st) (defScope st) .none kV doc pm an (.ref c) ct) ps (spF Z K ps.length (fnD N.length fs)) := by
  refine fn_of lk hcd S (fun vs H Q E h => h.1) fun A outer s H vs Q Ex hr ⟨hv, Hf, g, ds, B, dv, q⟩ => ⟨_, body A outer s H ⟨H, Hf, g⟩ Ex hr, Hf, g, _, start_R (P := P) B dv (by rw [← dv.len, hv]; exact hl), ?_⟩
  unfold fnD at q
  match em : fs (ds.map (fun d => some (.d d)) ++ List.replicate (N.length - ds.length) none) g with
  | none => rw [em] at q; exact q.elim
  | some (.nx, sl', g') => rw [em] at q ⊢; exact fun σ' H' Hf' _ r => q .non H' Hf' r.base .non
  | some (.bk, sl', g') => rw [em] at q; exact q.elim
  | some (.ct, sl', g') => rw [em] at q; exact q.elim
  | some (.rt d, sl', g') => rw [em] at q ⊢; exact q
  | some (.ex c, sl', g') => rw [em] at q ⊢; exact fun σ' H' Hf' r => q H' Hf' r.base
end
end DL
namespace DL
open PySem PySem.Spec PyProof.Rows L2 LamX
/-! ### a dict of texts, made, asked, and returned by a def -/
section
variable {G : Type}
def xK1 (fk fv : M G D) : M G Slot := M.bind fk fun k => M.bind fv fun v => M.lift ((keyD k).map fun ky => .oK [(ky, v)])
def eDNin (i : Nat) (fk : M G D) : M G D := M.bind fk fun k => M.bind (mK i) fun kvs => M.lift ((keyD k).map fun k => .bl (!(dGet kvs k).isSome))
def eDGet2 (i : Nat) (fk fd : M G D) : M G D := M.bind (mK i) fun kvs => M.bind fk fun k => M.bind fd fun d => M.lift ((keyD k).map fun ky => (dGet kvs ky).getD d)
def sKPut (i : Nat) (fk fv : M G D) : SM G := sOwnK i <| sDo fv fun v => sDo fk fun k => sMutK i fun kvs => (keyD k).bind fun ky => if kvs.length < LIM then some (dPut kvs ky v) else none
abbrev FnS (G : Type) := List D → G → Option (Res (List (DKey × D)) × G)
/-- a def whose end is return x, x a dict of its own -/
def fnKD (m i : Nat) (fs : SM G) : FnS G := fun ds g => match fs (ds.map (fun d => some (.d d)) ++ List.replicate (m - ds.length) none) g with
  | some (.nx, sl', g') => match sl'[i]? with
    | some (some (.oK kvs)) => some (.ok kvs, g')
    | _ => none
  | some (.ex c, _, g') => some (.exc c, g')
  | _ => none
def xCallK (F : FnS G) (fs : M G (List D)) : M G Slot := M.bind fs fun ds => fun _ g => match F ds g with
  | some (.ok kvs, g') => some (.ok (.oK kvs), g')
  | some (.exc c, g') => some (.exc c, g')
  | none => none
end
def NewK (K : PySem.W.Frag) {Z : Cn} (H0 : Hp) : Z.W.G → Hp → Hp → V → List (DKey × D) → Prop := fun g Hf H v kvs => ∃ a vs, v = .ref a ∧ H0 a = none ∧ H a = some (.dK vs) ∧ KVd K Hf vs kvs ∧ Hf a = none ∧ ¬ Z.W.fp g a
def spFK (Z : Cn) (K : PySem.W.Frag) (n : Nat) (F : FnS Z.W.G) : Sp := fun vs H Q Ex => vs.length = n ∧ ∃ (Hf : Hp) (g : Z.W.G) (ds : List D), Base Z.W H Hf g H Hf g ∧ DvAll K Hf vs ds ∧
  go Z (NewK K H) (fun cls d _ H' => Ex cls d H') [] (F ds g) H Hf g Q
def goSK (Z : Cn) (K : PySem.W.Frag) (E : Ent Z.W) (Wx : WX) (i : Nat) (Hf : Hp) (m : Option (Fl × SL × Z.W.G)) (D : Ends) : Prop :=
  match m with
  | some (.nx, sl', g') => ∃ kvs, sl'[i]? = some (some (.oK kvs)) ∧ ∀ σ' H' Hf' a, Same Hf Hf' → R K E H' Hf' g' sl' σ' → σ'[i]? = some (some (.ref a)) → D.rt (.ref a) H'
  | some (.ex c, sl', g') => ∀ σ' H' Hf', R K E H' Hf' g' sl' σ' → Wx (Z.cls c) none σ' H'
  | _ => False
def tSK (Z : Cn) (K : PySem.W.Frag) (E : Ent Z.W) (Wx : WX) (i : Nat) (f : SM Z.W.G) : TS := fun D σ H => ∃ (Hf : Hp) (g : Z.W.G) (sl : SL), R K E H Hf g sl σ ∧ goSK Z K E Wx i Hf (f sl g) D
section
variable {X : Cx} {Z : Cn} {E : Ent Z.W} {Wx : WX} {e a b c : Expr} {pos p ap cp : Pos} {fe fa fb fc : M Z.W.G D} {i : Nat} {x : Str} {st : Stmt} {sts : List Stmt} {fs fs' : SM Z.W.G}
theorem dx_k1 (hk : DE X Z E Wx a fa) (hv : DE X Z E Wx e fe) : DX X Z E Wx (.Dict [some a] [e] pos) (xK1 fa fe) := by
  refine PE.imp (pe_disp (pps_cons hk hv pps_nil) rfl rfl (by simp) (by simp)) fun σ H Q ⟨Hf, g, sl, r, q⟩ p hp => ?_
  obtain ⟨n1, n2, n3⟩ := new_n r.base.self hp
  have hE : E.H p = none := by
    cases e : E.H p with
    | none => rfl
    | some o => exact absurd n1 (r.base.there p (by rw [e]; simp))
  have b0 := r.base.self.allocU (.dK []) hp
  refine ⟨Hf, g, sl, r.step b0, ?_⟩
  unfold xK1 M.bind at q
  match ek : fa sl g with
  | none => rw [ek] at q; exact q.elim
  | some (.exc c, g1) =>
    rw [ek] at q
    exact fun H' Hf' b' => q H' Hf' (b0.trans b')
  | some (.ok kd, g1) =>
    rw [ek] at q
    intro y H1 Hf1 b1 d1
    refine ⟨Hf1, g1, sl, (r.step b0).step b1, ?_⟩
    simp only at q
    match ev : fe sl g1 with
    | none => rw [ev] at q; exact q.elim
    | some (.exc c, g2) =>
      rw [ev] at q
      exact fun H' Hf' b' => q H' Hf' (b0.trans (b1.trans b'))
    | some (.ok vd, g2) =>
      rw [ev] at q
      intro y2 H2 Hf2 b2 d2
      simp only [M.lift] at q
      match et : keyD kd with
      | none => rw [et] at q; exact q.elim
      | some ky =>
        rw [et] at q
        obtain rfl := keyD_v et d1
        have b12 := b1.trans b2
        have hp2 : H2 p = some (.dK []) := b12.keep p _ upd_same n3
        have hf2 : Hf2 p = none := (b12.old p (by rw [upd_same]; simp)).trans n2
        have hg2 : ¬ Z.W.fp g2 p := fun z => by
          rcases b12.fpo p z with z | z
          · exact n3 z
          · rw [upd_same] at z; cases z
        refine ⟨hp2, [(toKey ky, y2)], rfl, by simp, ?_⟩
        have bA := (b0.trans b12).updFresh (.dK [(toKey ky, y2)]) n1 hf2 hg2
        exact q _ _ _ bA ⟨⟨p, _, rfl, upd_same, .cons ⟨rfl, d2⟩ .nil, hE, hf2, hg2⟩, fun _ a ea => by cases ea; exact n1⟩
theorem dt_dnin (hu : X.A.units + 1 < cLine) (hk : DE X Z E Wx a fa) (hN : X.N[i]? = some x := by rfl) (hv : Vis X.env.scope x := by first | exact Or.inl rfl | exact Or.inr (Or.inl rfl) | exact Or.inr (Or.inr rfl)) (hd : (x == ("__debug__" : Str)) = false := by decide)
    (hcd : (x == ("__classdict__" : Str)) = false := by decide) (hb : behindInMarks .NotIn (.Name x p) = false := by rfl) : DT X Z E Wx (.Compare a [.NotIn] [.Name x p] pos) (tV (eDNin i fa)) := by
  refine PT.imp (pt_cmp (pc_dnotin hu hk (pe_var hN hv hd hcd)) hb) fun σ H Q h => tB_of h fun Q' q => ?_
  obtain ⟨Hf, g, sl, r, q⟩ := q
  refine ⟨Hf, g, sl, r, (go_bind (Rm := RlD X.K) q).mono fun y H1 ⟨Hf1, g1, kd, b1, d1, q1⟩ => ?_⟩
  obtain ⟨b, kvs, h1, h2, q2⟩ := mK_go (r.step b1) q1
  obtain ⟨d, ed, k⟩ := go_lift q2
  obtain ⟨ky, e1, rfl⟩ := Option.map_eq_some_iff.mp ed
  obtain rfl := keyD_v e1 d1
  obtain ⟨vs, rd, kv⟩ := (r.step b1).dk h2 h1
  refine ⟨_, h1, b, valV vs (toKey ky), rfl, .inl ⟨vs, _, rd, rfl, rfl⟩, ?_⟩
  rcases pv_get toKey_inj ky kv with ⟨n1, n2⟩ | ⟨d', v, n1, n2, n3⟩
  · rw [n1] at k
    rw [n2]
    exact k _ _ _ b1.self (.bl _)
  · rw [n1] at k
    rw [n2]
    exact k _ _ _ b1.self (.bl _)
theorem de_dget2 (hu : X.A.units + 1 < cLine) (ha : DE X Z E Wx a fa) (hb : DE X Z E Wx b fb) (hN : X.N[i]? = some x := by rfl) (hv : Vis X.env.scope x := by first | exact Or.inl rfl | exact Or.inr (Or.inl rfl) | exact Or.inr (Or.inr rfl)) (hd : (x == ("__debug__" : Str)) = false := by decide)
    (hcd : (x == ("__classdict__" : Str)) = false := by decide) (m : M2 X (.Name x p) "get" ap a b cp := by exact ⟨rfl, rfl, rfl, rfl⟩) : DE X Z E Wx (.Call (.Attribute (.Name x p) "get" ap) [a, b] [] cp) (eDGet2 i fa fb) := by
  refine PE.imp (pe_dget2 hu (pe_var hN hv hd hcd) ha hb m) fun σ H Q ⟨Hf, g, sl, r, q⟩ => ?_
  obtain ⟨b, kvs, h1, h2, q1⟩ := mK_go r q
  obtain ⟨vs0, rd0, _⟩ := r.dk h2 h1
  refine ⟨_, h1, b, rfl, .inl ⟨vs0, rd0⟩, Hf, g, sl, r, (go_bind (Rm := RlD X.K) q1).mono fun y H1 ⟨Hf1, g1, kd, b1, d1, q2⟩ => ⟨Hf1, g1, sl, r.step b1, (go_bind (Rm := RlD X.K) q2).mono fun z H2 ⟨Hf2, g2, dd, b2, d2, q3⟩ => ?_⟩⟩
  obtain ⟨d, ed, k⟩ := go_lift q3
  obtain ⟨ky, e1, rfl⟩ := Option.map_eq_some_iff.mp ed
  obtain rfl := keyD_v e1 d1
  obtain ⟨vs, rd, kv⟩ := ((r.step b1).step b2).dk h2 h1
  refine ⟨valV vs (toKey ky), .inl ⟨vs, _, rd, rfl, rfl⟩, ?_⟩
  rcases pv_get toKey_inj ky kv with ⟨n1, n2⟩ | ⟨d', v, n1, n2, n3⟩
  · rw [n1] at k
    rw [n2]
    exact k _ _ _ b2.self d2
  · rw [n1] at k
    rw [n2]
    exact k _ _ _ b2.self n3
theorem ds_kput {ps : Pos} (hu : X.A.units + 1 < cLine) (hk : DE X Z E Wx a fa) (he : DE X Z E Wx e fe) (hN : X.N[i]? = some x := by rfl) (hv : Vis X.env.scope x := by first | exact Or.inl rfl | exact Or.inr (Or.inl rfl) | exact Or.inr (Or.inr rfl)) (hd : (x == ("__debug__" : Str)) = false := by decide)
    (hcd : (x == ("__classdict__" : Str)) = false := by decide) (hs : swapsWith e (some (.Subscript (.Name x p) a ps)) pos.line X.env = pure false := by rfl) :
    DS X Z E Wx (.Assign [.Subscript (.Name x p) a ps] e pos) (sKPut i fa fe) := by
  refine PS.imp (ps_dput hu (pe_var hN hv hd hcd) hk he hs) fun D σ H ⟨Hf, g, sl, r, q⟩ => ?_
  obtain ⟨xs, hi, q⟩ := goS_ownK q
  refine ⟨Hf, g, sl, r, (goS_do (Rl := RlD X.K) r q).mono fun v H1 ⟨Hf1, g1, d, b1, r1, d1, q1⟩ => ?_⟩
  obtain ⟨v0, h1, l, vs, rfl, hH, dv, hown⟩ := r1.slot i _ hi
  refine ⟨_, h1, Hf1, g1, sl, r1, (goS_do (Rl := RlD X.K) r1 q1).mono fun kv H2 ⟨Hf2, g2, kd, b2, r2, d2, q2⟩ => ?_⟩
  unfold sMutK at q2
  rw [hi] at q2
  simp only at q2
  match ek : keyD kd with
  | none => rw [ek] at q2; exact q2.elim
  | some ky =>
    rw [ek] at q2
    simp only [Option.bind_some] at q2
    obtain rfl := keyD_v ek d2
    obtain ⟨v2, h12, l2, vs2, e2, hH2, kv2, own2⟩ := r2.slot i _ hi
    rw [h1] at h12
    cases h12
    cases e2
    split at q2
    · rename_i ys hy
      split at hy
      · rename_i hlen
        cases hy
        have kv' := pv_put toKey_inj ky (Dv.mono b2.ff _ d1) kv2
        exact ⟨l, _, rfl, DPut.k hH2 (by rw [pv_len kv2]; exact lim_lt (Nat.le_of_lt hlen)), q2 σ _ Hf2 (same_refl _) (r2.updAny hi rfl rfl h1 own2 ⟨l, _, rfl, upd_same, kv', own2⟩)⟩
      · cases hy
    · exact q2.elim
/-! the def -/
abbrev DSsK (X : Cx) (Z : Cn) (E : Ent Z.W) (Wx : WX) (i : Nat) (st : List Stmt) (f : SM Z.W.G) : Prop := PSs X st (tSK Z X.K E Wx i f)
theorem goSK_seq {K : PySem.W.Frag} {Hf : Hp} {sl : SL} {g : Z.W.G} {f1 f2 : SM Z.W.G} {D : Ends} (h : goSK Z K E Wx i Hf (sSeq f1 f2 sl g) D) : goS Z K E Wx Hf (f1 sl g) { D with nx := tSK Z K E Wx i f2 D } := by
  unfold sSeq at h
  match e : f1 sl g with
  | none => rw [e] at h; exact h.elim
  | some (.nx, sl1, g1) =>
    rw [e] at h
    intro σ' H' Hf' s r
    refine ⟨Hf', g1, sl1, r, ?_⟩
    simp only at h
    match e2 : f2 sl1 g1 with
    | none => rw [e2] at h; exact h.elim
    | some (.nx, sl2, g2) =>
      rw [e2] at h
      obtain ⟨kvs, h1, h2⟩ := h
      exact ⟨kvs, h1, fun σ2 H2 Hf2 a s2 => h2 σ2 H2 Hf2 a (Same.tr s s2)⟩
    | some (.bk, sl2, g2) => rw [e2] at h; exact h.elim
    | some (.ct, sl2, g2) => rw [e2] at h; exact h.elim
    | some (.rt d, sl2, g2) => rw [e2] at h; exact h.elim
    | some (.ex d, sl2, g2) => rw [e2] at h; exact h
  | some (.bk, sl1, g1) => rw [e] at h; exact h.elim
  | some (.ct, sl1, g1) => rw [e] at h; exact h.elim
  | some (.rt d, sl1, g1) => rw [e] at h; exact h.elim
  | some (.ex d, sl1, g1) => rw [e] at h; exact h
theorem dssK_cons (h1 : DS X Z E Wx st fs) (h2 : DSsK X Z E Wx i sts fs') : DSsK X Z E Wx i (st :: sts) (sSeq fs fs') :=
  PSs.imp (pss_cons h1 h2) fun D σ H ⟨Hf, g, sl, r, q⟩ => ⟨Hf, g, sl, r, goSK_seq q⟩
theorem dssK_ret (hN : X.N[i]? = some x := by rfl) (hv : Vis X.env.scope x := by first | exact Or.inl rfl | exact Or.inr (Or.inl rfl) | exact Or.inr (Or.inr rfl)) (hd : (x == ("__debug__" : Str)) = false := by decide)
    (hcd : (x == ("__classdict__" : Str)) = false := by decide) : DSsK X Z E Wx i [.Return (some (.Name x p)) pos] sSkip := by
  refine PSs.imp (pss_one (ps_ret (pe_var hN hv hd hcd))) fun D σ H ⟨Hf, g, sl, r, q⟩ => ?_
  obtain ⟨kvs, h1, h2⟩ := q
  obtain ⟨v, h3, a, vs, rfl, _⟩ := r.slot i _ h1
  exact ⟨_, h3, h2 σ H Hf a (same_refl _) r h3⟩
theorem fn_okK {P : Program} {w : World} {K : PySem.W.Frag} {mg : Str → Option Value} {base : Heap} {x qual : Str} {st : Stmt} {f : Addr} {fd : FuncData} {N ps : List Str} {k i : Nat} {fs : SM Z.W.G} (F : Fun K x qual st f fd) (S : FnScope N ps (defScope st)) (hl : ps.length ≤ N.length)
    (body : ∀ (cdv : Value) (A : Around) (outer : List Env) (s : Shared) (H : Hp) (E : Ent Z.W) (Ex : XK), Room k (A.deeper (PyProof.Rows.envOfC qual (defScope st) s.heap.objs.size f cdv)) →
      DSsK (cxOf (L2.CX P w) P w K mg base N qual (defScope st) f cdv A outer s H Ex) Z E (fun cls d _ H => Ex cls d H) i (defBody st) fs) :
    FnOk P w K mg base (L2.CX P w) (k + 1) f fd ps (spFK Z K ps.length (fnKD N.length i fs)) := by
  refine F.okX S (fun vs H Q E h => h.1) fun cdv A outer s H vs Q Ex hr ⟨hv, Hf, g, ds, B, dv, q⟩ => ⟨_, body cdv A outer s H ⟨H, Hf, g⟩ Ex hr, Hf, g, _, start_R (P := P) B dv (by rw [← dv.len, hv]; exact hl), ?_⟩
  unfold fnKD at q
  match em : fs (ds.map (fun d => some (.d d)) ++ List.replicate (N.length - ds.length) none) g with
  | none => rw [em] at q; exact q.elim
  | some (.nx, sl', g') =>
    rw [em] at q ⊢
    simp only at q
    split at q
    · rename_i kvs hk
      refine ⟨kvs, hk, fun σ' H' Hf' a _ r ha => ?_⟩
      obtain ⟨v, h3, a', vs', rfl, h4, h5, h6⟩ := r.slot i _ hk
      rw [ha] at h3
      cases h3
      exact q _ H' Hf' r.base ⟨a, vs', rfl, h6.1, h4, h5, h6.2.1, h6.2.2⟩
    · exact q.elim
  | some (.bk, sl', g') => rw [em] at q; exact q.elim
  | some (.ct, sl', g') => rw [em] at q; exact q.elim
  | some (.rt d, sl', g') => rw [em] at q; exact q.elim
  | some (.ex c, sl', g') => rw [em] at q ⊢; exact fun σ' H' Hf' r => q H' Hf' r.base
theorem dx_callK {k n : Nat} {f : Addr} {fd : FuncData} {ps : List Str} {es : List Expr} {fs : M Z.W.G (List D)} {F : FnS Z.W.G} (G : FnOk X.prog X.w X.K X.mg X.base (L2.CX X.prog X.w) k f fd ps (spFK Z X.K n F)) (hr : Room k X.A) (hg : Gl X x) (hm : X.mg x = some (.ref f)) (hk : PySem.W.keepIn X.K (.ref f) = true) (hb : Binds X.K fd ps [])
    (tk : Takes X Wx) (hn : (e :: es).length = n) (ha : DA X Z E Wx (e :: es) fs) (hl : ∀ sl g ds g', fs sl g = some (.ok ds, g') → ds.length = n) (hdb : (x == ("__debug__" : Str)) = false := by decide) (he : starEach (e :: es) X.env = (false, eval e X.env) :: starEach es X.env := by rfl) (hpl : (backTo pos (starEach es X.env)).any (·.1) = false := by rfl) :
    DX X Z E Wx (.Call (.Name x p) (e :: es) [] pos) (xCallK F fs) := by
  refine PE.imp (pe_callS G hr hg hm hk hb (fun σ => passAt tk σ) ha hdb he hpl) fun σ H Q ⟨Hf, g, sl, r, q⟩ => ?_
  refine ⟨Hf, g, sl, r, ?_⟩
  unfold xCallK M.bind at q
  match eq : fs sl g with
  | none => rw [eq] at q; exact q
  | some (.exc c, g1) => rw [eq] at q; exact q
  | some (.ok ds, g1) =>
    rw [eq] at q
    intro vs H1 Hf1 b1 d1
    refine ⟨by rw [d1.len]; exact hl sl g ds g1 eq, Hf1, g1, ds, b1.self, d1, ?_⟩
    simp only at q
    match eF : F ds g1 with
    | none => rw [eF] at q; exact q.elim
    | some (.exc c, g2) =>
      rw [eF] at q
      exact fun H' Hf' b' => q H' Hf' (b1.trans b')
    | some (.ok kvs, g2) =>
      rw [eF] at q
      intro v H' Hf' b' ⟨a', vs', ev, n0, n1, n2, n3, n4⟩
      subst ev
      have hH : H a' = none := by
        cases e0 : H a' with
        | none => rfl
        | some o => exact absurd n0 (b1.there a' (by rw [e0]; simp))
      have hE : E.H a' = none := by
        cases e0 : E.H a' with
        | none => rfl
        | some o => exact absurd hH (r.base.there a' (by rw [e0]; simp))
      exact q _ H' Hf' (b1.trans b') ⟨⟨a', vs', rfl, n1, n2, hE, n3, n4⟩, fun _ a ea => by cases ea; exact hH⟩
end
end DL
namespace DL
open PySem L2
/-! ### reckoning with the denotations, from the head on -/
section
variable {G α β : Type}
def bindK (m : Out G α) (k : α → M G β) (sl : SL) : Out G β := match m with
  | none => none
  | some (.exc c, g1) => some (.exc c, g1)
  | some (.ok a, g1) => k a sl g1
def liftK (o : Option α) (g : G) : Out G α := match o with
  | some a => some (.ok a, g)
  | none => none
def slotK (x : Option (Option Slot)) (g : G) : Out G D := match x with
  | some (some (.d x)) => some (.ok x, g)
  | _ => none
def slotR (x : Option (Option Slot)) (g : G) : Out G D := match x with
  | some (some (.d x)) => some (.ok x, g)
  | some (some (.oL xs)) => some (.ok (.lst xs), g)
  | _ => none
def seqK (m : Option (Fl × SL × G)) (f2 : SM G) : Option (Fl × SL × G) := match m with
  | some (.nx, sl1, g1) => f2 sl1 g1
  | r => r
def doK (m : Out G α) (k : α → SM G) (sl : SL) : Option (Fl × SL × G) := match m with
  | none => none
  | some (.exc c, g1) => some (.ex c, sl, g1)
  | some (.ok a, g1) => k a sl g1
def ifK (m : Out G Bool) (a b : SM G) (sl : SL) : Option (Fl × SL × G) := match m with
  | none => none
  | some (.exc c, g1) => some (.ex c, sl, g1)
  | some (.ok k, g1) => if k = true then a sl g1 else b sl g1
def itK (m : Out G Bool) (a b : M G α) (sl : SL) : Out G α := match m with
  | none => none
  | some (.exc c, g1) => some (.exc c, g1)
  | some (.ok k, g1) => if k = true then a sl g1 else b sl g1
def callK (m : Out G (List D)) (F : Fn G) : Out G D := match m with
  | none => none
  | some (.exc c, g1) => some (.exc c, g1)
  | some (.ok ds, g1) => F ds g1
def fnK (m : Option (Fl × SL × G)) : Out G D := match m with
  | some (.rt d, _, g') => some (.ok d, g')
  | some (.nx, _, g') => some (.ok .non, g')
  | some (.ex c, _, g') => some (.exc c, g')
  | _ => none
def asK (o : Option Bool) (a b : M G D) (sl : SL) (g : G) : Out G D := match o with
  | some c => if c = true then a sl g else b sl g
  | none => none
@[simp] theorem bind_ap {f : M G α} {k : α → M G β} {sl : SL} {g : G} : M.bind f k sl g = bindK (f sl g) k sl := rfl
@[simp] theorem bindK_ok {a : α} {g : G} {k : α → M G β} {sl : SL} : bindK (some (.ok a, g)) k sl = k a sl g := rfl
@[simp] theorem bindK_none {k : α → M G β} {sl : SL} : bindK (none : Out G α) k sl = none := rfl
@[simp] theorem pure_ap {a : α} {sl : SL} {g : G} : M.pure a sl g = some (.ok a, g) := rfl
@[simp] theorem lift_ap {o : Option α} {sl : SL} {g : G} : M.lift o sl g = liftK o g := rfl
@[simp] theorem liftK_some {a : α} {g : G} : liftK (some a) g = some (.ok a, g) := rfl
@[simp] theorem liftK_none {g : G} : liftK (none : Option α) g = none := rfl
@[simp] theorem eV_ap {i : Nat} {sl : SL} {g : G} : eV i sl g = slotK sl[i]? g := rfl
@[simp] theorem eR_ap {i : Nat} {sl : SL} {g : G} : eR i sl g = slotR sl[i]? g := rfl
@[simp] theorem slotK_d {x : D} {g : G} : slotK (some (some (.d x))) g = some (.ok x, g) := rfl
@[simp] theorem slotR_d {x : D} {g : G} : slotR (some (some (.d x))) g = some (.ok x, g) := rfl
@[simp] theorem slotR_l {x : List D} {g : G} : slotR (some (some (.oL x))) g = some (.ok (.lst x), g) := rfl
@[simp] theorem eC_ap {d : D} {sl : SL} {g : G} : eC d sl g = some (.ok d, g) := rfl
@[simp] theorem e1_ap {op : D → Option D} {a : M G D} {sl : SL} {g : G} : e1 op a sl g = bindK (a sl g) (fun x => M.lift (op x)) sl := rfl
@[simp] theorem e2_ap {op : D → D → Option D} {a b : M G D} {sl : SL} {g : G} : e2 op a b sl g = bindK (a sl g) (fun x => M.bind b fun y => M.lift (op x y)) sl := rfl
@[simp] theorem e3_ap {op op' : D → D → Option D} {a b c : M G D} {sl : SL} {g : G} : e3 op op' a b c sl g = bindK (a sl g) (fun x => M.bind b fun y => M.bind (M.lift (op x y)) fun z => M.bind (M.lift (asB z)) fun k => fun sl g => itK (some (.ok k, g)) (M.bind c fun w => M.lift (op' y w)) (M.pure (.bl false)) sl) sl := by
  unfold e3
  rw [bind_ap]
  congr 1
  funext x
  congr 1
  funext y
  congr 1
  funext z
  congr 1
  funext k
  funext sl g
  show _ = if k = true then _ else _
  split <;> rfl
@[simp] theorem tV_ap {a : M G D} {sl : SL} {g : G} : tV a sl g = bindK (a sl g) (fun x => M.lift (asB x)) sl := rfl
@[simp] theorem itK_ok {k : Bool} {g : G} {a b : M G α} {sl : SL} : itK (some (.ok k, g)) a b sl = if k = true then a sl g else b sl g := rfl
@[simp] theorem tAnd_ap {a b : M G Bool} {sl : SL} {g : G} : tAndM a b sl g = itK (a sl g) b (M.pure false) sl := by
  unfold tAndM M.bind itK
  match a sl g with
  | none => rfl
  | some (.exc c, g1) => rfl
  | some (.ok true, g1) => rfl
  | some (.ok false, g1) => rfl
@[simp] theorem tOr_ap {a b : M G Bool} {sl : SL} {g : G} : tOrM a b sl g = itK (a sl g) (M.pure true) b sl := by
  unfold tOrM M.bind itK
  match a sl g with
  | none => rfl
  | some (.exc c, g1) => rfl
  | some (.ok true, g1) => rfl
  | some (.ok false, g1) => rfl
@[simp] theorem tNot_ap {a : M G Bool} {sl : SL} {g : G} : tNotM a sl g = bindK (a sl g) (fun c => M.pure (!c)) sl := rfl
@[simp] theorem tYes_ap {sl : SL} {g : G} : tYesM sl g = some (.ok true, g) := rfl
@[simp] theorem eAnd_ap {a b : M G D} {sl : SL} {g : G} : eAndM a b sl g = bindK (a sl g) (fun x => M.bind (M.lift (asB x)) fun k => fun sl g => itK (some (.ok k, g)) b (M.pure (.bl false)) sl) sl := by
  unfold eAndM
  rw [bind_ap]
  congr 1
  funext x
  congr 1
  funext k
  funext sl g
  show _ = if k = true then _ else _
  split <;> rfl
@[simp] theorem eOr_ap {a b : M G D} {sl : SL} {g : G} : eOrM a b sl g = bindK (a sl g) (fun x => M.bind (M.lift (asB x)) fun k => fun sl g => itK (some (.ok k, g)) (M.pure (.bl true)) b sl) sl := by
  unfold eOrM
  rw [bind_ap]
  congr 1
  funext x
  congr 1
  funext k
  funext sl g
  show _ = if k = true then _ else _
  split <;> rfl
@[simp] theorem eNot_ap {a : M G D} {sl : SL} {g : G} : eNotM a sl g = bindK (a sl g) (fun x => M.bind (M.lift (asB x)) fun c => M.pure (.bl (!c))) sl := rfl
@[simp] theorem eIf_ap {c : M G Bool} {a b : M G D} {sl : SL} {g : G} : eIfM c a b sl g = itK (c sl g) a b sl := by
  unfold eIfM M.bind itK
  match c sl g with
  | none => rfl
  | some (.exc c, g1) => rfl
  | some (.ok true, g1) => rfl
  | some (.ok false, g1) => rfl
@[simp] theorem asB_bl {b : Bool} : asB (.bl b) = some b := rfl
@[simp] theorem aNil_ap {sl : SL} {g : G} : aNil sl g = some (.ok [], g) := rfl
@[simp] theorem aCons_ap {a : M G D} {b : M G (List D)} {sl : SL} {g : G} : aCons a b sl g = bindK (a sl g) (fun x => M.bind b fun xs => M.pure (x :: xs)) sl := rfl
@[simp] theorem eTup_ap {a : M G (List D)} {sl : SL} {g : G} : eTup a sl g = bindK (a sl g) (fun xs => M.lift (if xs.length ≤ LIM then some (.tup xs) else none)) sl := rfl
@[simp] theorem eLst_ap {a : M G (List D)} {sl : SL} {g : G} : eLst a sl g = bindK (a sl g) (fun xs => M.lift (if xs.length ≤ LIM then some (.lst xs) else none)) sl := rfl
@[simp] theorem eSl_ap {a : M G D} {l h : M G (Option Int)} {sl : SL} {g : G} : eSl a l h sl g = bindK (a sl g) (fun x => M.bind l fun l => M.bind h fun h => M.lift (slD x l h)) sl := rfl
@[simp] theorem oN_ap {sl : SL} {g : G} : oN sl g = some (.ok none, g) := rfl
@[simp] theorem call_ap {F : Fn G} {fs : M G (List D)} {sl : SL} {g : G} : callM F fs sl g = callK (fs sl g) F := by
  unfold callM M.bind callK
  match fs sl g with
  | none => rfl
  | some (.exc c, g1) => rfl
  | some (.ok ds, g1) => rfl
@[simp] theorem callK_ok {F : Fn G} {ds : List D} {g : G} : callK (some (.ok ds, g)) F = F ds g := Eq.trans rfl rfl
@[simp] theorem seq_ap {f1 f2 : SM G} {sl : SL} {g : G} : sSeq f1 f2 sl g = seqK (f1 sl g) f2 := rfl
@[simp] theorem seqK_nx {f2 : SM G} {sl : SL} {g : G} : seqK (some (.nx, sl, g)) f2 = f2 sl g := rfl
@[simp] theorem seqK_rt {f2 : SM G} {sl : SL} {g : G} {d : D} : seqK (some (.rt d, sl, g)) f2 = some (.rt d, sl, g) := rfl
@[simp] theorem skip_ap {sl : SL} {g : G} : sSkip sl g = some (.nx, sl, g) := rfl
@[simp] theorem do_ap {f : M G α} {k : α → SM G} {sl : SL} {g : G} : sDo f k sl g = doK (f sl g) k sl := rfl
@[simp] theorem doK_ok {a : α} {k : α → SM G} {sl : SL} {g : G} : doK (some (.ok a, g)) k sl = k a sl g := rfl
@[simp] theorem set_ap {i : Nat} {x : Slot} {sl : SL} {g : G} : sSet i x sl g = some (.nx, sl.set i (some x), g) := rfl
@[simp] theorem asg_ap {i : Nat} {f : M G Slot} {sl : SL} {g : G} : sAsg i f sl g = doK (f sl g) (fun x => sSet i x) sl := rfl
@[simp] theorem xD_ap {f : M G D} {sl : SL} {g : G} : xD f sl g = bindK (f sl g) (fun d => M.pure (.d d)) sl := rfl
@[simp] theorem xL_ap {f : M G D} {sl : SL} {g : G} : xL f sl g = bindK (f sl g) (fun d => M.bind (M.lift (asL d)) fun xs => M.pure (.oL xs)) sl := rfl
@[simp] theorem asL_l {xs : List D} : asL (.lst xs) = some xs := rfl
@[simp] theorem par_ap {i j : Nat} {f h : M G Slot} {sl : SL} {g : G} : sPar i j f h sl g = doK (f sl g) (fun x => sDo h fun y => sSeq (sSet i x) (sSet j y)) sl := rfl
@[simp] theorem par3_ap {i j l : Nat} {f h m : M G Slot} {sl : SL} {g : G} : sPar3 i j l f h m sl g = doK (f sl g) (fun x => sDo h fun y => sDo m fun z => sSeq (sSet i x) (sSeq (sSet j y) (sSet l z))) sl := rfl
@[simp] theorem drop_ap {f : M G D} {sl : SL} {g : G} : sDrop f sl g = doK (f sl g) (fun _ => sSkip) sl := rfl
@[simp] theorem ret_ap {f : M G D} {sl : SL} {g : G} : sRet f sl g = doK (f sl g) (fun d => fun sl g => some (.rt d, sl, g)) sl := rfl
@[simp] theorem retN_ap {sl : SL} {g : G} : sRetN sl g = some (.rt .non, sl, g) := rfl
@[simp] theorem if_ap {c : M G Bool} {a b : SM G} {sl : SL} {g : G} : sIf c a b sl g = ifK (c sl g) a b sl := by
  unfold sIf sDo ifK
  match c sl g with
  | none => rfl
  | some (.exc c, g1) => rfl
  | some (.ok true, g1) => rfl
  | some (.ok false, g1) => rfl
@[simp] theorem ifK_ok {k : Bool} {g : G} {a b : SM G} {sl : SL} : ifK (some (.ok k, g)) a b sl = if k = true then a sl g else b sl g := rfl
@[simp] theorem for_ap {it : M G (List D)} {tg : Tg} {vs : List Nat} {b : SM G} {sl : SL} {g : G} : sFor it tg vs b sl g = doK (it sl g) (fun ds => forL tg b vs ds) sl := rfl
@[simp] theorem frz_ap {i : Nat} {f : SM G} {sl : SL} {g : G} : sFrz i f sl g = f (frz1 i sl) g := rfl
@[simp] theorem fn_ap {m : Nat} {fs : SM G} {ds : List D} {g : G} : fnD m fs ds g = fnK (fs (ds.map (fun d => some (.d d)) ++ List.replicate (m - ds.length) none) g) := rfl
@[simp] theorem fnK_rt {d : D} {sl : SL} {g : G} : fnK (some (.rt d, sl, g)) = some (.ok d, g) := rfl
@[simp] theorem fnK_nx {sl : SL} {g : G} : fnK (some (.nx, sl, g)) = some (.ok .non, g) := rfl
theorem sApp_ap {i : Nat} {fe : M G D} {sl : SL} {g : G} {xs : List D} (h : sl[i]? = some (some (.oL xs))) : sApp i fe sl g = doK (fe sl g) (fun d => sMutL i fun xs => if xs.length < LIM then some (xs ++ [d]) else none) sl := by
  unfold sApp sOwnL
  rw [h]
  rfl
theorem mutL_ap {i : Nat} {h : List D → Option (List D)} {sl : SL} {g : G} {xs ys : List D} (e : sl[i]? = some (some (.oL xs))) (e2 : h xs = some ys) : sMutL i h sl g = some (.nx, sl.set i (some (.oL ys)), g) := by
  unfold sMutL
  rw [e]
  simp only [e2]
theorem comp_ap {it : M G (List D)} {vs : List Nat} {tg : Tg} {cnd : M G Bool} {elt : M G D} {sl : SL} {g : G} : eComp it vs tg cnd elt sl g = bindK (it sl g) (fun ds => fun sl g => match compL tg cnd elt ds (wipeS sl vs) g with
  | some (.ok xs, g') => if xs.length ≤ LIM then some (.ok (.lst xs), g') else none
  | _ => none) sl := rfl
/-- a comprehension whose parts only tell -/
theorem compL_pure {tg : Tg} {cnd : M G Bool} {elt : M G D} {sl : SL} {g : G} (p : D → Bool) (h : D → D) : ∀ (ds : List D), (∀ d ∈ ds, ∃ sl1, tg d sl = some sl1 ∧ cnd sl1 g = some (.ok (p d), g) ∧ (p d = true → elt sl1 g = some (.ok (h d), g))) →
    compL tg cnd elt ds sl g = some (.ok ((ds.filter p).map h), g)
  | [], _ => rfl
  | d :: ds, H => by
    obtain ⟨sl1, e1, e2, e3⟩ := H d (by simp)
    have ih := compL_pure p h ds fun d' hd' => H d' (by simp [hd'])
    unfold compL
    rw [e1]
    simp only [e2]
    cases hp : p d with
    | true => simp only [e3 hp, ih, List.filter_cons, hp, if_true, List.map_cons]
    | false => simp only [ih, List.filter_cons, hp]; rfl
/-- a loop that only changes what mk tells -/
theorem forL_acc {A : Type} {tg : Tg} {b : SM G} {vs : List Nat} {g : G} (mk : A → SL) (step : A → D → A) (Inv : A → Prop) : ∀ (ds : List D) (a : A), Inv a →
    (∀ a d, d ∈ ds → Inv a → Inv (step a d) ∧ ∃ sl1 sl2, tg d (mk a) = some sl1 ∧ b sl1 g = some (.nx, sl2, g) ∧ wipeS sl2 vs = mk (step a d)) →
    forL tg b vs ds (mk a) g = some (.nx, mk (ds.foldl step a), g) ∧ Inv (ds.foldl step a)
  | [], a, ia, _ => ⟨rfl, ia⟩
  | d :: ds, a, ia, H => by
    obtain ⟨ia', sl1, sl2, e1, e2, e3⟩ := H a d (by simp) ia
    have ih := forL_acc mk step Inv ds (step a d) ia' fun a' d' hd' => H a' d' (by simp [hd'])
    refine ⟨?_, ih.2⟩
    unfold forL
    rw [e1]
    simp only [e2, e3]
    exact ih.1
/-- a loop that is only to be left alive -/
theorem forL_inv {tg : Tg} {b : SM G} {vs : List Nat} (Inv : SL → G → Prop) : ∀ (ds : List D) (sl : SL) (g : G), Inv sl g →
    (∀ d sl g, d ∈ ds → Inv sl g → ∃ sl1 sl2 g2, tg d sl = some sl1 ∧ b sl1 g = some (.nx, sl2, g2) ∧ Inv (wipeS sl2 vs) g2) →
    ∃ sl' g', forL tg b vs ds sl g = some (.nx, sl', g') ∧ Inv sl' g'
  | [], sl, g, i, _ => ⟨sl, g, rfl, i⟩
  | d :: ds, sl, g, i, H => by
    obtain ⟨sl1, sl2, g2, e1, e2, i2⟩ := H d sl g (by simp) i
    obtain ⟨sl', g', e3, i3⟩ := forL_inv Inv ds (wipeS sl2 vs) g2 i2 fun d' sl g hd' => H d' sl g (by simp [hd'])
    refine ⟨sl', g', ?_, i3⟩
    unfold forL
    rw [e1]
    simp only [e2]
    exact e3
end
end DL
namespace Lw
open PySem L2 DL
def top (i : Nat) : Stmt := PySem.Challenge.pw_stampedrows_k08_fewest.main.body.getD i (.Pass ⟨0, 0, 0, 0⟩)
abbrev s__law_begun : Stmt := top 28
abbrev s__law_levels : Stmt := top 31
abbrev s__law_draw : Stmt := top 27
abbrev s__law_word : Stmt := top 29
abbrev s__law_words : Stmt := top 30
abbrev s_is_string_of : Stmt := top 7
abbrev s_are_words : Stmt := top 8
abbrev s_check_words : Stmt := top 10
abbrev s_is_row : Stmt := top 9
abbrev s_check_row : Stmt := top 16
abbrev s_stamps_on : Stmt := top 17
abbrev s_boxes_of : Stmt := top 13
abbrev s_freed_by : Stmt := top 18
abbrev s_found_way : Stmt := top 23
abbrev s_way : Stmt := top 25
abbrev s_freed_in : Stmt := top 19
abbrev s_is_stamped : Stmt := top 20
abbrev s_can_stamp : Stmt := top 21
abbrev s_fewest_stamps : Stmt := top 24
abbrev s_is_between : Stmt := top 6
abbrev s_is_stamp : Stmt := top 11
abbrev s_are_stamps_on : Stmt := top 12
abbrev s_seen_after : Stmt := top 14
abbrev s_is_way : Stmt := top 22
abbrev s_law : Stmt := top 32
structure Txt (K : PySem.W.Frag) (mg : Str → Option Value) : Type where
  f__law_begun : Addr
  fd__law_begun : FuncData
  d__law_begun : DefAt K mg "_law_begun" s__law_begun f__law_begun fd__law_begun
  b__law_begun : Binds K fd__law_begun [] []
  f__law_levels : Addr
  fd__law_levels : FuncData
  d__law_levels : DefAt K mg "_law_levels" s__law_levels f__law_levels fd__law_levels
  b__law_levels : Binds K fd__law_levels ["words_of", "many"] []
  f__law_draw : Addr
  fd__law_draw : FuncData
  d__law_draw : DefAt K mg "_law_draw" s__law_draw f__law_draw fd__law_draw
  b__law_draw : Binds K fd__law_draw ["script", "town", "many"] []
  f__law_word : Addr
  fd__law_word : FuncData
  d__law_word : DefAt K mg "_law_word" s__law_word f__law_word fd__law_word
  b__law_word : Binds K fd__law_word ["script", "town", "most", "letters"] []
  f__law_words : Addr
  fd__law_words : FuncData
  d__law_words : DefAt K mg "_law_words" s__law_words f__law_words fd__law_words
  b__law_words : Binds K fd__law_words ["script", "town", "most", "letters"] []
  f_is_string_of : Addr
  fd_is_string_of : FuncData
  d_is_string_of : DefAt K mg "is_string_of" s_is_string_of f_is_string_of fd_is_string_of
  b_is_string_of : Binds K fd_is_string_of ["value", "most"] []
  f_are_words : Addr
  fd_are_words : FuncData
  d_are_words : DefAt K mg "are_words" s_are_words f_are_words fd_are_words
  b_are_words : Binds K fd_are_words ["value"] []
  f_check_words : Addr
  fd_check_words : FuncData
  d_check_words : DefAt K mg "check_words" s_check_words f_check_words fd_check_words
  b_check_words : Binds K fd_check_words ["words"] []
  f_is_row : Addr
  fd_is_row : FuncData
  d_is_row : DefAt K mg "is_row" s_is_row f_is_row fd_is_row
  b_is_row : Binds K fd_is_row ["value"] []
  f_check_row : Addr
  fd_check_row : FuncData
  d_check_row : DefAt K mg "check_row" s_check_row f_check_row fd_check_row
  b_check_row : Binds K fd_check_row ["words", "row"] []
  f_stamps_on : Addr
  fd_stamps_on : FuncData
  d_stamps_on : DefAt K mg "stamps_on" s_stamps_on f_stamps_on fd_stamps_on
  b_stamps_on : Binds K fd_stamps_on ["words", "low", "high"] []
  f_boxes_of : Addr
  fd_boxes_of : FuncData
  d_boxes_of : DefAt K mg "boxes_of" s_boxes_of f_boxes_of fd_boxes_of
  b_boxes_of : Binds K fd_boxes_of ["words", "stamp"] []
  f_freed_by : Addr
  fd_freed_by : FuncData
  d_freed_by : DefAt K mg "freed_by" s_freed_by f_freed_by fd_freed_by
  b_freed_by : Binds K fd_freed_by ["words", "row", "free", "stamp"] []
  f_found_way : Addr
  fd_found_way : FuncData
  d_found_way : DefAt K mg "found_way" s_found_way f_found_way fd_found_way
  b_found_way : Binds K fd_found_way ["words", "row"] []
  f_way : Addr
  fd_way : FuncData
  d_way : DefAt K mg "way" s_way f_way fd_way
  b_way : Binds K fd_way ["words", "row"] []
  f_freed_in : Addr
  fd_freed_in : FuncData
  d_freed_in : DefAt K mg "freed_in" s_freed_in f_freed_in fd_freed_in
  b_freed_in : Binds K fd_freed_in ["words", "row", "over"] []
  f_is_stamped : Addr
  fd_is_stamped : FuncData
  d_is_stamped : DefAt K mg "is_stamped" s_is_stamped f_is_stamped fd_is_stamped
  b_is_stamped : Binds K fd_is_stamped ["words", "row"] []
  f_can_stamp : Addr
  fd_can_stamp : FuncData
  d_can_stamp : DefAt K mg "can_stamp" s_can_stamp f_can_stamp fd_can_stamp
  b_can_stamp : Binds K fd_can_stamp ["words", "row"] []
  f_fewest_stamps : Addr
  fd_fewest_stamps : FuncData
  d_fewest_stamps : DefAt K mg "fewest_stamps" s_fewest_stamps f_fewest_stamps fd_fewest_stamps
  b_fewest_stamps : Binds K fd_fewest_stamps ["words", "row"] []
  f_is_between : Addr
  fd_is_between : FuncData
  d_is_between : DefAt K mg "is_between" s_is_between f_is_between fd_is_between
  b_is_between : Binds K fd_is_between ["value", "low", "high"] []
  f_is_stamp : Addr
  fd_is_stamp : FuncData
  d_is_stamp : DefAt K mg "is_stamp" s_is_stamp f_is_stamp fd_is_stamp
  b_is_stamp : Binds K fd_is_stamp ["words", "boxes", "value"] []
  f_are_stamps_on : Addr
  fd_are_stamps_on : FuncData
  d_are_stamps_on : DefAt K mg "are_stamps_on" s_are_stamps_on f_are_stamps_on fd_are_stamps_on
  b_are_stamps_on : Binds K fd_are_stamps_on ["words", "boxes", "value"] []
  f_seen_after : Addr
  fd_seen_after : FuncData
  d_seen_after : DefAt K mg "seen_after" s_seen_after f_seen_after fd_seen_after
  b_seen_after : Binds K fd_seen_after ["words", "boxes", "stamps"] []
  f_is_way : Addr
  fd_is_way : FuncData
  d_is_way : DefAt K mg "is_way" s_is_way f_is_way fd_is_way
  b_is_way : Binds K fd_is_way ["words", "row", "value"] []
  f_law : Addr
  fd_law : FuncData
  d_law : DefAt K mg "law" s_law f_law fd_law
  b_law : Binds K fd_law ["script"] []
  n_all : mg "all" = none
  n_bool : mg "bool" = none
  n_enumerate : mg "enumerate" = none
  n_int : mg "int" = none
  n_isinstance : mg "isinstance" = none
  n_len : mg "len" = none
  n_range : mg "range" = none
  n_set : mg "set" = none
  n_sorted : mg "sorted" = none
  n_str : mg "str" = none
  n_tuple : mg "tuple" = none
  n_zip : mg "zip" = none
  t_LETTERS : Nat
  g_LETTERS : mg "LETTERS" = some (.str (mkS [97, 98, 99, 100]) t_LETTERS)
  kb_fewest_stamps : KwB K fd_fewest_stamps ["words", "row"]
section
variable {P : Program} {w : World} {K : PySem.W.Frag} {mg : Str → Option Value} {base : Heap} {Vw : Wd} {cls : Nat → Value}
theorem sc__law_begun : FnScope [] [] (defScope s__law_begun) := ⟨rfl, rfl, rfl, by decide +kernel, rfl, by decide +kernel, by decide +kernel⟩
theorem ok__law_begun (T : Txt K mg) : FnOk P w K mg base (L2.CX P w) 1 T.f__law_begun T.fd__law_begun [] (spBeg K Vw) :=
  ok_beg T.d__law_begun.fn sc__law_begun fun cdv A outer s H Ex => pss_one (ps_ret (pe_disp (pps_cons pe_str pe_int (pps_cons pe_str pe_dnewK pps_nil)) rfl rfl (by simp) (by decide)))
theorem sc__law_levels : FnScope ["words_of", "many", "known", "level", "count", "further", "here", "word", "place", "there"] ["words_of", "many"] (defScope s__law_levels) := ⟨rfl, rfl, rfl, by decide +kernel, rfl, by decide +kernel, by decide +kernel⟩
def F__law_levels {G : Type} : SM G := (sSeq (sPar3 2 3 4 (xK1 (e2 mulD (eC (.str [46])) (eV 1)) (eC (.int 0))) (xD (eLst (aCons (e2 mulD (eC (.str [46])) (eV 1)) aNil))) (xD (eC (.int 0))))
    (sSeq (sWhile (tV (e2 neD (eV 3) (eLst aNil))) [5, 6, 7, 8, 9] (sSeq (sPar 5 4 (xL (eLst aNil)) (xD (e2 addD (eV 4) (eC (.int 1)))))
    (sSeq (sFor (iL (eV 3)) (tg1 6) [6, 7, 8, 9] (sFor (iT (eV 0)) (tg1 7) [7, 8, 9] (sFor (iR1 (e2 addD (e2 subD (eV 1) (e1 lenD (eV 7))) (eC (.int 1)))) (tg1 8) [8, 9] (sSeq (sAsg 9 (xD (e2 addD (e2 addD (eSl (eV 6) oN (oS (eV 8))) (eV 7)) (eSl (eV 6) (oS (e2 addD (eV 8) (e1 lenD (eV 7)))) oN))))
    (sIf (tV (eDNin 2 (eV 9))) (sSeq (sKPut 2 (eV 9) (eV 4))
    (sApp 5 (eV 9))) sSkip)))))
    (sFrz 5 (sAsg 3 (xD (eV 5)))))) 4000)
    sSkip))
def f__law_levels {G : Type} : FnS G := fnKD 10 2 F__law_levels
theorem ok__law_levels (T : Txt K mg) : FnOk P w K mg base (L2.CX P w) 1 T.f__law_levels T.fd__law_levels ["words_of", "many"] (spFK (TZ K Vw cls) K 2 (f__law_levels (G := (TZ K Vw cls).W.G))) :=
  fn_okK (i := 2) T.d__law_levels.fn sc__law_levels (by decide) fun cdv A outer s H E Ex hr =>
    (dssK_cons (ds_par3 (i := 2) (j := 3) (l := 4) rfl sc__law_levels.nd rfl rfl rfl (by decide) (by decide) (by decide) rfl rfl rfl (dx_k1 (de_op od_mul (DE.r (de_str [46])) (DE.r (de_name 1))) de_int) (dx_e (de_lst (da_cons (de_op od_mul (DE.r (de_str [46])) (DE.r (de_name 1))) da_nil))) (dx_e de_int) rfl)
    (dssK_cons (ds_while 4000 (passes_of rfl) (dt_cmp (od_ne hr.units) (DE.r (de_name 3)) (DE.r (de_lst da_nil))) (dss_cons (ds_par (i := 5) (j := 4) rfl sc__law_levels.nd rfl rfl (by decide) rfl rfl (dx_n (dn_lst da_nil)) (dx_e (de_op od_add (DE.r (de_name 4)) (DE.r de_int))) rfl)
    (dss_cons (ds_for (passes_of rfl) rfl (di_list (de_name 3)) (dg_name sc__law_levels.nd rfl (Or.inl rfl)) (dss_one (ds_for (passes_of rfl) rfl (di_tup (de_name 0)) (dg_name sc__law_levels.nd rfl (Or.inl rfl)) (dss_one (ds_for (passes_of rfl) rfl (di_range1 rfl T.n_range (de_op od_add (DE.r (de_op od_sub (DE.r (de_name 1)) (DE.r (de_b1 c_len rfl T.n_len bt_len (DE.r (de_name 7)))))) (DE.r de_int))) (dg_name sc__law_levels.nd rfl (Or.inl rfl)) (dss_cons (ds_set (i := 9) sc__law_levels.nd rfl (Or.inl rfl) (dx_e (de_op od_add (DE.r (de_op od_add (DE.r (de_slice (DE.r (de_name 6)) do_none (do_some (de_name 8)))) (DE.r (de_name 7)))) (DE.r (de_slice (DE.r (de_name 6)) (do_some (de_op od_add (DE.r (de_name 8)) (DE.r (de_b1 c_len rfl T.n_len bt_len (DE.r (de_name 7)))))) do_none)))))
    (dss_one (ds_if (dt_dnin (i := 2) (hu_of hr) (de_name 9)) (dss_cons (ds_kput (i := 2) (hu_of hr) (de_name 9) (de_name 4))
    (dss_one (ds_app (i := 5) (de_name 9)))) dss_nil))))))))
    (dss_one (ds_frz 5 (ds_set (i := 3) sc__law_levels.nd rfl (Or.inl rfl) (dx_e (de_name 5))))))))
    (dssK_ret (i := 2))))
theorem sc__law_draw : FnScope ["script", "town", "many", "at", "rest", "number"] ["script", "town", "many"] (defScope s__law_draw) := ⟨rfl, rfl, rfl, by decide +kernel, rfl, by decide +kernel, by decide +kernel⟩
def F__law_draw {G : Type} : SM (Tw × G) := (sSeq (sCount 1 (e2 addD (eCount 1) (eC (.int 1))))
    (sSeq (sAsg 3 (xD (eIfM (tScr 0) (e2 modD (eCount 1) (eScrLen 0)) (eC (.int 0)))))
    (sSeq (sAsg 4 (xD (eRest 1 (eV 3) (eIfM (tScr 0) (eScrAt 0 (eV 3)) (eC (.int 0))))))
    (sSeq (sIf (tV (e2 geD (eV 4) (e2 powD (eC (.int 10)) (eC (.int 18))))) (sSeq (sRest 1 (eV 3) (e2 fdivD (eV 4) (eV 2)))
    (sRet (e2 modD (eV 4) (eV 2)))) sSkip)
    (sSeq (sAsg 5 (xD (e2 modD (e2 addD (eV 4) (e2 mulD (eC (.int 104729)) (eCount 1))) (eC (.int 4294967291)))))
    (sSeq (sAsg 5 (xD (e2 modD (e2 powD (eV 5) (eC (.int 5))) (eC (.int 4294967279)))))
    (sRet (e2 modD (e2 fdivD (e2 modD (e2 addD (e2 mulD (e2 fdivD (eV 5) (eC (.int 64))) (eC (.int 69621))) (eV 5)) (eC (.int 4294967231))) (eC (.int 8))) (eV 2)))))))))
def f__law_draw {G : Type} : Fn (Tw × G) := fnD 6 F__law_draw
theorem ok__law_draw (T : Txt K mg) : FnOk P w K mg base (L2.CX P w) 1 T.f__law_draw T.fd__law_draw ["script", "town", "many"] (spF (TZ K Vw cls) K 3 (f__law_draw (G := Vw.G))) :=
  fn_ok T.d__law_draw.fn sc__law_draw (by decide) fun cdv A outer s H E Ex hr =>
    (dss_cons (ds_count 1 (hu_of hr) (de_op od_add (DE.r (de_count 1 (hu_of hr))) (DE.r de_int)))
    (dss_cons (ds_set (i := 3) sc__law_draw.nd rfl (Or.inl rfl) (dx_e (de_if (dt_scr 0) (de_op od_mod (DE.r (de_count 1 (hu_of hr))) (DE.r (de_scrlen 0 rfl T.n_len))) de_int)))
    (dss_cons (ds_set (i := 4) sc__law_draw.nd rfl (Or.inl rfl) (dx_e (de_rest 1 (hu_of hr) (de_name 3) (de_if (dt_scr 0) (de_scrat 0 (DE.r (de_name 3))) de_int))))
    (dss_cons (ds_if (dt_cmp od_ge (DE.r (de_name 4)) (DE.r (de_op od_pow (DE.r de_int) (DE.r de_int)))) (dss_cons (ds_rest 1 (hu_of hr) (de_name 3) (de_op od_fdiv (DE.r (de_name 4)) (DE.r (de_name 2))))
    (dss_one (ds_ret (de_op od_mod (DE.r (de_name 4)) (DE.r (de_name 2)))))) dss_nil)
    (dss_cons (ds_set (i := 5) sc__law_draw.nd rfl (Or.inl rfl) (dx_e (de_op od_mod (DE.r (de_op od_add (DE.r (de_name 4)) (DE.r (de_op od_mul (DE.r de_int) (DE.r (de_count 1 (hu_of hr))))))) (DE.r de_int))))
    (dss_cons (ds_set (i := 5) sc__law_draw.nd rfl (Or.inl rfl) (dx_e (de_op od_mod (DE.r (de_op od_pow (DE.r (de_name 5)) (DE.r de_int))) (DE.r de_int))))
    (dss_one (ds_ret (de_op od_mod (DE.r (de_op od_fdiv (DE.r (de_op od_mod (DE.r (de_op od_add (DE.r (de_op od_mul (DE.r (de_op od_fdiv (DE.r (de_name 5)) (DE.r de_int))) (DE.r de_int))) (DE.r (de_name 5)))) (DE.r de_int))) (DE.r de_int))) (DE.r (de_name 2)))))))))))
theorem sc__law_word : FnScope ["script", "town", "most", "letters", "k"] ["script", "town", "most", "letters"] (defScope s__law_word) := ⟨rfl, rfl, rfl, by decide +kernel, rfl, by decide +kernel, by decide +kernel⟩
def F__law_word {G : Type} : SM (Tw × G) := (sRet (eJoin (eC (.str [])) (eComp (iR1 (e2 addD (eC (.int 1)) (callM f__law_draw (aCons (eV 0) (aCons (eV 1) (aCons (eV 2) aNil)))))) [4] (tg1 4) tYesM (e2 ixD (eV 3) (callM f__law_draw (aCons (eV 0) (aCons (eV 1) (aCons (e1 lenD (eV 3)) aNil))))))))
def f__law_word {G : Type} : Fn (Tw × G) := fnD 5 F__law_word
theorem ok__law_word (T : Txt K mg) : FnOk P w K mg base (L2.CX P w) 2 T.f__law_word T.fd__law_word ["script", "town", "most", "letters"] (spF (TZ K Vw cls) K 4 (f__law_word (G := Vw.G))) :=
  fn_ok T.d__law_word.fn sc__law_word (by decide) fun cdv A outer s H E Ex hr =>
    (dss_one (ds_ret (de_join (de_str []) (DE.r (de_n (dn_comp (own := [("k", 4)]) rfl sc__law_word.nd (di_range1 rfl T.n_range (de_op od_add (DE.r de_int) (DE.r (de_call (ok__law_draw T) (hr.mono (by decide)) rfl T.d__law_draw.mgx T.d__law_draw.kp T.b__law_draw (takes_of rfl rfl rfl rfl) rfl (da_cons (de_name 0) (da_cons (de_name 1) (da_cons (de_name 2) da_nil))) (len_cons (len_cons (len_cons len_nil))))))) (blkOk_by (N := ["script", "town", "most", "letters", "k"]) (sc := defScope s__law_word) (by decide +kernel)) (fun _ _ _ _ _ => ((dg_name sc__law_word.nd rfl (Or.inl rfl))).pg) (tgok1 4) (fun _ _ _ _ _ => dts_nil) (fun _ _ _ _ _ => (de_ix (DE.r (de_name 3)) (DE.r (de_call (ok__law_draw T) (hr.mono (by decide)) rfl T.d__law_draw.mgx T.d__law_draw.kp T.b__law_draw takes0 rfl (da_cons (de_name 0) (da_cons (de_name 1) (da_cons (de_b1 c_len rfl T.n_len bt_len (DE.r (de_name 3))) da_nil))) (len_cons (len_cons (len_cons len_nil))))))) (by decide)))))))
theorem sc__law_words : FnScope ["script", "town", "most", "letters", "found", "k"] ["script", "town", "most", "letters"] (defScope s__law_words) := ⟨rfl, rfl, rfl, by decide +kernel, rfl, by decide +kernel, by decide +kernel⟩
def F__law_words {G : Type} : SM (Tw × G) := (sSeq (sAsg 4 (xL (eComp (iR1 (e2 addD (eC (.int 1)) (callM f__law_draw (aCons (eV 0) (aCons (eV 1) (aCons (eV 2) aNil)))))) [5] (tg1 5) tYesM (callM f__law_word (aCons (eV 0) (aCons (eV 1) (aCons (eC (.int 3)) (aCons (eV 3) aNil))))))))
    (sSeq (sIf (tV (e2 eqD (callM f__law_draw (aCons (eV 0) (aCons (eV 1) (aCons (eC (.int 5)) aNil)))) (eC (.int 0)))) (sApp 4 (callM f__law_word (aCons (eV 0) (aCons (eV 1) (aCons (eC (.int 4)) (aCons (eV 3) aNil)))))) sSkip)
    (sRet (e1 tupD (eSl (e1 sortSetD (eR 4)) oN (oS (eC (.int 4))))))))
def f__law_words {G : Type} : Fn (Tw × G) := fnD 6 F__law_words
theorem ok__law_words (T : Txt K mg) : FnOk P w K mg base (L2.CX P w) 3 T.f__law_words T.fd__law_words ["script", "town", "most", "letters"] (spF (TZ K Vw cls) K 4 (f__law_words (G := Vw.G))) :=
  fn_ok T.d__law_words.fn sc__law_words (by decide) fun cdv A outer s H E Ex hr =>
    (dss_cons (ds_setLc (own := [("k", 5)]) (i := 4) rfl sc__law_words.nd rfl rfl (di_range1 rfl T.n_range (de_op od_add (DE.r de_int) (DE.r (de_call (ok__law_draw T) (hr.mono (by decide)) rfl T.d__law_draw.mgx T.d__law_draw.kp T.b__law_draw (takes_of rfl rfl rfl rfl) rfl (da_cons (de_name 0) (da_cons (de_name 1) (da_cons (de_name 2) da_nil))) (len_cons (len_cons (len_cons len_nil))))))) (blkOk_by (N := ["script", "town", "most", "letters", "found", "k"]) (sc := defScope s__law_words) (by decide +kernel)) (fun _ _ _ _ _ => ((dg_name sc__law_words.nd rfl (Or.inl rfl))).pg) (tgok1 5) (fun _ _ _ _ _ => dts_nil) (fun _ _ _ _ _ => (de_call (ok__law_word T) (hr.mono (by decide)) rfl T.d__law_word.mgx T.d__law_word.kp T.b__law_word takes0 rfl (da_cons (de_name 0) (da_cons (de_name 1) (da_cons de_int (da_cons (de_name 3) da_nil)))) (len_cons (len_cons (len_cons (len_cons len_nil)))))) (by decide) (sw_true rfl rfl rfl rfl))
    (dss_cons (ds_if (dt_cmp (od_eq hr.units) (DE.r (de_call (ok__law_draw T) (hr.mono (by decide)) rfl T.d__law_draw.mgx T.d__law_draw.kp T.b__law_draw (takes_of rfl rfl rfl rfl) rfl (da_cons (de_name 0) (da_cons (de_name 1) (da_cons de_int da_nil))) (len_cons (len_cons (len_cons len_nil))))) (DE.r de_int)) (dss_one (ds_app (i := 4) (de_call (ok__law_word T) (hr.mono (by decide)) rfl T.d__law_word.mgx T.d__law_word.kp T.b__law_word (takes_of rfl rfl rfl rfl) rfl (da_cons (de_name 0) (da_cons (de_name 1) (da_cons de_int (da_cons (de_name 3) da_nil)))) (len_cons (len_cons (len_cons (len_cons len_nil))))))) dss_nil)
    (dss_one (ds_ret (de_t1 c_tuple rfl T.n_tuple bt_tuple (DE.r (de_slice (DE.r (de_sortSet rfl rfl T.n_sorted rfl T.n_set (dr_name 4))) do_none (do_some de_int))))))))
theorem sc_is_string_of : FnScope ["value", "most", "letter"] ["value", "most"] (defScope s_is_string_of) := ⟨rfl, rfl, rfl, by decide +kernel, rfl, by decide +kernel, by decide +kernel⟩
def F_is_string_of {G : Type} : SM G := (sRet (eAndM (e1 (isiD .str) (eV 0)) (eAndM (e3 leD leD (eC (.int 1)) (e1 lenD (eV 0)) (eV 1)) (e1 allD (eComp (iS (eV 0)) [2] (tg1 2) tYesM (e2 inD (eV 2) (eC (.str [97, 98, 99, 100]))))))))
def f_is_string_of {G : Type} : Fn G := fnD 3 F_is_string_of
theorem ok_is_string_of (T : Txt K mg) : FnOk P w K mg base (L2.CX P w) 1 T.f_is_string_of T.fd_is_string_of ["value", "most"] (spF (TZ K Vw cls) K 2 (f_is_string_of (G := (TZ K Vw cls).W.G))) :=
  fn_ok T.d_is_string_of.fn sc_is_string_of (by decide) fun cdv A outer s H E Ex hr =>
    (dss_one (ds_ret (de_and (de_isi .str rfl T.n_isinstance rfl T.n_str bt_str (DE.r (de_name 0))) (de_and (de_chain od_le od_le (DE.r de_int) (DE.r (de_b1 c_len rfl T.n_len bt_len (DE.r (de_name 0)))) (DE.r (de_name 1))) (de_one (de_b1 (c_all rfl) rfl T.n_all bt_all (DE.r (de_n (dn_comp (own := [("letter", 2)]) rfl sc_is_string_of.nd (di_str (de_name 0)) (blkOk_by (N := ["value", "most", "letter"]) (sc := defScope s_is_string_of) (by decide +kernel)) (fun _ _ _ _ _ => ((dg_name sc_is_string_of.nd rfl (Or.inl rfl))).pg) (tgok1 2) (fun _ _ _ _ _ => dts_nil) (fun _ _ _ _ _ => (de_cmp od_in (DE.r (de_name 2)) (DE.r (de_gstr [97, 98, 99, 100] rfl T.g_LETTERS ⟨_, rfl⟩)))) (by decide))))))))))
theorem sc_are_words : FnScope ["value", "one", "other"] ["value"] (defScope s_are_words) := ⟨rfl, rfl, rfl, by decide +kernel, rfl, by decide +kernel, by decide +kernel⟩
def F_are_words {G : Type} : SM G := (sSeq (sIf (tOrM (tNotM (tV (e1 (isiD .tuple) (eV 0)))) (tOrM (tNotM (tV (e3 leD leD (eC (.int 1)) (e1 lenD (eV 0)) (eC (.int 4))))) (tNotM (tV (e1 allD (eComp (iT (eV 0)) [1] (tg1 1) tYesM (callM f_is_string_of (aCons (eV 1) (aCons (eC (.int 4)) aNil))))))))) (sRet (eC (.bl false))) sSkip)
    (sRet (e1 allD (eComp (iZpT (eV 0) (eSl (eV 0) (oS (eC (.int 1))) oN)) [1, 2] (tg2 1 2) tYesM (e2 ltD (eV 1) (eV 2))))))
def f_are_words {G : Type} : Fn G := fnD 3 F_are_words
theorem ok_are_words (T : Txt K mg) : FnOk P w K mg base (L2.CX P w) 2 T.f_are_words T.fd_are_words ["value"] (spF (TZ K Vw cls) K 1 (f_are_words (G := (TZ K Vw cls).W.G))) :=
  fn_ok T.d_are_words.fn sc_are_words (by decide) fun cdv A outer s H E Ex hr =>
    (dss_cons (ds_if (DW.pt (dw_or (dt_not (dt_val (de_isi .tuple rfl T.n_isinstance rfl T.n_tuple bt_tuple (DE.r (de_name 0))))) (dw_or (dt_not (dt_chain od_le od_le (DE.r de_int) (DE.r (de_b1 c_len rfl T.n_len bt_len (DE.r (de_name 0)))) (DE.r de_int))) (dw_or1 (dt_not (dt_val (de_b1 (c_all rfl) rfl T.n_all bt_all (DE.r (de_n (dn_comp (own := [("one", 1)]) rfl sc_are_words.nd (di_tup (de_name 0)) (blkOk_by (N := ["value", "one", "other"]) (sc := defScope s_are_words) (by decide +kernel)) (fun _ _ _ _ _ => ((dg_name sc_are_words.nd rfl (Or.inl rfl))).pg) (tgok1 1) (fun _ _ _ _ _ => dts_nil) (fun _ _ _ _ _ => (de_call (ok_is_string_of T) (hr.mono (by decide)) rfl T.d_is_string_of.mgx T.d_is_string_of.kp T.b_is_string_of takes0 rfl (da_cons (de_name 1) (da_cons de_int da_nil)) (len_cons (len_cons len_nil)))) (by decide))))))))))) (dss_one (ds_ret de_bl)) dss_nil)
    (dss_one (ds_ret (de_b1 (c_all rfl) rfl T.n_all bt_all (DE.r (de_n (dn_comp (own := [("one", 1), ("other", 2)]) rfl sc_are_words.nd (di_zpT rfl T.n_zip (de_name 0) (de_slice (DE.r (de_name 0)) (do_some de_int) do_none)) (blkOk_by (N := ["value", "one", "other"]) (sc := defScope s_are_words) (by decide +kernel)) (fun _ _ _ _ _ => ((dg_tup2 rfl sc_are_words.nd rfl (Or.inl rfl) rfl (Or.inl rfl))).pg) (tgok2 1 2) (fun _ _ _ _ _ => dts_nil) (fun _ _ _ _ _ => (de_cmp od_lt (DE.r (de_name 1)) (DE.r (de_name 2)))) (by decide))))))))
theorem sc_check_words : FnScope ["words"] ["words"] (defScope s_check_words) := ⟨rfl, rfl, rfl, by decide +kernel, rfl, by decide +kernel, by decide +kernel⟩
def F_check_words {G : Type} : SM G := (sIf (tNotM (tV (callM f_are_words (aCons (eV 0) aNil)))) (fun _ _ => none) sSkip)
def f_check_words {G : Type} : Fn G := fnD 1 F_check_words
theorem ok_check_words (T : Txt K mg) : FnOk P w K mg base (L2.CX P w) 3 T.f_check_words T.fd_check_words ["words"] (spF (TZ K Vw cls) K 1 (f_check_words (G := (TZ K Vw cls).W.G))) :=
  fn_ok T.d_check_words.fn sc_check_words (by decide) fun cdv A outer s H E Ex hr =>
    (dss_one (ds_if (dt_not (dt_val (de_call (ok_are_words T) (hr.mono (by decide)) rfl T.d_are_words.mgx T.d_are_words.kp T.b_are_words (takes_of rfl rfl rfl rfl) rfl (da_cons (de_name 0) da_nil) (len_cons len_nil)))) (dss_one ds_never) dss_nil))
theorem sc_is_row : FnScope ["value"] ["value"] (defScope s_is_row) := ⟨rfl, rfl, rfl, by decide +kernel, rfl, by decide +kernel, by decide +kernel⟩
def F_is_row {G : Type} : SM G := (sRet (callM f_is_string_of (aCons (eV 0) (aCons (eC (.int 8)) aNil))))
def f_is_row {G : Type} : Fn G := fnD 1 F_is_row
theorem ok_is_row (T : Txt K mg) : FnOk P w K mg base (L2.CX P w) 2 T.f_is_row T.fd_is_row ["value"] (spF (TZ K Vw cls) K 1 (f_is_row (G := (TZ K Vw cls).W.G))) :=
  fn_ok T.d_is_row.fn sc_is_row (by decide) fun cdv A outer s H E Ex hr =>
    (dss_one (ds_ret (de_call (ok_is_string_of T) (hr.mono (by decide)) rfl T.d_is_string_of.mgx T.d_is_string_of.kp T.b_is_string_of (takes_of rfl rfl rfl rfl) rfl (da_cons (de_name 0) (da_cons de_int da_nil)) (len_cons (len_cons len_nil)))))
theorem sc_check_row : FnScope ["words", "row"] ["words", "row"] (defScope s_check_row) := ⟨rfl, rfl, rfl, by decide +kernel, rfl, by decide +kernel, by decide +kernel⟩
def F_check_row {G : Type} : SM G := (sSeq (sDrop (callM f_check_words (aCons (eV 0) aNil)))
    (sIf (tNotM (tV (callM f_is_row (aCons (eV 1) aNil)))) (fun _ _ => none) sSkip))
def f_check_row {G : Type} : Fn G := fnD 2 F_check_row
theorem ok_check_row (T : Txt K mg) : FnOk P w K mg base (L2.CX P w) 4 T.f_check_row T.fd_check_row ["words", "row"] (spF (TZ K Vw cls) K 2 (f_check_row (G := (TZ K Vw cls).W.G))) :=
  fn_ok T.d_check_row.fn sc_check_row (by decide) fun cdv A outer s H E Ex hr =>
    (dss_cons (ds_drop (de_call (ok_check_words T) (hr.mono (by decide)) rfl T.d_check_words.mgx T.d_check_words.kp T.b_check_words (takes_of rfl rfl rfl rfl) rfl (da_cons (de_name 0) da_nil) (len_cons len_nil)))
    (dss_one (ds_if (dt_not (dt_val (de_call (ok_is_row T) (hr.mono (by decide)) rfl T.d_is_row.mgx T.d_is_row.kp T.b_is_row (takes_of rfl rfl rfl rfl) rfl (da_cons (de_name 1) da_nil) (len_cons len_nil)))) (dss_one ds_never) dss_nil)))
theorem sc_stamps_on : FnScope ["words", "low", "high", "found", "number", "word", "place"] ["words", "low", "high"] (defScope s_stamps_on) := ⟨rfl, rfl, rfl, by decide +kernel, rfl, by decide +kernel, by decide +kernel⟩
def F_stamps_on {G : Type} : SM G := (sSeq (sAsg 3 (xL (eLst aNil)))
    (sSeq (sFor (iEnT (eV 0)) (tg2 4 5) [4, 5] (sExt 3 (eComp (iR2 (eV 1) (e2 addD (e2 subD (eV 2) (e1 lenD (eV 5))) (eC (.int 1)))) [6] (tg1 6) tYesM (eTup (aCons (eV 4) (aCons (eV 6) aNil))))))
    (sFrz 3 (sRet (eV 3)))))
def f_stamps_on {G : Type} : Fn G := fnD 7 F_stamps_on
theorem ok_stamps_on (T : Txt K mg) : FnOk P w K mg base (L2.CX P w) 1 T.f_stamps_on T.fd_stamps_on ["words", "low", "high"] (spF (TZ K Vw cls) K 3 (f_stamps_on (G := (TZ K Vw cls).W.G))) :=
  fn_ok T.d_stamps_on.fn sc_stamps_on (by decide) fun cdv A outer s H E Ex hr =>
    (dss_cons (ds_set (i := 3) sc_stamps_on.nd rfl (Or.inl rfl) (dx_n (dn_lst da_nil)))
    (dss_cons (ds_for (passes_of rfl) rfl (di_enT rfl T.n_enumerate (de_name 0)) (dg_tup2 rfl sc_stamps_on.nd rfl (Or.inr rfl) rfl (Or.inl rfl)) (dss_one (ds_ext (i := 3) (de_n (dn_comp (own := [("place", 6)]) rfl sc_stamps_on.nd (di_range2 rfl T.n_range (de_name 1) (de_op od_add (DE.r (de_op od_sub (DE.r (de_name 2)) (DE.r (de_b1 c_len rfl T.n_len bt_len (DE.r (de_name 5)))))) (DE.r de_int))) (blkOk_by (N := ["words", "low", "high", "found", "number", "word", "place"]) (sc := defScope s_stamps_on) (by decide +kernel)) (fun _ _ _ _ _ => ((dg_name sc_stamps_on.nd rfl (Or.inl rfl))).pg) (tgok1 6) (fun _ _ _ _ _ => dts_nil) (fun _ _ _ _ _ => (de_tup (da_cons (de_name 4) (da_cons (de_name 6) da_nil)))) (by decide))))))
    (dss_one (ds_frz 3 (ds_ret (de_name 3))))))
theorem sc_boxes_of : FnScope ["words", "stamp", "at", "letter"] ["words", "stamp"] (defScope s_boxes_of) := ⟨rfl, rfl, rfl, by decide +kernel, rfl, by decide +kernel, by decide +kernel⟩
def F_boxes_of {G : Type} : SM G := (sRet (eComp (iEnS (e2 ixD (eV 0) (e2 ixD (eV 1) (eC (.int 0))))) [2, 3] (tg2 2 3) tYesM (eTup (aCons (e2 addD (e2 ixD (eV 1) (eC (.int 1))) (eV 2)) (aCons (eV 3) aNil)))))
def f_boxes_of {G : Type} : Fn G := fnD 4 F_boxes_of
theorem ok_boxes_of (T : Txt K mg) : FnOk P w K mg base (L2.CX P w) 1 T.f_boxes_of T.fd_boxes_of ["words", "stamp"] (spF (TZ K Vw cls) K 2 (f_boxes_of (G := (TZ K Vw cls).W.G))) :=
  fn_ok T.d_boxes_of.fn sc_boxes_of (by decide) fun cdv A outer s H E Ex hr =>
    (dss_one (ds_ret (de_n (dn_comp (own := [("at", 2), ("letter", 3)]) rfl sc_boxes_of.nd (di_enS rfl T.n_enumerate (de_ix (DE.r (de_name 0)) (DE.r (de_ix (DE.r (de_name 1)) (DE.r de_int))))) (blkOk_by (N := ["words", "stamp", "at", "letter"]) (sc := defScope s_boxes_of) (by decide +kernel)) (fun _ _ _ _ _ => ((dg_tup2 rfl sc_boxes_of.nd rfl (Or.inl rfl) rfl (Or.inl rfl))).pg) (tgok2 2 3) (fun _ _ _ _ _ => dts_nil) (fun _ _ _ _ _ => (de_tup (da_cons (de_op od_add (DE.r (de_ix (DE.r (de_name 1)) (DE.r de_int))) (DE.r (de_name 2))) (da_cons (de_name 3) da_nil)))) (by decide)))))
theorem sc_freed_by : FnScope ["words", "row", "free", "stamp", "found", "box", "letter"] ["words", "row", "free", "stamp"] (defScope s_freed_by) := ⟨rfl, rfl, rfl, by decide +kernel, rfl, by decide +kernel, by decide +kernel⟩
def F_freed_by {G : Type} : SM G := (sSeq (sAsg 4 (xL (eLst aNil)))
    (sSeq (sFor (iL (callM f_boxes_of (aCons (eV 0) (aCons (eV 3) aNil)))) (tg2 5 6) [5, 6] (sIf (tAndM (tV (e3 leD ltD (eC (.int 0)) (eV 5) (e1 lenD (eV 1)))) (tV (e2 ninD (eV 5) (eV 2)))) (sSeq (sIf (tV (e2 neD (e2 ixD (eV 1) (eV 5)) (eV 6))) (sRet (eLst aNil)) sSkip)
    (sApp 4 (eV 5))) sSkip))
    (sFrz 4 (sRet (eV 4)))))
def f_freed_by {G : Type} : Fn G := fnD 7 F_freed_by
theorem ok_freed_by (T : Txt K mg) : FnOk P w K mg base (L2.CX P w) 2 T.f_freed_by T.fd_freed_by ["words", "row", "free", "stamp"] (spF (TZ K Vw cls) K 4 (f_freed_by (G := (TZ K Vw cls).W.G))) :=
  fn_ok T.d_freed_by.fn sc_freed_by (by decide) fun cdv A outer s H E Ex hr =>
    (dss_cons (ds_set (i := 4) sc_freed_by.nd rfl (Or.inl rfl) (dx_n (dn_lst da_nil)))
    (dss_cons (ds_for (passes_of rfl) rfl (di_list (de_call (ok_boxes_of T) (hr.mono (by decide)) rfl T.d_boxes_of.mgx T.d_boxes_of.kp T.b_boxes_of (takes_of rfl rfl rfl rfl) rfl (da_cons (de_name 0) (da_cons (de_name 3) da_nil)) (len_cons (len_cons len_nil)))) (dg_tup2 rfl sc_freed_by.nd rfl (Or.inl rfl) rfl (Or.inl rfl)) (dss_one (ds_if (DW.pt (dw_and (dt_chain od_le od_lt (DE.r de_int) (DE.r (de_name 5)) (DE.r (de_b1 c_len rfl T.n_len bt_len (DE.r (de_name 1))))) (dw_and1 (dt_cmp od_nin (DE.r (de_name 5)) (DE.r (de_name 2)))))) (dss_cons (ds_if (dt_cmp (od_ne hr.units) (DE.r (de_ix (DE.r (de_name 1)) (DE.r (de_name 5)))) (DE.r (de_name 6))) (dss_one (ds_ret (de_lst da_nil))) dss_nil)
    (dss_one (ds_app (i := 4) (de_name 5)))) dss_nil)))
    (dss_one (ds_frz 4 (ds_ret (de_name 4))))))
theorem sc_found_way : FnScope ["words", "row", "known", "waiting", "free", "stamp", "more", "there"] ["words", "row"] (defScope s_found_way) := ⟨rfl, rfl, rfl, by decide +kernel, rfl, by decide +kernel, by decide +kernel⟩
def F_found_way {G : Type} : SM G := (sSeq (sPar 2 3 (xTnew (eTup aNil) (eTup aNil)) (xL (eLst (aCons (eTup aNil) aNil))))
    (sSeq (sWhile (tV (e2 neD (eR 3) (eLst aNil))) [4, 5, 6, 7] (sSeq (sPop0 4 3)
    (sSeq (sIf (tV (e2 eqD (e1 lenD (eV 4)) (e1 lenD (eV 1)))) (sRet (e1 revTD (eTGet 2 (eV 4)))) sSkip)
    (sFor (iL (callM f_stamps_on (aCons (eV 0) (aCons (eC (.int 0)) (aCons (e1 lenD (eV 1)) aNil))))) (tg1 5) [5, 6, 7] (sSeq (sAsg 6 (xD (callM f_freed_by (aCons (eV 0) (aCons (eV 1) (aCons (eV 4) (aCons (eV 5) aNil)))))))
    (sSeq (sAsg 7 (xD (e1 tupD (e1 sortedD (e2 addD (eV 4) (e1 tupD (eV 6)))))))
    (sIf (tV (eTNin 2 (eV 7))) (sSeq (sTPut 2 (eV 7) (e2 addD (eTGet 2 (eV 4)) (eTup (aCons (eV 5) aNil))))
    (sApp 3 (eV 7))) sSkip)))))) 1000)
    (sRet (eC .non))))
def f_found_way {G : Type} : Fn G := fnD 8 F_found_way
theorem ok_found_way (T : Txt K mg) : FnOk P w K mg base (L2.CX P w) 3 T.f_found_way T.fd_found_way ["words", "row"] (spF (TZ K Vw cls) K 2 (f_found_way (G := (TZ K Vw cls).W.G))) :=
  fn_ok T.d_found_way.fn sc_found_way (by decide) fun cdv A outer s H E Ex hr =>
    (dss_cons (ds_par (i := 2) (j := 3) rfl sc_found_way.nd rfl rfl (by decide) rfl rfl (dx_tnew (hu_of hr) (de_tup da_nil) (de_tup da_nil)) (dx_n (dn_lst (da_cons (de_tup da_nil) da_nil))) rfl)
    (dss_cons (ds_while 1000 (passes_of rfl) (dt_cmp (od_ne hr.units) (dr_name 3) (DE.r (de_lst da_nil))) (dss_cons (ds_pop0 (i := 3) (j := 4) sc_found_way.nd (by decide) rfl (Or.inl rfl))
    (dss_cons (ds_if (dt_cmp (od_eq hr.units) (DE.r (de_b1 c_len rfl T.n_len bt_len (DE.r (de_name 4)))) (DE.r (de_b1 c_len rfl T.n_len bt_len (DE.r (de_name 1))))) (dss_one (ds_ret (de_revT (DE.r (de_tget (i := 2) (hu_of hr) (de_name 4)))))) dss_nil)
    (dss_one (ds_for (passes_of rfl) rfl (di_list (de_call (ok_stamps_on T) (hr.mono (by decide)) rfl T.d_stamps_on.mgx T.d_stamps_on.kp T.b_stamps_on (takes_of rfl rfl rfl rfl) rfl (da_cons (de_name 0) (da_cons de_int (da_cons (de_b1 c_len rfl T.n_len bt_len (DE.r (de_name 1))) da_nil))) (len_cons (len_cons (len_cons len_nil))))) (dg_name sc_found_way.nd rfl (Or.inl rfl)) (dss_cons (ds_set (i := 6) sc_found_way.nd rfl (Or.inl rfl) (dx_e (de_call (ok_freed_by T) (hr.mono (by decide)) rfl T.d_freed_by.mgx T.d_freed_by.kp T.b_freed_by (takes_of rfl rfl rfl rfl) rfl (da_cons (de_name 0) (da_cons (de_name 1) (da_cons (de_name 4) (da_cons (de_name 5) da_nil)))) (len_cons (len_cons (len_cons (len_cons len_nil)))))))
    (dss_cons (ds_set (i := 7) sc_found_way.nd rfl (Or.inl rfl) (dx_e (de_t1 c_tuple rfl T.n_tuple bt_tuple (DE.r (de_b1 c_sorted rfl T.n_sorted bt_sorted (DE.r (de_op od_add (DE.r (de_name 4)) (DE.r (de_t1 c_tuple rfl T.n_tuple bt_tuple (DE.r (de_name 6)))))))))))
    (dss_one (ds_if (dt_tnin (i := 2) (hu_of hr) (de_name 7)) (dss_cons (ds_tput (i := 2) (hu_of hr) (de_name 7) (de_op od_add (DE.r (de_tget (i := 2) (hu_of hr) (de_name 4))) (DE.r (de_tup (da_cons (de_name 5) da_nil)))))
    (dss_one (ds_app (i := 3) (de_name 7)))) dss_nil)))))))))
    (dss_one (ds_ret de_non))))
theorem sc_way : FnScope ["words", "row"] ["words", "row"] (defScope s_way) := ⟨rfl, rfl, rfl, by decide +kernel, rfl, by decide +kernel, by decide +kernel⟩
def F_way {G : Type} : SM G := (sSeq (sDrop (callM f_check_row (aCons (eV 0) (aCons (eV 1) aNil))))
    (sRet (callM f_found_way (aCons (eV 0) (aCons (eV 1) aNil)))))
def f_way {G : Type} : Fn G := fnD 2 F_way
theorem ok_way (T : Txt K mg) : FnOk P w K mg base (L2.CX P w) 5 T.f_way T.fd_way ["words", "row"] (spF (TZ K Vw cls) K 2 (f_way (G := (TZ K Vw cls).W.G))) :=
  fn_ok T.d_way.fn sc_way (by decide) fun cdv A outer s H E Ex hr =>
    (dss_cons (ds_drop (de_call (ok_check_row T) (hr.mono (by decide)) rfl T.d_check_row.mgx T.d_check_row.kp T.b_check_row (takes_of rfl rfl rfl rfl) rfl (da_cons (de_name 0) (da_cons (de_name 1) da_nil)) (len_cons (len_cons len_nil))))
    (dss_one (ds_ret (de_call (ok_found_way T) (hr.mono (by decide)) rfl T.d_found_way.mgx T.d_found_way.kp T.b_found_way (takes_of rfl rfl rfl rfl) rfl (da_cons (de_name 0) (da_cons (de_name 1) da_nil)) (len_cons (len_cons len_nil))))))
theorem sc_freed_in : FnScope ["words", "row", "over", "free", "done", "before", "stamp", "more"] ["words", "row", "over"] (defScope s_freed_in) := ⟨rfl, rfl, rfl, by decide +kernel, rfl, by decide +kernel, by decide +kernel⟩
def F_freed_in {G : Type} : SM G := (sSeq (sPar3 3 4 5 (xD (eLst aNil)) (xL (eLst aNil)) (xD (eC .non)))
    (sSeq (sWhile (tV (e2 neD (eV 5) (e1 lenD (eV 3)))) [6, 7] (sSeq (sAsg 5 (xD (e1 lenD (eV 3))))
    (sFor (iL (callM f_stamps_on (aCons (eV 0) (aCons (e2 subD (eC (.int 0)) (eV 2)) (aCons (e2 addD (e1 lenD (eV 1)) (eV 2)) aNil))))) (tg1 6) [6, 7] (sSeq (sAsg 7 (xD (callM f_freed_by (aCons (eV 0) (aCons (eV 1) (aCons (eV 3) (aCons (eV 6) aNil)))))))
    (sIf (tV (e2 neD (eV 7) (eLst aNil))) (sSeq (sAsg 3 (xD (e2 addD (eV 3) (eV 7))))
    (sApp 4 (eV 6))) sSkip)))) 1000)
    (sFrz 4 (sRet (eTup (aCons (eV 3) (aCons (eV 4) aNil)))))))
def f_freed_in {G : Type} : Fn G := fnD 8 F_freed_in
theorem ok_freed_in (T : Txt K mg) : FnOk P w K mg base (L2.CX P w) 3 T.f_freed_in T.fd_freed_in ["words", "row", "over"] (spF (TZ K Vw cls) K 3 (f_freed_in (G := (TZ K Vw cls).W.G))) :=
  fn_ok T.d_freed_in.fn sc_freed_in (by decide) fun cdv A outer s H E Ex hr =>
    (dss_cons (ds_par3 (i := 3) (j := 4) (l := 5) rfl sc_freed_in.nd rfl rfl rfl (by decide) (by decide) (by decide) rfl rfl rfl (dx_e (de_lst da_nil)) (dx_n (dn_lst da_nil)) (dx_e de_non) rfl)
    (dss_cons (ds_while 1000 (passes_of rfl) (dt_cmp (od_ne hr.units) (DE.r (de_name 5)) (DE.r (de_b1 c_len rfl T.n_len bt_len (DE.r (de_name 3))))) (dss_cons (ds_set (i := 5) sc_freed_in.nd rfl (Or.inl rfl) (dx_e (de_b1 c_len rfl T.n_len bt_len (DE.r (de_name 3)))))
    (dss_one (ds_for (passes_of rfl) rfl (di_list (de_call (ok_stamps_on T) (hr.mono (by decide)) rfl T.d_stamps_on.mgx T.d_stamps_on.kp T.b_stamps_on (takes_of rfl rfl rfl rfl) rfl (da_cons (de_name 0) (da_cons (de_op od_sub (DE.r de_int) (DE.r (de_name 2))) (da_cons (de_op od_add (DE.r (de_b1 c_len rfl T.n_len bt_len (DE.r (de_name 1)))) (DE.r (de_name 2))) da_nil))) (len_cons (len_cons (len_cons len_nil))))) (dg_name sc_freed_in.nd rfl (Or.inl rfl)) (dss_cons (ds_set (i := 7) sc_freed_in.nd rfl (Or.inl rfl) (dx_e (de_call (ok_freed_by T) (hr.mono (by decide)) rfl T.d_freed_by.mgx T.d_freed_by.kp T.b_freed_by (takes_of rfl rfl rfl rfl) rfl (da_cons (de_name 0) (da_cons (de_name 1) (da_cons (de_name 3) (da_cons (de_name 6) da_nil)))) (len_cons (len_cons (len_cons (len_cons len_nil)))))))
    (dss_one (ds_if (dt_cmp (od_ne hr.units) (DE.r (de_name 7)) (DE.r (de_lst da_nil))) (dss_cons (ds_set (i := 3) sc_freed_in.nd rfl (Or.inl rfl) (dx_e (de_op od_add (DE.r (de_name 3)) (DE.r (de_name 7)))))
    (dss_one (ds_app (i := 4) (de_name 6)))) dss_nil)))))))
    (dss_one (ds_frz 4 (ds_ret (de_tup (da_cons (de_name 3) (da_cons (de_name 4) da_nil))))))))
theorem sc_is_stamped : FnScope ["words", "row"] ["words", "row"] (defScope s_is_stamped) := ⟨rfl, rfl, rfl, by decide +kernel, rfl, by decide +kernel, by decide +kernel⟩
def F_is_stamped {G : Type} : SM G := (sRet (e2 eqD (e1 lenD (e2 ixD (callM f_freed_in (aCons (eV 0) (aCons (eV 1) (aCons (eC (.int 0)) aNil)))) (eC (.int 0)))) (e1 lenD (eV 1))))
def f_is_stamped {G : Type} : Fn G := fnD 2 F_is_stamped
theorem ok_is_stamped (T : Txt K mg) : FnOk P w K mg base (L2.CX P w) 4 T.f_is_stamped T.fd_is_stamped ["words", "row"] (spF (TZ K Vw cls) K 2 (f_is_stamped (G := (TZ K Vw cls).W.G))) :=
  fn_ok T.d_is_stamped.fn sc_is_stamped (by decide) fun cdv A outer s H E Ex hr =>
    (dss_one (ds_ret (de_cmp (od_eq hr.units) (DE.r (de_b1 c_len rfl T.n_len bt_len (DE.r (de_ix (DE.r (de_call (ok_freed_in T) (hr.mono (by decide)) rfl T.d_freed_in.mgx T.d_freed_in.kp T.b_freed_in (takes_of rfl rfl rfl rfl) rfl (da_cons (de_name 0) (da_cons (de_name 1) (da_cons de_int da_nil))) (len_cons (len_cons (len_cons len_nil))))) (DE.r de_int))))) (DE.r (de_b1 c_len rfl T.n_len bt_len (DE.r (de_name 1)))))))
theorem sc_can_stamp : FnScope ["words", "row"] ["words", "row"] (defScope s_can_stamp) := ⟨rfl, rfl, rfl, by decide +kernel, rfl, by decide +kernel, by decide +kernel⟩
def F_can_stamp {G : Type} : SM G := (sSeq (sDrop (callM f_check_row (aCons (eV 0) (aCons (eV 1) aNil))))
    (sRet (callM f_is_stamped (aCons (eV 0) (aCons (eV 1) aNil)))))
def f_can_stamp {G : Type} : Fn G := fnD 2 F_can_stamp
theorem ok_can_stamp (T : Txt K mg) : FnOk P w K mg base (L2.CX P w) 5 T.f_can_stamp T.fd_can_stamp ["words", "row"] (spF (TZ K Vw cls) K 2 (f_can_stamp (G := (TZ K Vw cls).W.G))) :=
  fn_ok T.d_can_stamp.fn sc_can_stamp (by decide) fun cdv A outer s H E Ex hr =>
    (dss_cons (ds_drop (de_call (ok_check_row T) (hr.mono (by decide)) rfl T.d_check_row.mgx T.d_check_row.kp T.b_check_row (takes_of rfl rfl rfl rfl) rfl (da_cons (de_name 0) (da_cons (de_name 1) da_nil)) (len_cons (len_cons len_nil))))
    (dss_one (ds_ret (de_call (ok_is_stamped T) (hr.mono (by decide)) rfl T.d_is_stamped.mgx T.d_is_stamped.kp T.b_is_stamped (takes_of rfl rfl rfl rfl) rfl (da_cons (de_name 0) (da_cons (de_name 1) da_nil)) (len_cons (len_cons len_nil))))))
theorem sc_fewest_stamps : FnScope ["words", "row", "found"] ["words", "row"] (defScope s_fewest_stamps) := ⟨rfl, rfl, rfl, by decide +kernel, rfl, by decide +kernel, by decide +kernel⟩
def F_fewest_stamps {G : Type} : SM G := (sSeq (sDrop (callM f_check_row (aCons (eV 0) (aCons (eV 1) aNil))))
    (sSeq (sAsg 2 (xD (callM f_found_way (aCons (eV 0) (aCons (eV 1) aNil)))))
    (sRet (eIfM (tV (e2 notN (eV 2) (eC .non))) (e1 lenD (eV 2)) (eC .non)))))
def f_fewest_stamps {G : Type} : Fn G := fnD 3 F_fewest_stamps
theorem ok_fewest_stamps (T : Txt K mg) : FnOk P w K mg base (L2.CX P w) 5 T.f_fewest_stamps T.fd_fewest_stamps ["words", "row"] (spF (TZ K Vw cls) K 2 (f_fewest_stamps (G := (TZ K Vw cls).W.G))) :=
  fn_ok T.d_fewest_stamps.fn sc_fewest_stamps (by decide) fun cdv A outer s H E Ex hr =>
    (dss_cons (ds_drop (de_call (ok_check_row T) (hr.mono (by decide)) rfl T.d_check_row.mgx T.d_check_row.kp T.b_check_row (takes_of rfl rfl rfl rfl) rfl (da_cons (de_name 0) (da_cons (de_name 1) da_nil)) (len_cons (len_cons len_nil))))
    (dss_cons (ds_set (i := 2) sc_fewest_stamps.nd rfl (Or.inl rfl) (dx_e (de_call (ok_found_way T) (hr.mono (by decide)) rfl T.d_found_way.mgx T.d_found_way.kp T.b_found_way (takes_of rfl rfl rfl rfl) rfl (da_cons (de_name 0) (da_cons (de_name 1) da_nil)) (len_cons (len_cons len_nil)))))
    (dss_one (ds_ret (de_if (dt_cmp od_notN (DE.r (de_name 2)) (DE.r de_non)) (de_b1 c_len rfl T.n_len bt_len (DE.r (de_name 2))) de_non)))))
theorem sc_is_between : FnScope ["value", "low", "high"] ["value", "low", "high"] (defScope s_is_between) := ⟨rfl, rfl, rfl, by decide +kernel, rfl, by decide +kernel, by decide +kernel⟩
def F_is_between {G : Type} : SM G := (sRet (eAndM (e1 (isiD .int) (eV 0)) (eAndM (eNotM (e1 (isiD .bool) (eV 0))) (e3 leD leD (eV 1) (eV 0) (eV 2)))))
def f_is_between {G : Type} : Fn G := fnD 3 F_is_between
theorem ok_is_between (T : Txt K mg) : FnOk P w K mg base (L2.CX P w) 1 T.f_is_between T.fd_is_between ["value", "low", "high"] (spF (TZ K Vw cls) K 3 (f_is_between (G := (TZ K Vw cls).W.G))) :=
  fn_ok T.d_is_between.fn sc_is_between (by decide) fun cdv A outer s H E Ex hr =>
    (dss_one (ds_ret (de_and (de_isi .int rfl T.n_isinstance rfl T.n_int bt_int (DE.r (de_name 0))) (de_and (de_not (de_isi .bool rfl T.n_isinstance rfl T.n_bool bt_bool (DE.r (de_name 0)))) (de_one (de_chain od_le od_le (DE.r (de_name 1)) (DE.r (de_name 0)) (DE.r (de_name 2))))))))
theorem sc_is_stamp : FnScope ["words", "boxes", "value"] ["words", "boxes", "value"] (defScope s_is_stamp) := ⟨rfl, rfl, rfl, by decide +kernel, rfl, by decide +kernel, by decide +kernel⟩
def F_is_stamp {G : Type} : SM G := (sSeq (sIf (tOrM (tNotM (tV (e1 (isiD .tuple) (eV 2)))) (tOrM (tV (e2 neD (e1 lenD (eV 2)) (eC (.int 2)))) (tNotM (tV (callM f_is_between (aCons (e2 ixD (eV 2) (eC (.int 0))) (aCons (eC (.int 0)) (aCons (e2 subD (e1 lenD (eV 0)) (eC (.int 1))) aNil)))))))) (sRet (eC (.bl false))) sSkip)
    (sRet (callM f_is_between (aCons (e2 ixD (eV 2) (eC (.int 1))) (aCons (eC (.int 0)) (aCons (e2 subD (eV 1) (e1 lenD (e2 ixD (eV 0) (e2 ixD (eV 2) (eC (.int 0)))))) aNil))))))
def f_is_stamp {G : Type} : Fn G := fnD 3 F_is_stamp
theorem ok_is_stamp (T : Txt K mg) : FnOk P w K mg base (L2.CX P w) 2 T.f_is_stamp T.fd_is_stamp ["words", "boxes", "value"] (spF (TZ K Vw cls) K 3 (f_is_stamp (G := (TZ K Vw cls).W.G))) :=
  fn_ok T.d_is_stamp.fn sc_is_stamp (by decide) fun cdv A outer s H E Ex hr =>
    (dss_cons (ds_if (DW.pt (dw_or (dt_not (dt_val (de_isi .tuple rfl T.n_isinstance rfl T.n_tuple bt_tuple (DE.r (de_name 2))))) (dw_or (dt_cmp (od_ne hr.units) (DE.r (de_b1 c_len rfl T.n_len bt_len (DE.r (de_name 2)))) (DE.r de_int)) (dw_or1 (dt_not (dt_val (de_call (ok_is_between T) (hr.mono (by decide)) rfl T.d_is_between.mgx T.d_is_between.kp T.b_is_between (takes_of rfl rfl rfl rfl) rfl (da_cons (de_ix (DE.r (de_name 2)) (DE.r de_int)) (da_cons de_int (da_cons (de_op od_sub (DE.r (de_b1 c_len rfl T.n_len bt_len (DE.r (de_name 0)))) (DE.r de_int)) da_nil))) (len_cons (len_cons (len_cons len_nil)))))))))) (dss_one (ds_ret de_bl)) dss_nil)
    (dss_one (ds_ret (de_call (ok_is_between T) (hr.mono (by decide)) rfl T.d_is_between.mgx T.d_is_between.kp T.b_is_between (takes_of rfl rfl rfl rfl) rfl (da_cons (de_ix (DE.r (de_name 2)) (DE.r de_int)) (da_cons de_int (da_cons (de_op od_sub (DE.r (de_name 1)) (DE.r (de_b1 c_len rfl T.n_len bt_len (DE.r (de_ix (DE.r (de_name 0)) (DE.r (de_ix (DE.r (de_name 2)) (DE.r de_int)))))))) da_nil))) (len_cons (len_cons (len_cons len_nil)))))))
theorem sc_are_stamps_on : FnScope ["words", "boxes", "value", "one"] ["words", "boxes", "value"] (defScope s_are_stamps_on) := ⟨rfl, rfl, rfl, by decide +kernel, rfl, by decide +kernel, by decide +kernel⟩
def F_are_stamps_on {G : Type} : SM G := (sSeq (sIf (tOrM (tNotM (tV (e1 (isiD .tuple) (eV 2)))) (tV (e2 gtD (e1 lenD (eV 2)) (eC (.int 12))))) (sRet (eC (.bl false))) sSkip)
    (sRet (e1 allD (eComp (iT (eV 2)) [3] (tg1 3) tYesM (callM f_is_stamp (aCons (eV 0) (aCons (eV 1) (aCons (eV 3) aNil))))))))
def f_are_stamps_on {G : Type} : Fn G := fnD 4 F_are_stamps_on
theorem ok_are_stamps_on (T : Txt K mg) : FnOk P w K mg base (L2.CX P w) 3 T.f_are_stamps_on T.fd_are_stamps_on ["words", "boxes", "value"] (spF (TZ K Vw cls) K 3 (f_are_stamps_on (G := (TZ K Vw cls).W.G))) :=
  fn_ok T.d_are_stamps_on.fn sc_are_stamps_on (by decide) fun cdv A outer s H E Ex hr =>
    (dss_cons (ds_if (DW.pt (dw_or (dt_not (dt_val (de_isi .tuple rfl T.n_isinstance rfl T.n_tuple bt_tuple (DE.r (de_name 2))))) (dw_or1 (dt_cmp od_gt (DE.r (de_b1 c_len rfl T.n_len bt_len (DE.r (de_name 2)))) (DE.r de_int))))) (dss_one (ds_ret de_bl)) dss_nil)
    (dss_one (ds_ret (de_b1 (c_all rfl) rfl T.n_all bt_all (DE.r (de_n (dn_comp (own := [("one", 3)]) rfl sc_are_stamps_on.nd (di_tup (de_name 2)) (blkOk_by (N := ["words", "boxes", "value", "one"]) (sc := defScope s_are_stamps_on) (by decide +kernel)) (fun _ _ _ _ _ => ((dg_name sc_are_stamps_on.nd rfl (Or.inl rfl))).pg) (tgok1 3) (fun _ _ _ _ _ => dts_nil) (fun _ _ _ _ _ => (de_call (ok_is_stamp T) (hr.mono (by decide)) rfl T.d_is_stamp.mgx T.d_is_stamp.kp T.b_is_stamp takes0 rfl (da_cons (de_name 0) (da_cons (de_name 1) (da_cons (de_name 3) da_nil))) (len_cons (len_cons (len_cons len_nil))))) (by decide))))))))
theorem sc_seen_after : FnScope ["words", "boxes", "stamps", "found", "stamp", "box", "letter"] ["words", "boxes", "stamps"] (defScope s_seen_after) := ⟨rfl, rfl, rfl, by decide +kernel, rfl, by decide +kernel, by decide +kernel⟩
def F_seen_after {G : Type} : SM G := (sSeq (sAsg 3 (xL (e2 repD (eLst (aCons (eC (.str [46])) aNil)) (eV 1))))
    (sSeq (sFor (iT (eV 2)) (tg1 4) [4, 5, 6] (sFor (iL (callM f_boxes_of (aCons (eV 0) (aCons (eV 4) aNil)))) (tg2 5 6) [5, 6] (sSetI 3 (eV 5) (eV 6))))
    (sRet (eJoin (eC (.str [])) (eR 3)))))
def f_seen_after {G : Type} : Fn G := fnD 7 F_seen_after
theorem ok_seen_after (T : Txt K mg) : FnOk P w K mg base (L2.CX P w) 2 T.f_seen_after T.fd_seen_after ["words", "boxes", "stamps"] (spF (TZ K Vw cls) K 3 (f_seen_after (G := (TZ K Vw cls).W.G))) :=
  fn_ok T.d_seen_after.fn sc_seen_after (by decide) fun cdv A outer s H E Ex hr =>
    (dss_cons (ds_set (i := 3) sc_seen_after.nd rfl (Or.inl rfl) (dx_n (dn_rep (DE.r (de_lst (da_cons (de_str [46]) da_nil))) (DE.r (de_name 1)))))
    (dss_cons (ds_for (passes_of rfl) rfl (di_tup (de_name 2)) (dg_name sc_seen_after.nd rfl (Or.inl rfl)) (dss_one (ds_for (passes_of rfl) rfl (di_list (de_call (ok_boxes_of T) (hr.mono (by decide)) rfl T.d_boxes_of.mgx T.d_boxes_of.kp T.b_boxes_of (takes_of rfl rfl rfl rfl) rfl (da_cons (de_name 0) (da_cons (de_name 4) da_nil)) (len_cons (len_cons len_nil)))) (dg_tup2 rfl sc_seen_after.nd rfl (Or.inl rfl) rfl (Or.inl rfl)) (dss_one (ds_seti (i := 3) (de_name 5) (de_name 6))))))
    (dss_one (ds_ret (de_join (de_str []) (dr_name 3))))))
theorem sc_is_way : FnScope ["words", "row", "value"] ["words", "row", "value"] (defScope s_is_way) := ⟨rfl, rfl, rfl, by decide +kernel, rfl, by decide +kernel, by decide +kernel⟩
def F_is_way {G : Type} : SM G := (sSeq (sDrop (callM f_check_row (aCons (eV 0) (aCons (eV 1) aNil))))
    (sRet (eAndM (callM f_are_stamps_on (aCons (eV 0) (aCons (e1 lenD (eV 1)) (aCons (eV 2) aNil)))) (e2 eqD (callM f_seen_after (aCons (eV 0) (aCons (e1 lenD (eV 1)) (aCons (eV 2) aNil)))) (eV 1)))))
def f_is_way {G : Type} : Fn G := fnD 3 F_is_way
theorem ok_is_way (T : Txt K mg) : FnOk P w K mg base (L2.CX P w) 5 T.f_is_way T.fd_is_way ["words", "row", "value"] (spF (TZ K Vw cls) K 3 (f_is_way (G := (TZ K Vw cls).W.G))) :=
  fn_ok T.d_is_way.fn sc_is_way (by decide) fun cdv A outer s H E Ex hr =>
    (dss_cons (ds_drop (de_call (ok_check_row T) (hr.mono (by decide)) rfl T.d_check_row.mgx T.d_check_row.kp T.b_check_row (takes_of rfl rfl rfl rfl) rfl (da_cons (de_name 0) (da_cons (de_name 1) da_nil)) (len_cons (len_cons len_nil))))
    (dss_one (ds_ret (de_and (de_call (ok_are_stamps_on T) (hr.mono (by decide)) rfl T.d_are_stamps_on.mgx T.d_are_stamps_on.kp T.b_are_stamps_on (takes_of rfl rfl rfl rfl) rfl (da_cons (de_name 0) (da_cons (de_b1 c_len rfl T.n_len bt_len (DE.r (de_name 1))) (da_cons (de_name 2) da_nil))) (len_cons (len_cons (len_cons len_nil)))) (de_one (de_cmp (od_eq hr.units) (DE.r (de_call (ok_seen_after T) (hr.mono (by decide)) rfl T.d_seen_after.mgx T.d_seen_after.kp T.b_seen_after (takes_of rfl rfl rfl rfl) rfl (da_cons (de_name 0) (da_cons (de_b1 c_len rfl T.n_len bt_len (DE.r (de_name 1))) (da_cons (de_name 2) da_nil))) (len_cons (len_cons (len_cons len_nil))))) (DE.r (de_name 1))))))))
theorem sc_law : FnScope ["script", "town", "k", "words_here", "boxes", "known", "rows", "row_here", "some", "j"] ["script"] (defScope s_law) := ⟨rfl, rfl, rfl, by decide +kernel, rfl, by decide +kernel, by decide +kernel⟩
def F_law {G : Type} : SM (Tw × G) := (sSeq (sFor (iR1 (eC (.int 4))) (tg1 2) [2, 3, 4, 5, 6, 7, 8, 9] (sSeq (sPar 3 4 (xD (callM f__law_words (aCons (eV 0) (aCons (eV 1) (aCons (eC (.int 3)) (aCons (eC (.str [97, 98, 99])) aNil)))))) (xD (e2 addD (eC (.int 1)) (callM f__law_draw (aCons (eV 0) (aCons (eV 1) (aCons (eC (.int 4)) aNil)))))))
    (sSeq (sAsg 5 (xCallK f__law_levels (aCons (eV 3) (aCons (eV 4) aNil))))
    (sSeq (sAsg 6 (xD (eLock 5 (e1 sortedD (eComp (iKeyD 5) [7] (tg1 7) (tV (e2 ninD (eC (.str [46])) (eV 7))) (eV 7))))))
    (sSeq (sFor (iL (eIfM (tV (e2 neD (eV 6) (eLst aNil))) (eComp (iR1 (eC (.int 6))) [9] (tg1 9) tYesM (e2 ixD (eV 6) (callM f__law_draw (aCons (eV 0) (aCons (eV 1) (aCons (e1 lenD (eV 6)) aNil)))))) (eLst aNil))) (tg1 7) [7, 8] (sSeq (sIf (tNotM (tV (callM f_can_stamp (aCons (eV 3) (aCons (eV 7) aNil))))) (sRet (eC (.bl false))) sSkip)
    (sSeq (sIf (tV (e2 neD (callM f_fewest_stamps (aCons (eV 3) (aCons (eV 7) aNil))) (eDGet 5 (eV 7)))) (sRet (eC (.bl false))) sSkip)
    (sSeq (sAsg 8 (xD (callM f_way (aCons (eV 3) (aCons (eV 7) aNil)))))
    (sIf (tOrM (tV (e2 neD (e1 lenD (eV 8)) (eDGet 5 (eV 7)))) (tNotM (tV (callM f_is_way (aCons (eV 3) (aCons (eV 7) (aCons (eV 8) aNil))))))) (sRet (eC (.bl false))) sSkip)))))
    (sFor (iR1 (eC (.int 4))) (tg1 9) [7, 9] (sSeq (sAsg 7 (xD (callM f__law_word (aCons (eV 0) (aCons (eV 1) (aCons (eC (.int 4)) (aCons (eC (.str [97, 98, 99])) aNil)))))))
    (sIf (tAndM (tV (e2 eqD (e1 lenD (eV 7)) (eV 4))) (tV (e2 neD (callM f_fewest_stamps (aCons (eV 3) (aCons (eV 7) aNil))) (eDGet2 5 (eV 7) (eC .non))))) (sRet (eC (.bl false))) sSkip))))))))
    (sRet (eC (.bl true))))
theorem ok_law (T : Txt K mg) (v0 : Vw.G) (hv : ∀ H, Vw.rep v0 H (fun _ => none)) (hf : ∀ b, ¬ Vw.fp v0 b)
    (law : ∀ (inn : Bool) (a : Addr) (ns : List Int) (t q : Addr), ns.length ≤ 63 → ∃ sl' g', F_law ((some (.d (.ref a)) :: List.replicate 9 none).set 1 (some (.d (.ref t)))) (lawG v0 inn a ns t q) = some (.rt (.bl true), sl', g')) :
    FnOk P w K mg base (L2.CX P w) 6 T.f_law T.fd_law ["script"] (spLaw K) :=
  law_ok (cls := fun _ => .none) 1 v0 hv hf T.d_law.fn sc_law (by decide) rfl
    (fun cdv A outer s H Ex hr => ps_set (i := 1) sc_law.nd rfl (Or.inr rfl) (pe_beg (ok__law_begun T) (hr.mono (by decide)) rfl T.d__law_begun.mgx T.d__law_begun.kp T.b__law_begun (takes_of rfl rfl rfl rfl)))
    (fun cdv A outer s H E Ex hr => (dss_cons (ds_for (passes_of rfl) rfl (di_range1 rfl T.n_range de_int) (dg_name sc_law.nd rfl (Or.inl rfl)) (dss_cons (ds_par (i := 3) (j := 4) rfl sc_law.nd rfl rfl (by decide) rfl rfl (dx_e (de_call (ok__law_words T) (hr.mono (by decide)) rfl T.d__law_words.mgx T.d__law_words.kp T.b__law_words (takes_of rfl rfl rfl rfl) rfl (da_cons (de_name 0) (da_cons (de_name 1) (da_cons de_int (da_cons (de_str [97, 98, 99]) da_nil)))) (len_cons (len_cons (len_cons (len_cons len_nil)))))) (dx_e (de_op od_add (DE.r de_int) (DE.r (de_call (ok__law_draw T) (hr.mono (by decide)) rfl T.d__law_draw.mgx T.d__law_draw.kp T.b__law_draw (takes_of rfl rfl rfl rfl) rfl (da_cons (de_name 0) (da_cons (de_name 1) (da_cons de_int da_nil))) (len_cons (len_cons (len_cons len_nil))))))) rfl)
    (dss_cons (ds_set (i := 5) sc_law.nd rfl (Or.inl rfl) (dx_callK (ok__law_levels T) (hr.mono (by decide)) rfl T.d__law_levels.mgx T.d__law_levels.kp T.b__law_levels (takes_of rfl rfl rfl rfl) rfl (da_cons (de_name 3) (da_cons (de_name 4) da_nil)) (len_cons (len_cons len_nil))))
    (dss_cons (ds_set (i := 6) sc_law.nd rfl (Or.inr rfl) (dx_e (de_lock 5 (de_b1 c_sorted rfl T.n_sorted bt_sorted (DE.r (de_n (dn_comp (own := [("row_here", 7)]) rfl sc_law.nd (di_keys (i := 5)) (blkOk_by (N := ["script", "town", "k", "words_here", "boxes", "known", "rows", "row_here", "some", "j"]) (sc := defScope s_law) (by decide +kernel)) (fun _ _ _ _ _ => ((dg_name sc_law.nd rfl (Or.inl rfl))).pg) (tgok1 7) (fun _ _ _ _ _ => (dts_one (dt_cmp od_nin (DE.r (de_str [46])) (DE.r (de_name 7))))) (fun _ _ _ _ _ => (de_name 7)) (by decide))))))))
    (dss_cons (ds_for (passes_of rfl) rfl (di_list (de_if (dt_cmp (od_ne hr.units) (DE.r (de_name 6)) (DE.r (de_lst da_nil))) (de_n (dn_comp (own := [("j", 9)]) rfl sc_law.nd (di_range1 rfl T.n_range de_int) (blkOk_by (N := ["script", "town", "k", "words_here", "boxes", "known", "rows", "row_here", "some", "j"]) (sc := defScope s_law) (by decide +kernel)) (fun _ _ _ _ _ => ((dg_name sc_law.nd rfl (Or.inl rfl))).pg) (tgok1 9) (fun _ _ _ _ _ => dts_nil) (fun _ _ _ _ _ => (de_ix (DE.r (de_name 6)) (DE.r (de_call (ok__law_draw T) (hr.mono (by decide)) rfl T.d__law_draw.mgx T.d__law_draw.kp T.b__law_draw takes0 rfl (da_cons (de_name 0) (da_cons (de_name 1) (da_cons (de_b1 c_len rfl T.n_len bt_len (DE.r (de_name 6))) da_nil))) (len_cons (len_cons (len_cons len_nil))))))) (by decide))) (de_lst da_nil))) (dg_name sc_law.nd rfl (Or.inl rfl)) (dss_cons (ds_if (dt_not (dt_val (de_call (ok_can_stamp T) (hr.mono (by decide)) rfl T.d_can_stamp.mgx T.d_can_stamp.kp T.b_can_stamp (takes_of rfl rfl rfl rfl) rfl (da_cons (de_name 3) (da_cons (de_name 7) da_nil)) (len_cons (len_cons len_nil))))) (dss_one (ds_ret de_bl)) dss_nil)
    (dss_cons (ds_if (dt_cmp (od_ne hr.units) (DE.r (de_callKw (ok_fewest_stamps T) (hr.mono (by decide)) rfl T.d_fewest_stamps.mgx T.d_fewest_stamps.kp T.kb_fewest_stamps (takes_of rfl rfl rfl rfl) rfl (dk_cons (de_name 3) (dk_cons (de_name 7) dk_nil)) (len_cons (len_cons len_nil)))) (DE.r (de_dget (i := 5) (hu_of hr) (de_name 7)))) (dss_one (ds_ret de_bl)) dss_nil)
    (dss_cons (ds_set (i := 8) sc_law.nd rfl (Or.inl rfl) (dx_e (de_call (ok_way T) (hr.mono (by decide)) rfl T.d_way.mgx T.d_way.kp T.b_way (takes_of rfl rfl rfl rfl) rfl (da_cons (de_name 3) (da_cons (de_name 7) da_nil)) (len_cons (len_cons len_nil)))))
    (dss_one (ds_if (DW.pt (dw_or (dt_cmp (od_ne hr.units) (DE.r (de_b1 c_len rfl T.n_len bt_len (DE.r (de_name 8)))) (DE.r (de_dget (i := 5) (hu_of hr) (de_name 7)))) (dw_or1 (dt_not (dt_val (de_call (ok_is_way T) (hr.mono (by decide)) rfl T.d_is_way.mgx T.d_is_way.kp T.b_is_way (takes_of rfl rfl rfl rfl) rfl (da_cons (de_name 3) (da_cons (de_name 7) (da_cons (de_name 8) da_nil))) (len_cons (len_cons (len_cons len_nil))))))))) (dss_one (ds_ret de_bl)) dss_nil))))))
    (dss_one (ds_for (passes_of rfl) rfl (di_range1 rfl T.n_range de_int) (dg_name sc_law.nd rfl (Or.inl rfl)) (dss_cons (ds_set (i := 7) sc_law.nd rfl (Or.inl rfl) (dx_e (de_call (ok__law_word T) (hr.mono (by decide)) rfl T.d__law_word.mgx T.d__law_word.kp T.b__law_word (takes_of rfl rfl rfl rfl) rfl (da_cons (de_name 0) (da_cons (de_name 1) (da_cons de_int (da_cons (de_str [97, 98, 99]) da_nil)))) (len_cons (len_cons (len_cons (len_cons len_nil)))))))
    (dss_one (ds_if (DW.pt (dw_and (dt_cmp (od_eq hr.units) (DE.r (de_b1 c_len rfl T.n_len bt_len (DE.r (de_name 7)))) (DE.r (de_name 4))) (dw_and1 (dt_cmp (od_ne hr.units) (DE.r (de_call (ok_fewest_stamps T) (hr.mono (by decide)) rfl T.d_fewest_stamps.mgx T.d_fewest_stamps.kp T.b_fewest_stamps (takes_of rfl rfl rfl rfl) rfl (da_cons (de_name 3) (da_cons (de_name 7) da_nil)) (len_cons (len_cons len_nil)))) (DE.r (de_dget2 (i := 5) (hu_of hr) (de_name 7) de_non)))))) (dss_one (ds_ret de_bl)) dss_nil))))))))))
    (dss_one (ds_ret de_bl)))) law
end
def F_check_boxes {G : Type} : SM G := (sIf (tNotM (tV (callM f_is_between (aCons (eV 0) (aCons (eC (.int 1)) (aCons (eC (.int 8)) aNil)))))) (fun _ _ => none) sSkip)
def f_check_boxes {G : Type} : Fn G := fnD 1 F_check_boxes
def F_check_both {G : Type} : SM G := (sSeq (sDrop (callM f_check_words (aCons (eV 0) aNil)))
    (sDrop (callM f_check_boxes (aCons (eV 1) aNil))))
def f_check_both {G : Type} : Fn G := fnD 2 F_check_both
def F_check_stamps {G : Type} : SM G := (sSeq (sDrop (callM f_check_both (aCons (eV 0) (aCons (eV 1) aNil))))
    (sIf (tNotM (tV (callM f_are_stamps_on (aCons (eV 0) (aCons (eV 1) (aCons (eV 2) aNil)))))) (fun _ _ => none) sSkip))
def f_check_stamps {G : Type} : Fn G := fnD 3 F_check_stamps
def F_seen {G : Type} : SM G := (sSeq (sDrop (callM f_check_stamps (aCons (eV 0) (aCons (eV 1) (aCons (eV 2) aNil)))))
    (sRet (callM f_seen_after (aCons (eV 0) (aCons (eV 1) (aCons (eV 2) aNil))))))
def f_seen {G : Type} : Fn G := fnD 3 F_seen
def F_last_stamps {G : Type} : SM G := (sSeq (sDrop (callM f_check_stamps (aCons (eV 0) (aCons (eV 1) (aCons (eV 2) aNil)))))
    (sSeq (sAsg 3 (xL (e2 repD (eLst (aCons (eC .non) aNil)) (eV 1))))
    (sSeq (sFor (iEnT (eV 2)) (tg2 4 5) [4, 5, 6, 7] (sFor (iL (callM f_boxes_of (aCons (eV 0) (aCons (eV 5) aNil)))) (tg2 6 7) [6, 7] (sSetI 3 (eV 6) (eV 4))))
    (sRet (e1 tupD (eR 3))))))
def f_last_stamps {G : Type} : Fn G := fnD 8 F_last_stamps
def F__law_stamps {G : Type} : SM (Tw × G) := (sSeq (sAsg 5 (xD (eTup aNil)))
    (sSeq (sFor (iR1 (callM f__law_draw (aCons (eV 0) (aCons (eV 1) (aCons (e2 addD (eV 4) (eC (.int 1))) aNil))))) (tg1 6) [6, 7, 8] (sSeq (sAsg 7 (xD (callM f__law_draw (aCons (eV 0) (aCons (eV 1) (aCons (e1 lenD (eV 2)) aNil))))))
    (sSeq (sAsg 8 (xD (e2 subD (eV 3) (e1 lenD (e2 ixD (eV 2) (eV 7))))))
    (sIf (tV (e2 geD (eV 8) (eC (.int 0)))) (sAsg 5 (xD (e2 addD (eV 5) (eTup (aCons (eTup (aCons (eV 7) (aCons (callM f__law_draw (aCons (eV 0) (aCons (eV 1) (aCons (e2 addD (eV 8) (eC (.int 1))) aNil)))) aNil))) aNil))))) sSkip))))
    (sRet (eV 5))))
def f__law_stamps {G : Type} : Fn (Tw × G) := fnD 9 F__law_stamps
def F_hidden_stamps {G : Type} : SM G := (sSeq (sDrop (callM f_check_stamps (aCons (eV 0) (aCons (eV 1) (aCons (eV 2) aNil)))))
    (sSeq (sPar 3 4 (xD (callM f_seen_after (aCons (eV 0) (aCons (eV 1) (aCons (eV 2) aNil))))) (xL (eLst aNil)))
    (sSeq (sFor (iR1 (e1 lenD (eV 2))) (tg1 5) [5] (sIf (tV (e2 eqD (callM f_seen_after (aCons (eV 0) (aCons (eV 1) (aCons (e2 addD (eSl (eV 2) oN (oS (eV 5))) (eSl (eV 2) (oS (e2 addD (eV 5) (eC (.int 1)))) oN)) aNil)))) (eV 3))) (sApp 4 (eV 5)) sSkip))
    (sRet (e1 tupD (eR 4))))))
def f_hidden_stamps {G : Type} : Fn G := fnD 6 F_hidden_stamps
def F_can_exchange {G : Type} : SM G := (sSeq (sDrop (callM f_check_both (aCons (eV 0) (aCons (eV 1) aNil))))
    (sSeq (sIf (tOrM (tNotM (tV (callM f_is_stamp (aCons (eV 0) (aCons (eV 1) (aCons (eV 2) aNil)))))) (tNotM (tV (callM f_is_stamp (aCons (eV 0) (aCons (eV 1) (aCons (eV 3) aNil))))))) (fun _ _ => none) sSkip)
    (sSeq (sPar 4 5 (xDict (callM f_boxes_of (aCons (eV 0) (aCons (eV 2) aNil)))) (xDict (callM f_boxes_of (aCons (eV 0) (aCons (eV 3) aNil)))))
    (sRet (eLock 4 (e1 allD (eComp (iKeyD 4) [6] (tg1 6) (tV (eDIn 5 (eV 6))) (e2 eqD (eDGet 4 (eV 6)) (eDGet 5 (eV 6))))))))))
def f_can_exchange {G : Type} : Fn G := fnD 7 F_can_exchange
def F_stuck_boxes {G : Type} : SM G := (sSeq (sDrop (callM f_check_row (aCons (eV 0) (aCons (eV 1) aNil))))
    (sSeq (sAsg 2 (xD (e2 ixD (callM f_freed_in (aCons (eV 0) (aCons (eV 1) (aCons (eC (.int 0)) aNil)))) (eC (.int 0)))))
    (sRet (e1 tupD (eComp (iR1 (e1 lenD (eV 1))) [3] (tg1 3) (tV (e2 ninD (eV 3) (eV 2))) (eV 3))))))
def f_stuck_boxes {G : Type} : Fn G := fnD 4 F_stuck_boxes
def F_check_length {G : Type} : SM G := (sSeq (sDrop (callM f_check_words (aCons (eV 0) aNil)))
    (sIf (tNotM (tV (callM f_is_between (aCons (eV 1) (aCons (eC (.int 1)) (aCons (eC (.int 5)) aNil)))))) (fun _ _ => none) sSkip))
def f_check_length {G : Type} : Fn G := fnD 2 F_check_length
def F_strings_of {G : Type} : SM G := (sSeq (sAsg 2 (xD (eLst (aCons (eC (.str [])) aNil))))
    (sSeq (sFor (iR1 (eV 1)) (tg1 3) [3, 4, 5] (sSeq (sAsg 4 (xL (eLst aNil)))
    (sSeq (sFor (iL (eV 2)) (tg1 5) [5] (sExt 4 (eComp (iL (eV 0)) [6] (tg1 6) tYesM (e2 addD (eV 5) (eV 6)))))
    (sFrz 4 (sAsg 2 (xD (eV 4)))))))
    (sRet (eV 2))))
def f_strings_of {G : Type} : Fn G := fnD 7 F_strings_of
def F_letters_of {G : Type} : SM G := (sRet (e1 sortSetD (eJoin (eC (.str [])) (eV 0))))
def f_letters_of {G : Type} : Fn G := fnD 1 F_letters_of
def F_stamped_of {G : Type} : SM G := (sSeq (sDrop (callM f_check_length (aCons (eV 0) (aCons (eV 1) aNil))))
    (sRet (eComp (iL (callM f_strings_of (aCons (callM f_letters_of (aCons (eV 0) aNil)) (aCons (eV 1) aNil)))) [2] (tg1 2) (tV (callM f_is_stamped (aCons (eV 0) (aCons (eV 2) aNil)))) (eV 2))))
def f_stamped_of {G : Type} : Fn G := fnD 3 F_stamped_of
def F_rows_of {G : Type} : SM G := (sRet (e1 tupD (callM f_stamped_of (aCons (eV 0) (aCons (eV 1) aNil)))))
def f_rows_of {G : Type} : Fn G := fnD 2 F_rows_of
def F_count_rows {G : Type} : SM G := (sRet (e1 lenD (callM f_stamped_of (aCons (eV 0) (aCons (eV 1) aNil)))))
def f_count_rows {G : Type} : Fn G := fnD 2 F_count_rows
def F_first_missing {G : Type} : SM G := (sSeq (sDrop (callM f_check_length (aCons (eV 0) (aCons (eV 1) aNil))))
    (sSeq (sFor (iL (callM f_strings_of (aCons (callM f_letters_of (aCons (eV 0) aNil)) (aCons (eV 1) aNil)))) (tg1 2) [2] (sIf (tNotM (tV (callM f_is_stamped (aCons (eV 0) (aCons (eV 2) aNil))))) (sRet (eV 2)) sSkip))
    (sRet (eC .non))))
def f_first_missing {G : Type} : Fn G := fnD 3 F_first_missing
def F_shown {G : Type} : SM G := (sSeq (sUnp (callM f_freed_in (aCons (eV 0) (aCons (eV 1) (aCons (eC (.int 3)) aNil)))) (tg2 2 3))
    (sRet (eIfM (tV (e2 eqD (e1 lenD (eV 2)) (e1 lenD (eV 1)))) (eV 3) (eC .non))))
def f_shown {G : Type} : Fn G := fnD 4 F_shown
def F_row_with {G : Type} : SM G := (sSeq (sDrop (callM f_check_row (aCons (eV 0) (aCons (eV 1) aNil))))
    (sSeq (sPar 2 3 (xD (callM f_shown (aCons (eV 0) (aCons (eV 1) aNil)))) xDnew)
    (sSeq (sIf (tV (e2 isN (eV 2) (eC .non))) (sRet (eC .non)) sSkip)
    (sSeq (sFor (iL (e1 revLD (eV 2))) (tg1 4) [4] (sUpd 3 (callM f_boxes_of (aCons (eV 0) (aCons (eV 4) aNil)))))
    (sRet (eJoin (eC (.str [])) (eComp (iL (eSortK 3)) [5] (tg1 5) tYesM (eDGet 3 (eV 5)))))))))
def f_row_with {G : Type} : Fn G := fnD 6 F_row_with
def F_can_show {G : Type} : SM G := (sSeq (sDrop (callM f_check_row (aCons (eV 0) (aCons (eV 1) aNil))))
    (sRet (e2 notN (callM f_shown (aCons (eV 0) (aCons (eV 1) aNil))) (eC .non))))
def f_can_show {G : Type} : Fn G := fnD 2 F_can_show
def F_is_row_with {G : Type} : SM G := (sSeq (sDrop (callM f_check_row (aCons (eV 0) (aCons (eV 1) aNil))))
    (sRet (eAndM (callM f_is_string_of (aCons (eV 2) (aCons (eC (.int 16)) aNil))) (eAndM (e2 inD (eV 1) (eV 2)) (callM f_is_stamped (aCons (eV 0) (aCons (eV 2) aNil)))))))
def f_is_row_with {G : Type} : Fn G := fnD 3 F_is_row_with
def F_check_two {G : Type} : SM G := (sSeq (sDrop (callM f_check_words (aCons (eV 0) aNil)))
    (sDrop (callM f_check_words (aCons (eV 1) aNil))))
def f_check_two {G : Type} : Fn G := fnD 2 F_check_two
def F_left_out {G : Type} : SM G := (sRet (eComp (iT (eV 1)) [2] (tg1 2) (tNotM (tV (callM f_is_stamped (aCons (eV 0) (aCons (eV 2) aNil))))) (eTup (aCons (e1 lenD (eV 2)) (aCons (eV 2) aNil)))))
def f_left_out {G : Type} : Fn G := fnD 3 F_left_out
def F_parting_row {G : Type} : SM G := (sSeq (sDrop (callM f_check_two (aCons (eV 0) (aCons (eV 1) aNil))))
    (sSeq (sAsg 2 (xD (e2 addD (callM f_left_out (aCons (eV 0) (aCons (eV 1) aNil))) (callM f_left_out (aCons (eV 1) (aCons (eV 0) aNil))))))
    (sRet (eIfM (tV (e2 neD (eV 2) (eLst aNil))) (e2 ixD (e1 minPD (eV 2)) (eC (.int 1))) (eC .non)))))
def f_parting_row {G : Type} : Fn G := fnD 3 F_parting_row
def F_stamps_all_of {G : Type} : SM G := (sSeq (sDrop (callM f_check_two (aCons (eV 0) (aCons (eV 1) aNil))))
    (sRet (e2 eqD (callM f_left_out (aCons (eV 0) (aCons (eV 1) aNil))) (eLst aNil))))
def f_stamps_all_of {G : Type} : Fn G := fnD 2 F_stamps_all_of
def F_are_same {G : Type} : SM G := (sSeq (sDrop (callM f_check_two (aCons (eV 0) (aCons (eV 1) aNil))))
    (sRet (e2 eqD (e2 addD (callM f_left_out (aCons (eV 0) (aCons (eV 1) aNil))) (callM f_left_out (aCons (eV 1) (aCons (eV 0) aNil)))) (eLst aNil))))
def f_are_same {G : Type} : Fn G := fnD 2 F_are_same
def F_is_parting {G : Type} : SM G := (sSeq (sDrop (callM f_check_two (aCons (eV 0) (aCons (eV 1) aNil))))
    (sRet (eAndM (callM f_is_row (aCons (eV 2) aNil)) (e2 neD (callM f_is_stamped (aCons (eV 0) (aCons (eV 2) aNil))) (callM f_is_stamped (aCons (eV 1) (aCons (eV 2) aNil)))))))
def f_is_parting {G : Type} : Fn G := fnD 3 F_is_parting
def F_needless_in {G : Type} : SM G := (sSeq (sAsg 1 (xL (eLst aNil)))
    (sSeq (sFor (iEnT (eV 0)) (tg2 2 3) [2, 3] (sIf (tV (callM f_is_stamped (aCons (e2 addD (eSl (eV 0) oN (oS (eV 2))) (eSl (eV 0) (oS (e2 addD (eV 2) (eC (.int 1)))) oN)) (aCons (eV 3) aNil)))) (sApp 1 (eV 2)) sSkip))
    (sFrz 1 (sRet (eV 1)))))
def f_needless_in {G : Type} : Fn G := fnD 4 F_needless_in
def F_needless_words {G : Type} : SM G := (sSeq (sDrop (callM f_check_words (aCons (eV 0) aNil)))
    (sRet (e1 tupD (callM f_needless_in (aCons (eV 0) aNil)))))
def f_needless_words {G : Type} : Fn G := fnD 1 F_needless_words
def F_base {G : Type} : SM G := (sSeq (sDrop (callM f_check_words (aCons (eV 0) aNil)))
    (sSeq (sAsg 1 (xD (callM f_needless_in (aCons (eV 0) aNil))))
    (sSeq (sWhile (tV (e2 neD (eV 1) (eLst aNil))) [2] (sSeq (sAsg 2 (xD (e2 ixD (e1 maxPD (eComp (iL (eV 1)) [3] (tg1 3) tYesM (eTup (aCons (e1 lenD (e2 ixD (eV 0) (eV 3))) (aCons (eV 3) aNil))))) (eC (.int 1)))))
    (sSeq (sAsg 0 (xD (e2 addD (eSl (eV 0) oN (oS (eV 2))) (eSl (eV 0) (oS (e2 addD (eV 2) (eC (.int 1)))) oN))))
    (sAsg 1 (xD (callM f_needless_in (aCons (eV 0) aNil)))))) 1000)
    (sRet (eV 0)))))
def f_base {G : Type} : Fn G := fnD 4 F_base
end Lw
/-! plain: boxes that are freed -/
namespace Fr
abbrev Ws := List (List Nat)
abbrev St := Nat × Int
def wd (ws : Ws) (n : Nat) : List Nat := ws.getD n []
/-- the sign that a stamp puts on a box -/
def cv (ws : Ws) (s : St) (b : Nat) : Option Nat := if s.2 ≤ (b : Int) then (wd ws s.1)[((b : Int) - s.2).toNat]? else none
def On (ws : Ws) (lo hi : Int) (s : St) : Prop := s.1 < ws.length ∧ lo ≤ s.2 ∧ s.2 + ((wd ws s.1).length : Int) ≤ hi
/-- the box can be freed -/
inductive Free (ws : Ws) (row : List Nat) (over : Nat) : Nat → Prop
  | mk {b c : Nat} (s : St) : On ws (-(over : Int)) ((row.length : Int) + over) s → cv ws s b = some c → b < row.length →
      (∀ b' c', b' < row.length → cv ws s b' = some c' → row[b']? ≠ some c' → Free ws row over b') → Free ws row over b
/-- the boxes of a stamp, from p on -/
def bs : List Nat → Int → List (Int × Nat)
  | [], _ => []
  | c :: w, p => (p, c) :: bs w (p + 1)
/-- what a stamp frees: none where a sign is another one -/
def by1 (row free : List Nat) : List (Int × Nat) → List Nat → List Nat
  | [], acc => acc
  | (p, c) :: r, acc => if 0 ≤ p ∧ p < row.length ∧ p.toNat ∉ free then (if row[p.toNat]? = some c then by1 row free r (acc ++ [p.toNat]) else []) else by1 row free r acc
def frBy (ws : Ws) (row free : List Nat) (s : St) : List Nat := by1 row free (bs (wd ws s.1) s.2) []
def pass (ws : Ws) (row : List Nat) : List St → List Nat → List St → List Nat × List St
  | [], free, dn => (free, dn)
  | s :: ss, free, dn => match frBy ws row free s with
    | [] => pass ws row ss free dn
    | m => pass ws row ss (free ++ m) (dn ++ [s])
theorem bs_mem : ∀ {w : List Nat} {p : Int} {z : Int} {c : Nat}, (z, c) ∈ bs w p ↔ p ≤ z ∧ w[(z - p).toNat]? = some c
  | [], p, z, c => by simp [bs]
  | d :: w, p, z, c => by
    rw [bs, List.mem_cons, bs_mem (w := w) (p := p + 1)]
    constructor
    · rintro (h | ⟨h1, h2⟩)
      · have h1 : z = p := (Prod.mk.inj h).1
        have h2 : c = d := (Prod.mk.inj h).2
        subst h1 h2
        simp
      · refine ⟨by omega, ?_⟩
        rw [show (z - p).toNat = (z - (p + 1)).toNat + 1 by omega]
        simpa using h2
    · rintro ⟨h1, h2⟩
      by_cases hz : z = p
      · subst hz
        simp at h2
        exact .inl (by rw [h2])
      · refine .inr ⟨by omega, ?_⟩
        rw [show (z - p).toNat = (z - (p + 1)).toNat + 1 by omega] at h2
        simpa using h2
theorem cv_bs {ws : Ws} {s : St} {b c : Nat} : cv ws s b = some c ↔ ((b : Int), c) ∈ bs (wd ws s.1) s.2 := by
  rw [bs_mem]
  unfold cv
  by_cases h : s.2 ≤ (b : Int)
  · rw [if_pos h]; simp [h]
  · rw [if_neg h]; simp [h]
theorem bs_nodup : ∀ (w : List Nat) (p : Int), (bs w p).Pairwise (fun x y => x.1 < y.1)
  | [], _ => .nil
  | c :: w, p => by
    rw [bs]
    refine List.pairwise_cons.mpr ⟨fun x hx => ?_, bs_nodup w (p + 1)⟩
    obtain ⟨z, d⟩ := x
    have := (bs_mem.mp hx).1
    show p < z
    omega

/-- a box that a stamp would free -/
def rel (row free : List Nat) (x : Int × Nat) : Bool := decide (0 ≤ x.1 ∧ x.1 < row.length ∧ x.1.toNat ∉ free)
def fits (row free : List Nat) (l : List (Int × Nat)) : Bool := l.all fun x => !rel row free x || decide (row[x.1.toNat]? = some x.2)
theorem by1_eq (row free : List Nat) : ∀ (l : List (Int × Nat)) (acc : List Nat), by1 row free l acc = if fits row free l = true then acc ++ (l.filter (rel row free)).map (·.1.toNat) else []
  | [], acc => by simp [by1, fits]
  | (p, c) :: r, acc => by
    unfold by1
    by_cases h : 0 ≤ p ∧ p < row.length ∧ p.toNat ∉ free
    · have hr : rel row free (p, c) = true := decide_eq_true h
      rw [if_pos h]
      by_cases hm : row[p.toNat]? = some c
      · rw [if_pos hm, by1_eq row free r]
        have : fits row free ((p, c) :: r) = fits row free r := by simp [fits, hr, hm]
        rw [this, List.filter_cons, if_pos hr]
        split
        · simp
        · rfl
      · rw [if_neg hm]
        have : ¬ fits row free ((p, c) :: r) = true := by simp [fits, hr, hm]
        rw [if_neg this]
    · have hr : rel row free (p, c) = false := decide_eq_false h
      rw [if_neg h, by1_eq row free r]
      have : fits row free ((p, c) :: r) = fits row free r := by simp [fits, hr]
      rw [this, List.filter_cons, hr]
      rfl

theorem frBy_mem {ws : Ws} {row free : List Nat} {s : St} {b : Nat} (h : b ∈ frBy ws row free s) : b < row.length ∧ b ∉ free ∧ (∃ c, cv ws s b = some c) ∧ ∀ b' c', b' < row.length → cv ws s b' = some c' → row[b']? ≠ some c' → b' ∈ free := by
  unfold frBy at h
  rw [by1_eq] at h
  split at h
  · rename_i hf
    rw [List.nil_append] at h
    obtain ⟨⟨p, c⟩, hp, rfl⟩ := List.mem_map.mp h
    obtain ⟨h1, h2⟩ := List.mem_filter.mp hp
    have h3 : 0 ≤ p ∧ p < row.length ∧ p.toNat ∉ free := of_decide_eq_true h2
    refine ⟨by show p.toNat < _; omega, h3.2.2, ⟨c, cv_bs.mpr ?_⟩, fun b' c' hb hc hne => ?_⟩
    · show ((p.toNat : Int), c) ∈ _
      rw [show (p.toNat : Int) = p by omega]; exact h1
    · have := List.all_eq_true.mp hf ((b' : Int), c') (cv_bs.mp hc)
      rw [Bool.or_eq_true] at this
      rcases this with z | z
      · have z2 : rel row free ((b' : Int), c') = false := by simpa using z
        have z3 := of_decide_eq_false z2
        by_cases hm : b' ∈ free
        · exact hm
        · exact absurd ⟨by omega, by show (b' : Int) < _; omega, by simpa using hm⟩ z3
      · have := of_decide_eq_true z
        simp at this
        exact absurd this hne
  · cases h
theorem frBy_all {ws : Ws} {row free : List Nat} {s : St} (hn : ∀ b' c', b' < row.length → cv ws s b' = some c' → row[b']? ≠ some c' → b' ∈ free) {b c : Nat} (hb : b < row.length) (hc : cv ws s b = some c) (hf : b ∉ free) : b ∈ frBy ws row free s := by
  unfold frBy
  rw [by1_eq, if_pos, List.nil_append]
  · refine List.mem_map.mpr ⟨((b : Int), c), List.mem_filter.mpr ⟨cv_bs.mp hc, decide_eq_true ⟨by omega, by show (b : Int) < _; omega, by simpa using hf⟩⟩, by simp⟩
  · refine List.all_eq_true.mpr fun x hx => ?_
    obtain ⟨p, d⟩ := x
    rw [Bool.or_eq_true]
    by_cases hr : rel row free (p, d) = true
    · have h3 : 0 ≤ p ∧ p < row.length ∧ p.toNat ∉ free := of_decide_eq_true hr
      refine .inr (decide_eq_true ?_)
      show row[p.toNat]? = some d
      by_cases hm : row[p.toNat]? = some d
      · exact hm
      · refine absurd (hn p.toNat d (by omega) (cv_bs.mpr ?_) hm) h3.2.2
        rw [show (p.toNat : Int) = p by omega]; exact hx
    · exact .inl (by simpa using hr)

theorem frBy_nodup {ws : Ws} {row free : List Nat} {s : St} : (frBy ws row free s).Nodup := by
  unfold frBy
  rw [by1_eq]
  split
  · rw [List.nil_append]
    refine List.pairwise_map.mpr (List.Pairwise.imp_of_mem (fun {x y} hx hy hlt e => ?_) ((bs_nodup (wd ws s.1) s.2).filter _))
    have h1 : 0 ≤ x.1 ∧ _ := of_decide_eq_true (List.mem_filter.mp hx).2
    have h2 : 0 ≤ y.1 ∧ _ := of_decide_eq_true (List.mem_filter.mp hy).2
    have := h1.1
    have := h2.1
    omega
  · exact .nil
/-- what is true of the freed boxes all the while -/
structure Good (ws : Ws) (row : List Nat) (over : Nat) (free : List Nat) : Prop where
  nd : free.Nodup
  ok : ∀ b ∈ free, b < row.length ∧ Free ws row over b
theorem Good.step {ws : Ws} {row free : List Nat} {over : Nat} {s : St} (g : Good ws row over free) (hs : On ws (-(over : Int)) ((row.length : Int) + over) s) : Good ws row over (free ++ frBy ws row free s) := by
  refine ⟨List.nodup_append.mpr ⟨g.nd, frBy_nodup, fun x hx y hy e => ?_⟩, fun b hb => ?_⟩
  · subst e
    exact (frBy_mem hy).2.1 hx
  · rcases List.mem_append.mp hb with h | h
    · exact g.ok b h
    · obtain ⟨h1, h2, ⟨c, h3⟩, h4⟩ := frBy_mem h
      exact ⟨h1, .mk s hs h3 h1 fun b' c' q1 q2 q3 => (g.ok b' (h4 b' c' q1 q2 q3)).2⟩
theorem pass_good {ws : Ws} {row : List Nat} {over : Nat} : ∀ (ss : List St) (free : List Nat) (dn : List St), (∀ s ∈ ss, On ws (-(over : Int)) ((row.length : Int) + over) s) → Good ws row over free → Good ws row over (pass ws row ss free dn).1
  | [], free, dn, _, g => g
  | s :: ss, free, dn, hs, g => by
    unfold pass
    split
    · exact pass_good ss free dn (fun t ht => hs t (by simp [ht])) g
    · exact pass_good ss _ _ (fun t ht => hs t (by simp [ht])) (g.step (hs s (by simp)))
theorem pass_le {ws : Ws} {row : List Nat} : ∀ (ss : List St) (free : List Nat) (dn : List St), free.length ≤ (pass ws row ss free dn).1.length
  | [], free, dn => Nat.le_refl _
  | s :: ss, free, dn => by
    unfold pass
    split
    · exact pass_le ss free dn
    · refine Nat.le_trans ?_ (pass_le ss _ _)
      rw [List.length_append]; omega
/-- a pass that frees nothing: no stamp frees anything -/
theorem pass_same {ws : Ws} {row : List Nat} : ∀ (ss : List St) (free : List Nat) (dn : List St), (pass ws row ss free dn).1.length = free.length → ∀ s ∈ ss, frBy ws row free s = []
  | [], free, dn, _, s, h => by cases h
  | t :: ss, free, dn, e, s, h => by
    unfold pass at e
    split at e
    · rename_i h0
      rcases List.mem_cons.mp h with rfl | h
      · exact h0
      · exact pass_same ss free dn e s h
    · rename_i m hne
      have := pass_le (ws := ws) (row := row) ss (free ++ frBy ws row free t) (dn ++ [t])
      rw [e, List.length_append] at this
      have hz : (frBy ws row free t).length = 0 := by omega
      exact absurd (List.length_eq_zero_iff.mp hz) hne
/-- where no stamp frees anything, all that can be freed is free -/
theorem closed {ws : Ws} {row free : List Nat} {over : Nat} (h : ∀ s, On ws (-(over : Int)) ((row.length : Int) + over) s → frBy ws row free s = []) : ∀ b, Free ws row over b → b ∈ free := by
  intro b hb
  induction hb with
  | @mk b c s hs hc hlt hne ih =>
    by_cases hm : b ∈ free
    · exact hm
    · have := frBy_all (free := free) (fun b' c' q1 q2 q3 => ih b' c' q1 q2 q3) hlt hc hm
      rw [h s hs] at this
      cases this
end Fr
namespace Fr
theorem nd_le : ∀ (l D : List Nat), l.Nodup → (∀ x ∈ l, x ∈ D) → l.length ≤ D.length
  | [], _, _, _ => Nat.zero_le _
  | x :: l, D, h, hs => by
    obtain ⟨h1, h2⟩ := List.nodup_cons.mp h
    have hx := hs x (by simp)
    have ih := nd_le l (D.erase x) h2 fun y hy => (List.mem_erase_of_ne (fun e => h1 (by rw [← e]; exact hy))).mpr (hs y (by simp [hy]))
    rw [List.length_erase_of_mem hx] at ih
    have := List.length_pos_of_mem hx
    simp only [List.length_cons]
    omega
theorem nd_lt {l : List Nat} {n : Nat} (h : l.Nodup) (hs : ∀ x ∈ l, x < n) : l.length ≤ n := by
  have := nd_le l (List.range n) h fun x hx => List.mem_range.mpr (hs x hx)
  simpa using this
theorem nd_all {l : List Nat} {n : Nat} (h : l.Nodup) (hs : ∀ x ∈ l, x < n) : l.length = n ↔ ∀ b, b < n → b ∈ l := by
  constructor
  · intro e b hb
    refine Classical.byContradiction fun hn => ?_
    have := nd_le (b :: l) (List.range n) (List.nodup_cons.mpr ⟨hn, h⟩) fun x hx => by
      rcases List.mem_cons.mp hx with rfl | hx
      · exact List.mem_range.mpr hb
      · exact List.mem_range.mpr (hs x hx)
    simp at this
    omega
  · intro hall
    have h1 := nd_lt h hs
    have h2 := nd_le (List.range n) l List.nodup_range fun x hx => hall x (List.mem_range.mp hx)
    simp at h2
    omega
/-! ### the stamps that are on the boxes -/
def stOn (lo hi : Int) : Nat → Ws → List St
  | _, [] => []
  | k, w :: ws => (List.range (hi - w.length + 1 - lo).toNat).map (fun i => (k, lo + (i : Nat))) ++ stOn lo hi (k + 1) ws
theorem stOn_mem {lo hi : Int} : ∀ {ws : Ws} {k : Nat} {s : St}, s ∈ stOn lo hi k ws ↔ ∃ w, k ≤ s.1 ∧ ws[s.1 - k]? = some w ∧ lo ≤ s.2 ∧ s.2 + (w.length : Int) ≤ hi
  | [], k, s => by simp [stOn]
  | w :: ws, k, s => by
    rw [stOn, List.mem_append, stOn_mem (ws := ws) (k := k + 1)]
    constructor
    · rintro (h | ⟨w', h1, h2, h3, h4⟩)
      · obtain ⟨i, hi', rfl⟩ := List.mem_map.mp h
        have := List.mem_range.mp hi'
        exact ⟨w, Nat.le_refl _, by simp, by show lo ≤ lo + (i : Int); omega, by show lo + (i : Int) + _ ≤ _; omega⟩
      · refine ⟨w', by omega, ?_, h3, h4⟩
        rw [show s.1 - k = (s.1 - (k + 1)) + 1 by omega]
        simpa using h2
    · rintro ⟨w', h1, h2, h3, h4⟩
      by_cases he : s.1 = k
      · left
        rw [he] at h2
        simp at h2
        subst h2
        refine List.mem_map.mpr ⟨(s.2 - lo).toNat, List.mem_range.mpr (by omega), ?_⟩
        obtain ⟨a, b⟩ := s
        simp only at he h3 h4 ⊢
        subst he
        congr 1
        omega
      · right
        refine ⟨w', by omega, ?_, h3, h4⟩
        rw [show s.1 - k = (s.1 - (k + 1)) + 1 by omega] at h2
        simpa using h2
theorem stOn_on {lo hi : Int} {ws : Ws} {s : St} : s ∈ stOn lo hi 0 ws ↔ On ws lo hi s := by
  rw [stOn_mem]
  unfold On wd
  constructor
  · rintro ⟨w, h1, h2, h3, h4⟩
    rw [Nat.sub_zero] at h2
    have hl := (List.getElem?_eq_some_iff.mp h2).1
    refine ⟨hl, h3, ?_⟩
    rw [List.getD_eq_getElem?_getD, h2]; exact h4
  · rintro ⟨h1, h2, h3⟩
    refine ⟨ws[s.1], Nat.zero_le _, by simp [h1], h2, ?_⟩
    rw [List.getD_eq_getElem?_getD, List.getElem?_eq_getElem h1] at h3
    exact h3
/-! ### passes until nothing is freed -/
def frLoop (ws : Ws) (row : List Nat) (ss : List St) : Nat → List Nat → List St → List Nat × List St
  | 0, f, d => (f, d)
  | n + 1, f, d => if (pass ws row ss f d).1.length = f.length then pass ws row ss f d else frLoop ws row ss n (pass ws row ss f d).1 (pass ws row ss f d).2
theorem pass_eq {ws : Ws} {row : List Nat} : ∀ {ss : List St} {f : List Nat} {d : List St}, (∀ s ∈ ss, frBy ws row f s = []) → pass ws row ss f d = (f, d)
  | [], f, d, _ => rfl
  | s :: ss, f, d, h => by
    unfold pass
    rw [h s (by simp)]
    exact pass_eq fun t ht => h t (by simp [ht])
theorem frLoop_ok {ws : Ws} {row : List Nat} {over : Nat} {ss : List St} (hs : ∀ s ∈ ss, On ws (-(over : Int)) ((row.length : Int) + over) s) : ∀ (n : Nat) (f : List Nat) (d : List St), Good ws row over f → row.length < n + f.length →
    Good ws row over (frLoop ws row ss n f d).1 ∧ ∀ s ∈ ss, frBy ws row (frLoop ws row ss n f d).1 s = []
  | 0, f, d, g, hn => by
    have := nd_lt g.nd fun b hb => (g.ok b hb).1
    omega
  | n + 1, f, d, g, hn => by
    unfold frLoop
    split
    · rename_i he
      have h := pass_same ss f d he
      rw [pass_eq h]
      exact ⟨g, h⟩
    · rename_i he
      have h1 := pass_le (ws := ws) (row := row) ss f d
      exact frLoop_ok hs n _ _ (pass_good ss f d hs g) (by omega)
def freed (ws : Ws) (row : List Nat) (over : Nat) : List Nat × List St := frLoop ws row (stOn (-(over : Int)) ((row.length : Int) + over) 0 ws) (row.length + 1) [] []
def freeL (ws : Ws) (row : List Nat) (over : Nat) : List Nat := (freed ws row over).1
theorem freed_ok (ws : Ws) (row : List Nat) (over : Nat) : Good ws row over (freeL ws row over) ∧ ∀ s, On ws (-(over : Int)) ((row.length : Int) + over) s → frBy ws row (freeL ws row over) s = [] := by
  have h := frLoop_ok (ws := ws) (row := row) (over := over) (ss := stOn (-(over : Int)) ((row.length : Int) + over) 0 ws) (fun s hs => stOn_on.mp hs) (row.length + 1) [] [] ⟨List.nodup_nil, by simp⟩ (by simp)
  exact ⟨h.1, fun s hs => h.2 s (stOn_on.mpr hs)⟩
theorem Free.lt {ws : Ws} {row : List Nat} {over b : Nat} (h : Free ws row over b) : b < row.length := by
  cases h with
  | mk s h1 h2 h3 h4 => exact h3
theorem mem_freeL {ws : Ws} {row : List Nat} {over b : Nat} : b ∈ freeL ws row over ↔ Free ws row over b :=
  ⟨fun h => ((freed_ok ws row over).1.ok b h).2, fun h => closed (freed_ok ws row over).2 b h⟩
theorem freeL_lt {ws : Ws} {row : List Nat} {over b : Nat} (h : b ∈ freeL ws row over) : b < row.length := ((freed_ok ws row over).1.ok b h).1
theorem freeL_nd (ws : Ws) (row : List Nat) (over : Nat) : (freeL ws row over).Nodup := (freed_ok ws row over).1.nd
theorem freeL_le (ws : Ws) (row : List Nat) (over : Nat) : (freeL ws row over).length ≤ row.length := nd_lt (freeL_nd ws row over) fun _ h => freeL_lt h
theorem freeL_all {ws : Ws} {row : List Nat} {over : Nat} : (freeL ws row over).length = row.length ↔ ∀ b, b < row.length → Free ws row over b := by
  rw [nd_all (freeL_nd ws row over) fun _ h => freeL_lt h]
  exact ⟨fun h b hb => mem_freeL.mp (h b hb), fun h b hb => mem_freeL.mpr (h b hb)⟩

/-! ### freeing, by words and places -/
inductive FreeG (S : List Nat → Prop) (row : List Nat) (lo hi : Int) : Nat → Prop
  | mk {b : Nat} (w : List Nat) (p : Int) (i : Nat) : S w → lo ≤ p → p + (w.length : Int) ≤ hi → i < w.length → (b : Int) = p + (i : Int) → b < row.length →
      (∀ j b' : Nat, j < w.length → (b' : Int) = p + (j : Int) → b' < row.length → w[j]? ≠ row[b']? → FreeG S row lo hi b') → FreeG S row lo hi b
theorem FreeG.lt {S : List Nat → Prop} {row : List Nat} {lo hi : Int} {b : Nat} (h : FreeG S row lo hi b) : b < row.length := by
  cases h with
  | mk w p i h1 h2 h3 h4 h5 h6 h7 => exact h6
theorem free_iff {ws : Ws} {row : List Nat} {over b : Nat} : Free ws row over b ↔ FreeG (· ∈ ws) row (-(over : Int)) ((row.length : Int) + over) b := by
  constructor
  · intro h
    induction h with
    | @mk b c s hs hc hlt hne ih =>
      obtain ⟨h1, h2, h3⟩ := hs
      have hw : wd ws s.1 ∈ ws := by
        unfold wd
        rw [List.getD_eq_getElem?_getD, List.getElem?_eq_getElem h1]
        exact List.getElem_mem h1
      have hc' := hc
      unfold cv at hc
      split at hc
      · rename_i hle
        have hi := (List.getElem?_eq_some_iff.mp hc).1
        refine .mk (wd ws s.1) s.2 ((b : Int) - s.2).toNat hw h2 h3 hi (by omega) hlt fun j b' hj eb hb' hn => ?_
        refine ih b' (wd ws s.1)[j] hb' ?_ ?_
        · unfold cv
          rw [if_pos (by omega), show ((b' : Int) - s.2).toNat = j by omega]
          exact List.getElem?_eq_getElem hj
        · rw [List.getElem?_eq_getElem hj] at hn
          exact fun e => hn e.symm
      · cases hc
  · intro h
    induction h with
    | @mk b w p i hw h1 h2 hi eb hlt hne ih =>
      obtain ⟨n, hn, rfl⟩ := List.mem_iff_getElem.mp hw
      have ewd : wd ws n = ws[n] := by
        unfold wd
        rw [List.getD_eq_getElem?_getD, List.getElem?_eq_getElem hn]; rfl
      refine .mk (c := ws[n][i]) (n, p) ⟨hn, h1, by rw [ewd]; exact h2⟩ ?_ hlt fun b' c' hb' hc' hn' => ?_
      · unfold cv
        simp only [ewd]
        rw [if_pos (by omega), show ((b : Int) - p).toNat = i by omega]
        exact List.getElem?_eq_getElem hi
      · unfold cv at hc'
        simp only [ewd] at hc'
        split at hc'
        · rename_i hle
          refine ih ((b' : Int) - p).toNat b' (List.getElem?_eq_some_iff.mp hc').1 (by omega) hb' ?_
          rw [hc']
          exact fun e => hn' e.symm
        · cases hc'
/-- all of a row can be freed -/
def Stp (S : List Nat → Prop) (row : List Nat) : Prop := ∀ b, b < row.length → FreeG S row 0 row.length b
/-- a text is a part -/
def Shw (S : List Nat → Prop) (t : List Nat) : Prop := ∀ b, b < t.length → FreeG S t (-3) ((t.length : Int) + 3) b
def stB (ws : Ws) (row : List Nat) : Bool := decide ((freeL ws row 0).length = row.length)
def shB (ws : Ws) (row : List Nat) : Bool := decide ((freeL ws row 3).length = row.length)
theorem free0_iff {ws : Ws} {row : List Nat} {b : Nat} : Free ws row 0 b ↔ FreeG (· ∈ ws) row 0 row.length b := by
  rw [free_iff]
  simp
theorem stB_iff {ws : Ws} {row : List Nat} : stB ws row = true ↔ Stp (· ∈ ws) row := by
  unfold stB
  rw [decide_eq_true_eq, freeL_all]
  constructor
  · intro h b hb; exact free0_iff.mp (h b hb)
  · intro h b hb; exact free0_iff.mpr (h b hb)
theorem shB_iff {ws : Ws} {row : List Nat} : shB ws row = true ↔ Shw (· ∈ ws) row := by
  unfold shB
  rw [decide_eq_true_eq, freeL_all]
  constructor
  · intro h b hb; exact free_iff.mp (h b hb)
  · intro h b hb; exact free_iff.mpr (h b hb)
section
variable {S S' : List Nat → Prop} {row row' t : List Nat} {lo hi lo' hi' : Int} {b : Nat}
theorem FreeG.mono (h : FreeG S row lo hi b) (hS : ∀ w, S w → S' w) (h1 : lo' ≤ lo) (h2 : hi ≤ hi') : FreeG S' row lo' hi' b := by
  induction h with
  | mk w p i hw q1 q2 q3 q4 q5 q6 ih => exact .mk w p i (hS w hw) (by omega) (by omega) q3 q4 q5 ih
/-- within a longer row -/
theorem FreeG.shift (k : Nat) (hk : k + row.length ≤ row'.length) (he : ∀ i, i < row.length → row'[k + i]? = row[i]?) (h : FreeG S row 0 row.length b) : FreeG S row' 0 row'.length (k + b) := by
  induction h with
  | @mk b w p i hw q1 q2 q3 q4 q5 q6 ih =>
    refine .mk w (p + k) i hw (by omega) (by omega) q3 (by omega) (by omega) fun j b' hj eb hb hn => ?_
    have := ih j (b' - k) hj (by omega) (by omega) (by rw [← he (b' - k) (by omega), show k + (b' - k) = b' by omega]; exact hn)
    rw [show k + (b' - k) = b' by omega] at this
    exact this
/-- a part of a row -/
theorem FreeG.part (h4 : ∀ w, S w → w.length ≤ 4) (k : Nat) (he : ∀ i, i < t.length → row[k + i]? = t[i]?) (h : FreeG S row lo hi b) : ∀ c, b = k + c → c < t.length → FreeG S t (-3) ((t.length : Int) + 3) c := by
  induction h with
  | @mk b w p i hw q1 q2 q3 q4 q5 q6 ih =>
    intro c ec hc
    have := h4 w hw
    refine .mk w (p - k) i hw (by omega) (by omega) q3 (by omega) hc fun j b' hj eb hb hn => ?_
    have hr : k + b' < row.length := by
      have := he b' hb
      rw [List.getElem?_eq_getElem hb] at this
      exact (List.getElem?_eq_some_iff.mp this).1
    exact ih j (k + b') hj (by omega) hr (by rw [he b' hb]; exact hn) b' rfl hb
theorem get_rev {l : List Nat} {i : Nat} (h : i < l.length) : l.reverse[l.length - 1 - i]? = l[i]? := by
  rw [List.getElem?_reverse (by omega)]
  congr 1
  omega
/-- turned round -/
theorem FreeG.rev (hS : ∀ w, S w → S' w.reverse) (h : FreeG S row lo hi b) : FreeG S' row.reverse ((row.length : Int) - hi) ((row.length : Int) - lo) (row.length - 1 - b) := by
  induction h with
  | @mk b w p i hw q1 q2 q3 q4 q5 q6 ih =>
    refine .mk w.reverse ((row.length : Int) - p - w.length) (w.length - 1 - i) (hS w hw) (by omega) (by rw [List.length_reverse]; omega) (by rw [List.length_reverse]; omega) (by omega) (by rw [List.length_reverse]; omega) fun j b' hj eb hb hn => ?_
    rw [List.length_reverse] at hj hb
    have := ih (w.length - 1 - j) (row.length - 1 - b') (by omega) (by omega) (by omega) (by
      have e1 : w.reverse[j]? = w[w.length - 1 - j]? := by rw [List.getElem?_reverse hj]
      have e2 : row.reverse[b']? = row[row.length - 1 - b']? := by rw [List.getElem?_reverse hb]
      rw [← e1, ← e2]; exact hn)
    rw [show row.length - 1 - (row.length - 1 - b') = b' by omega] at this
    exact this
/-- other letters -/
theorem FreeG.sub (π : Nat → Nat) (hS : ∀ w, S w → S' (w.map π)) (h : FreeG S row lo hi b) : FreeG S' (row.map π) lo hi b := by
  induction h with
  | @mk b w p i hw q1 q2 q3 q4 q5 q6 ih =>
    refine .mk (w.map π) p i (hS w hw) q1 (by rw [List.length_map]; exact q2) (by rw [List.length_map]; exact q3) q4 (by rw [List.length_map]; exact q5) fun j b' hj eb hb hn => ?_
    rw [List.length_map] at hj hb
    refine ih j b' hj eb hb fun e => hn ?_
    rw [List.getElem?_map, List.getElem?_map, e]
/-- words that other words can stamp -/
theorem FreeG.via (hS : ∀ w, S' w → Stp S w) (h : FreeG S' row lo hi b) : FreeG S row lo hi b := by
  induction h with
  | @mk b w p i hw q1 q2 q3 q4 q5 q6 ih =>
    have inner : ∀ c, FreeG S w 0 w.length c → ∀ b : Nat, (b : Int) = p + (c : Int) → b < row.length → FreeG S row lo hi b := by
      intro c hc
      induction hc with
      | @mk c u r k hu r1 r2 r3 r4 r5 r6 ih2 =>
        intro b eb hb
        refine .mk u (p + r) k hu (by omega) (by omega) r3 (by omega) hb fun j b' hj eb' hb' hn => ?_
        by_cases hm : u[j]? = w[(b' - p).toNat]?
        · exact ih (b' - p).toNat b' (by omega) (by omega) hb' (by rw [← hm]; exact hn)
        · exact ih2 j (b' - p).toNat hj (by omega) (by omega) hm b' (by omega) hb'
    exact inner i (hS w hw i q3) b q4 q5
/-- another row that differs only where it is free -/
theorem FreeG.over (hl : row'.length = row.length) (I : Nat → Prop) (hI : ∀ b, b < row.length → I b → FreeG S row' lo hi b) (he : ∀ b, ¬ I b → row'[b]? = row[b]?) (h : FreeG S row lo hi b) : FreeG S row' lo hi b := by
  induction h with
  | @mk b w p i hw q1 q2 q3 q4 q5 q6 ih =>
    refine .mk w p i hw q1 q2 q3 q4 (by omega) fun j b' hj eb hb hn => ?_
    by_cases hi' : I b'
    · exact hI b' (by omega) hi'
    · exact ih j b' hj eb (by omega) (by rw [← he b' hi']; exact hn)
/-- a word frees itself -/
theorem FreeG.self {w : List Nat} (hw : S w) (p : Nat) (h1 : p + w.length ≤ row.length) (he : ∀ i, i < w.length → row[p + i]? = w[i]?) {i : Nat} (hi : i < w.length) : FreeG S row 0 row.length (p + i) := by
  refine .mk w p i hw (by omega) (by omega) hi (by omega) (by omega) fun j b' hj eb hb hn => absurd ?_ hn
  rw [show b' = p + j by omega, he j hj]
theorem Stp.word {w : List Nat} (hw : S w) : Stp S w := fun b hb => by
  have := FreeG.self (row := w) hw 0 (by omega) (fun i _ => by simp) hb
  simpa using this
theorem Stp.mono (h : Stp S row) (hS : ∀ w, S w → S' w) : Stp S' row := fun b hb => (h b hb).mono hS (by omega) (by omega)
theorem Stp.via (h : Stp S' row) (hS : ∀ w, S' w → Stp S w) : Stp S row := fun b hb => (h b hb).via hS
theorem Shw.via (h : Shw S' row) (hS : ∀ w, S' w → Stp S w) : Shw S row := fun b hb => (h b hb).via hS
theorem Shw.mono (h : Shw S row) (hS : ∀ w, S w → S' w) : Shw S' row := fun b hb => (h b hb).mono hS (by omega) (by omega)
theorem Stp.append (h : Stp S row) (h' : Stp S row') : Stp S (row ++ row') := by
  intro b hb
  rw [List.length_append] at hb
  by_cases hlt : b < row.length
  · have := FreeG.shift (row' := row ++ row') 0 (by rw [List.length_append]; omega) (fun i hi => by rw [Nat.zero_add, List.getElem?_append_left hi]) (h b hlt)
    simpa using this
  · have := FreeG.shift (row' := row ++ row') row.length (by rw [List.length_append]; omega) (fun i hi => by rw [List.getElem?_append_right (by omega)]; congr 1; omega) (h' (b - row.length) (by omega))
    rwa [show row.length + (b - row.length) = b by omega] at this
theorem Stp.rev (hS : ∀ w, S w → S' w.reverse) (h : Stp S row) : Stp S' row.reverse := by
  intro b hb
  rw [List.length_reverse] at hb
  have := (h (row.length - 1 - b) (by omega)).rev hS
  rw [show row.length - 1 - (row.length - 1 - b) = b by omega] at this
  refine this.mono (fun _ h => h) (by omega) (by rw [List.length_reverse]; omega)
theorem Shw.rev (hS : ∀ w, S w → S' w.reverse) (h : Shw S row) : Shw S' row.reverse := by
  intro b hb
  rw [List.length_reverse] at hb
  have := (h (row.length - 1 - b) (by omega)).rev hS
  rw [show row.length - 1 - (row.length - 1 - b) = b by omega] at this
  refine this.mono (fun _ h => h) (by omega) (by rw [List.length_reverse]; omega)
theorem Stp.sub (π : Nat → Nat) (hS : ∀ w, S w → S' (w.map π)) (h : Stp S row) : Stp S' (row.map π) := by
  intro b hb
  rw [List.length_map] at hb ⊢
  exact (h b hb).sub π hS
theorem Shw.sub (π : Nat → Nat) (hS : ∀ w, S w → S' (w.map π)) (h : Shw S row) : Shw S' (row.map π) := by
  intro b hb
  rw [List.length_map] at hb ⊢
  exact (h b hb).sub π hS
/-- a part of what can be shown -/
theorem Shw.part (h4 : ∀ w, S w → w.length ≤ 4) (k : Nat) (hk : k + t.length ≤ row.length) (he : ∀ i, i < t.length → row[k + i]? = t[i]?) (h : Shw S row) : Shw S t :=
  fun b hb => (h (k + b) (by omega)).part h4 k he b rfl hb
theorem Stp.part (h4 : ∀ w, S w → w.length ≤ 4) (k : Nat) (hk : k + t.length ≤ row.length) (he : ∀ i, i < t.length → row[k + i]? = t[i]?) (h : Stp S row) : Shw S t :=
  fun b hb => (h (k + b) (by omega)).part h4 k he b rfl hb
theorem Stp.shw (h4 : ∀ w, S w → w.length ≤ 4) (h : Stp S row) : Shw S row := h.part h4 0 (by omega) fun i _ => by simp
/-- letters that are words -/
theorem Stp.letters (h : ∀ c ∈ row, S [c]) : Stp S row := by
  intro b hb
  refine FreeG.self (w := [row[b]]) (h _ (List.getElem_mem hb)) b (by simp; omega) (fun i hi => ?_) (i := 0) (by simp)
  have : i = 0 := by simpa using hi
  subst this
  simp
/-- a stamp or a row that can be stamped, put on one -/
theorem Stp.put {mid : List Nat} (p : Nat) (hp : p + mid.length ≤ row.length) (hm : Stp S mid) (h : Stp S row) : Stp S (row.take p ++ mid ++ row.drop (p + mid.length)) := by
  have hl : (row.take p ++ mid ++ row.drop (p + mid.length)).length = row.length := by
    rw [List.length_append, List.length_append, List.length_take, List.length_drop]; omega
  have hg : ∀ i, i < mid.length → (row.take p ++ mid ++ row.drop (p + mid.length))[p + i]? = mid[i]? := by
    intro i hi
    rw [List.getElem?_append_left (by rw [List.length_append, List.length_take]; omega), List.getElem?_append_right (by rw [List.length_take]; omega), List.length_take]
    congr 1; omega
  have hin : ∀ b, b < row.length → (p ≤ b ∧ b < p + mid.length) → FreeG S (row.take p ++ mid ++ row.drop (p + mid.length)) 0 (row.take p ++ mid ++ row.drop (p + mid.length)).length b := by
    intro b hb ⟨h1, h2⟩
    have := FreeG.shift (row' := row.take p ++ mid ++ row.drop (p + mid.length)) p (by omega) hg (hm (b - p) (by omega))
    rwa [show p + (b - p) = b by omega] at this
  intro b hb
  rw [hl] at hb
  refine FreeG.over hl (fun b => p ≤ b ∧ b < p + mid.length) hin (fun b hn => ?_) (by rw [hl]; exact h b hb)
  by_cases h1 : b < p
  · rw [List.getElem?_append_left (by rw [List.length_append, List.length_take]; omega), List.getElem?_append_left (by rw [List.length_take]; omega), List.getElem?_take, if_pos h1]
  · rw [List.getElem?_append_right (by rw [List.length_append, List.length_take]; omega), List.length_append, List.length_take, List.getElem?_drop]
    congr 1
    omega
/-- as long as some word -/
theorem Stp.ex {w : List Nat} {L : Nat} (hw : S w) (h0 : 0 < w.length) (hL : w.length ≤ L) : Stp S (List.replicate (L - w.length) w[0] ++ w) := by
  have hg : ∀ n, ∀ b, b < (List.replicate n w[0] ++ w).length → FreeG S (List.replicate n w[0] ++ w) 0 (List.replicate n w[0] ++ w).length b := by
    intro n
    have hlen : (List.replicate n w[0] ++ w).length = n + w.length := by rw [List.length_append, List.length_replicate]
    -- from the right: the boxes from n - k on
    have hk : ∀ k, k ≤ n → ∀ b, n - k ≤ b → b < n + w.length → FreeG S (List.replicate n w[0] ++ w) 0 (List.replicate n w[0] ++ w).length b := by
      intro k
      induction k with
      | zero =>
        intro _ b hb1 hb2
        have := FreeG.self (S := S) (row := List.replicate n w[0] ++ w) hw n (by omega) (fun i hi => by
          rw [List.getElem?_append_right (by rw [List.length_replicate]; omega), List.length_replicate]; congr 1; omega) (i := b - n) (by omega)
        rwa [show n + (b - n) = b by omega] at this
      | succ k ih =>
        intro hk b hb1 hb2
        by_cases he : n - k ≤ b
        · exact ih (by omega) b he hb2
        · have hb : b = n - (k + 1) := by omega
          refine .mk w ((n - (k + 1) : Nat) : Int) 0 hw (by omega) (by omega) h0 (by omega) (by omega) fun j b' hj eb hb' hn => ?_
          by_cases hj0 : j = 0
          · subst hj0
            refine absurd ?_ hn
            rw [List.getElem?_append_left (by rw [List.length_replicate]; omega), List.getElem?_replicate, if_pos (by omega), List.getElem?_eq_getElem h0]
          · exact ih (by omega) b' (by omega) (by omega)
    intro b hb
    exact hk n (Nat.le_refl _) b (by omega) (by omega)
  exact fun b hb => hg _ b hb
theorem Stp.some_word (h : Stp S row) (h0 : 0 < row.length) : ∃ w, S w ∧ w.length ≤ row.length := by
  have := h 0 h0
  cases this with
  | mk w p i h1 h2 h3 h4 h5 h6 h7 => exact ⟨w, h1, by omega⟩
end
end Fr
/-! plain: the fewest stamps, by levels of freed boxes -/
namespace Fr
abbrev Key := List Nat
abbrev Kn := List (Key × List St)
abbrev leN (a b : Nat) : Bool := decide (a ≤ b)
def sortN (l : List Nat) : List Nat := DL.sortG leN l
theorem sortN_perm (l : List Nat) : (sortN l).Perm l := DL.sortG_perm _ l
theorem sortN_mem {l : List Nat} {b : Nat} : b ∈ sortN l ↔ b ∈ l := (sortN_perm l).mem_iff
theorem sortN_strict {l : List Nat} (h : l.Nodup) : (sortN l).Pairwise (· < ·) := by
  have h1 := DL.sortG_ord (le := leN) (fun a b => by simp; omega) (fun a b c => by simp; omega) l
  have h2 : (sortN l).Nodup := (sortN_perm l).symm.nodup h
  refine (h1.and h2).imp fun {a b} ⟨p, q⟩ => ?_
  simp at p
  omega
theorem ordN_uniq {a b : List Nat} (p : a.Perm b) (ha : a.Pairwise (· < ·)) (hb : b.Pairwise (· < ·)) : a = b :=
  DL.srt_uniq (le := leN) (fun a b h1 h2 => by simp at h1 h2; omega) p (ha.imp fun {x y} h => by simp; omega) (hb.imp fun {x y} h => by simp; omega)
theorem lt_nodup {l : List Nat} (h : l.Pairwise (· < ·)) : l.Nodup := h.imp fun {a b} hab e => by omega
def nxt (ws : Ws) (row : List Nat) (k : Key) (s : St) : Key := sortN (k ++ frBy ws row k s)
structure KeyOk (n : Nat) (k : Key) : Prop where
  ord : k.Pairwise (· < ·)
  lt : ∀ b ∈ k, b < n
section
variable {ws : Ws} {row : List Nat} {k : Key} {s : St} {b : Nat}
theorem nxt_mem : b ∈ nxt ws row k s ↔ b ∈ k ∨ b ∈ frBy ws row k s := by
  unfold nxt; rw [sortN_mem, List.mem_append]
theorem nxt_nd (h : KeyOk row.length k) : (k ++ frBy ws row k s).Nodup :=
  List.nodup_append.mpr ⟨lt_nodup h.ord, frBy_nodup, fun x hx y hy e => by subst e; exact (frBy_mem hy).2.1 hx⟩
theorem nxt_ok (h : KeyOk row.length k) : KeyOk row.length (nxt ws row k s) := by
  refine ⟨sortN_strict (nxt_nd h), fun b hb => ?_⟩
  rcases nxt_mem.mp hb with z | z
  · exact h.lt b z
  · exact (frBy_mem z).1
theorem nxt_len (h : KeyOk row.length k) : (nxt ws row k s).length = k.length + (frBy ws row k s).length := by
  unfold nxt; rw [(sortN_perm _).length_eq, List.length_append]
theorem nxt_same (h : KeyOk row.length k) (e : frBy ws row k s = []) : nxt ws row k s = k := by
  unfold nxt
  rw [e, List.append_nil]
  exact ordN_uniq (sortN_perm k) (sortN_strict (lt_nodup h.ord)) h.ord
theorem key_full (h : KeyOk row.length k) : k.length = row.length ↔ ∀ b, b < row.length → b ∈ k := nd_all (lt_nodup h.ord) h.lt
/-- ways of freeing, every stamp frees something -/
inductive Pth (ws : Ws) (row : List Nat) : List St → Key → Prop
  | nil : Pth ws row [] []
  | snoc {p : List St} {k : Key} (s : St) : Pth ws row p k → On ws 0 row.length s → frBy ws row k s ≠ [] → Pth ws row (p ++ [s]) (nxt ws row k s)
theorem cv_lt {n : Nat} {c : Nat} (hs : On ws 0 n s) (h : cv ws s b = some c) : b < n := by
  unfold cv at h
  split at h
  · have := (List.getElem?_eq_some_iff.mp h).1
    have := hs.2.2
    have := hs.2.1
    omega
  · cases h
theorem Pth.key {p : List St} (h : Pth ws row p k) : KeyOk row.length k := by
  induction h with
  | nil => exact ⟨.nil, by simp⟩
  | snoc s h hs hf ih => exact nxt_ok ih
theorem Pth.on {p : List St} (h : Pth ws row p k) : ∀ s ∈ p, On ws 0 row.length s := by
  induction h with
  | nil => simp
  | snoc s h hs hf ih =>
    intro t ht
    rcases List.mem_append.mp ht with z | z
    · exact ih t z
    · rw [List.mem_singleton.mp z]; exact hs
theorem frBy_fit (hf : frBy ws row k s ≠ []) {b c : Nat} (hb : b < row.length) (hc : cv ws s b = some c) : (row[b]? ≠ some c → b ∈ k) ∧ (b ∉ k → b ∈ frBy ws row k s) := by
  obtain ⟨x, l, e⟩ := List.exists_cons_of_ne_nil hf
  have hx : x ∈ frBy ws row k s := by rw [e]; simp
  have h4 := (frBy_mem hx).2.2.2
  exact ⟨fun hn => h4 b c hb hc hn, fun hn => frBy_all h4 hb hc hn⟩
theorem Pth.cov {p : List St} (h : Pth ws row p k) : ∀ s ∈ p, ∀ b c, cv ws s b = some c → b ∈ k := by
  induction h with
  | nil => simp
  | @snoc p k s h hs hf ih =>
    intro t ht b c hc
    rcases List.mem_append.mp ht with z | z
    · exact nxt_mem.mpr (.inl (ih t z b c hc))
    · rw [List.mem_singleton.mp z] at hc
      by_cases hk : b ∈ k
      · exact nxt_mem.mpr (.inl hk)
      · exact nxt_mem.mpr (.inr ((frBy_fit hf (cv_lt hs hc) hc).2 hk))
theorem Pth.first {p : List St} (h : Pth ws row p k) : ∀ b ∈ k, p.findSome? (cv ws · b) = row[b]? ∧ b < row.length := by
  induction h with
  | nil => simp
  | @snoc p k s h hs hf ih =>
    intro b hb
    rcases nxt_mem.mp hb with z | z
    · obtain ⟨e1, e2⟩ := ih b z
      refine ⟨?_, e2⟩
      rw [List.findSome?_append, e1, List.getElem?_eq_getElem e2]
      rfl
    · obtain ⟨h1, h2, ⟨c, h3⟩, h4⟩ := frBy_mem z
      refine ⟨?_, h1⟩
      have hn : p.findSome? (cv ws · b) = none := by
        rw [List.findSome?_eq_none_iff]
        intro t ht
        cases e : cv ws t b with
        | none => rfl
        | some d => exact absurd (h.cov t ht b d e) h2
      rw [List.findSome?_append, hn]
      show (none : Option Nat).or (List.findSome? (cv ws · b) [s]) = _
      rw [List.findSome?_cons, h3]
      by_cases hm : row[b]? = some c
      · rw [hm]; rfl
      · exact absurd (h4 b c h1 h3 hm) h2
theorem Pth.len {p : List St} (h : Pth ws row p k) : p.length ≤ k.length := by
  induction h with
  | nil => exact Nat.le_refl _
  | @snoc p k s h hs hf ih =>
    have := List.length_pos_iff.mpr hf
    rw [nxt_len h.key, List.length_append]
    simp; omega
theorem Pth.free {p : List St} (h : Pth ws row p k) : ∀ b ∈ k, Free ws row 0 b := by
  induction h with
  | nil => simp
  | @snoc p k s h hs hf ih =>
    intro b hb
    rcases nxt_mem.mp hb with z | z
    · exact ih b z
    · obtain ⟨h1, h2, ⟨c, h3⟩, h4⟩ := frBy_mem z
      exact .mk s (by simpa using hs) h3 h1 fun b' c' q1 q2 q3 => ih b' (h4 b' c' q1 q2 q3)
/-- a run of stamps, from the last one put on -/
def runP (ws : Ws) (row : List Nat) : Key → List St → Key
  | k, [] => k
  | k, s :: p => runP ws row (nxt ws row k s) p
theorem runP_ok : ∀ (p : List St) {k : Key}, KeyOk row.length k → KeyOk row.length (runP ws row k p)
  | [], _, h => h
  | s :: p, _, h => runP_ok p (nxt_ok h)
theorem runP_app : ∀ (p q : List St) (k : Key), runP ws row k (p ++ q) = runP ws row (runP ws row k p) q
  | [], q, k => rfl
  | s :: p, q, k => runP_app p q _
theorem runP_sub : ∀ (p : List St) {k : Key} {b : Nat}, b ∈ k → b ∈ runP ws row k p
  | [], _, _, h => h
  | s :: p, _, _, h => runP_sub p (nxt_mem.mpr (.inl h))
/-- where all can be freed, a run frees all -/
theorem run_ex (hall : ∀ b, b < row.length → Free ws row 0 b) : ∀ (m : Nat) (k : Key), KeyOk row.length k → row.length ≤ k.length + m → ∃ p, (∀ s ∈ p, On ws 0 row.length s) ∧ (runP ws row k p).length = row.length
  | m, k, hk, hm => by
    by_cases hf : k.length = row.length
    · exact ⟨[], by simp, hf⟩
    · have hle := nd_lt (lt_nodup hk.ord) hk.lt
      match m with
      | 0 => omega
      | m + 1 =>
        have : ∃ s, On ws 0 row.length s ∧ frBy ws row k s ≠ [] := Classical.byContradiction fun hn => by
          have hc := closed (ws := ws) (row := row) (free := k) (over := 0) fun s hs => Classical.byContradiction fun he => hn ⟨s, by simpa using hs, he⟩
          exact hf ((key_full hk).mpr fun b hb => hc b (hall b hb))
        obtain ⟨s, hs, he⟩ := this
        have hp := List.length_pos_iff.mpr he
        obtain ⟨p, h1, h2⟩ := run_ex hall m (nxt ws row k s) (nxt_ok hk) (by rw [nxt_len hk]; omega)
        exact ⟨s :: p, fun t ht => by
          rcases List.mem_cons.mp ht with rfl | ht
          · exact hs
          · exact h1 t ht, h2⟩
/-! ### the search -/
structure BInv (ws : Ws) (row : List Nat) (sts : List St) (kn : Kn) (wt : List Key) : Prop where
  path : ∀ e ∈ kn, Pth ws row e.2 e.1
  nd : (kn.map (·.1)).Nodup
  root : ([], []) ∈ kn
  wk : ∀ k ∈ wt, ∃ p, (k, p) ∈ kn
  wnd : wt.Nodup
  lev : ∃ L A B, wt = A ++ B ∧ (∀ e ∈ kn, e.1 ∈ A → e.2.length = L) ∧ (∀ e ∈ kn, e.1 ∈ B → e.2.length = L + 1) ∧ ∀ e ∈ kn, e.2.length ≤ L + 1
  done : ∀ e ∈ kn, e.1 ∉ wt → e.1.length ≠ row.length ∧ ∀ s ∈ sts, ∃ q, (nxt ws row e.1 s, q) ∈ kn ∧ q.length ≤ e.2.length + 1
structure MInv (ws : Ws) (row : List Nat) (sts : List St) (k : Key) (p : List St) (S : List St) (kn : Kn) (wt : List Key) : Prop where
  path : ∀ e ∈ kn, Pth ws row e.2 e.1
  nd : (kn.map (·.1)).Nodup
  root : ([], []) ∈ kn
  wk : ∀ k ∈ wt, ∃ p, (k, p) ∈ kn
  wnd : wt.Nodup
  kin : (k, p) ∈ kn
  kout : k ∉ wt
  klen : k.length ≠ row.length
  lev : ∃ A B, wt = A ++ B ∧ (∀ e ∈ kn, e.1 ∈ A → e.2.length = p.length) ∧ (∀ e ∈ kn, e.1 ∈ B → e.2.length = p.length + 1) ∧ ∀ e ∈ kn, e.2.length ≤ p.length + 1
  done : ∀ e ∈ kn, e.1 ∉ wt → e.1 ≠ k → e.1.length ≠ row.length ∧ ∀ s ∈ sts, ∃ q, (nxt ws row e.1 s, q) ∈ kn ∧ q.length ≤ e.2.length + 1
  some : ∀ s ∈ S, ∃ q, (nxt ws row k s, q) ∈ kn ∧ q.length ≤ p.length + 1
theorem key_one {kn : Kn} (nd : (kn.map (·.1)).Nodup) {k : Key} {p q : List St} (h1 : (k, p) ∈ kn) (h2 : (k, q) ∈ kn) : p = q := by
  induction kn with
  | nil => cases h1
  | cons e kn ih =>
    rw [List.map_cons, List.nodup_cons] at nd
    obtain ⟨n1, n2⟩ := nd
    have a1 := List.mem_cons.mp h1
    have a2 := List.mem_cons.mp h2
    rcases a1 with a1 | a1
    · rcases a2 with a2 | a2
      · rw [← a1] at a2
        exact (Prod.mk.inj a2).2.symm
      · rw [← a1] at n1
        exact absurd (List.mem_map.mpr ⟨(k, q), a2, rfl⟩) n1
    · rcases a2 with a2 | a2
      · rw [← a2] at n1
        exact absurd (List.mem_map.mpr ⟨(k, p), a1, rfl⟩) n1
      · exact ih n2 a1 a2
theorem binv0 (sts : List St) (hn : row ≠ []) : BInv ws row sts [([], [])] [[]] := by
  refine ⟨?_, by simp, by simp, ?_, by simp, ⟨0, [[]], [], rfl, ?_, ?_, ?_⟩, ?_⟩
  · intro e he; rw [List.mem_singleton.mp he]; exact .nil
  · intro k hk; rw [List.mem_singleton.mp hk]; exact ⟨[], by simp⟩
  · intro e he _; rw [List.mem_singleton.mp he]; rfl
  · intro e _ h; cases h
  · intro e he; rw [List.mem_singleton.mp he]; simp
  · intro e he h; rw [List.mem_singleton.mp he] at h; simp at h
/-- the first one waiting is looked at -/
theorem BInv.pop {sts : List St} {kn : Kn} {wt : List Key} {p : List St} (h : BInv ws row sts kn (k :: wt)) (hp : (k, p) ∈ kn) (hl : k.length ≠ row.length) : MInv ws row sts k p [] kn wt := by
  obtain ⟨hk, hw⟩ := List.nodup_cons.mp h.wnd
  refine ⟨h.path, h.nd, h.root, fun x hx => h.wk x (by simp [hx]), hw, hp, hk, hl, ?_, fun e he h1 h2 => h.done e he (by simp [h1, h2]), by simp⟩
  obtain ⟨L, A, B, e, h1, h2, h3⟩ := h.lev
  cases A with
  | nil =>
    rw [List.nil_append] at e
    have hL : p.length = L + 1 := h2 _ hp (by rw [← e]; simp)
    refine ⟨wt, [], by simp, fun x hx hm => ?_, ⟨fun x _ hm => absurd hm (by simp), fun x hx => by have := h3 x hx; omega⟩⟩
    rw [hL]; exact h2 x hx (by rw [← e]; simp [hm])
  | cons a A =>
    rw [List.cons_append] at e
    injection e with e1 e2
    subst e1
    have hL : p.length = L := h1 _ hp (by simp)
    refine ⟨A, B, e2, fun x hx hm => ?_, fun x hx hm => ?_, fun x hx => ?_⟩
    · rw [hL]; exact h1 x hx (by simp [hm])
    · rw [hL]; exact h2 x hx hm
    · rw [hL]; exact h3 x hx
theorem MInv.fin {sts : List St} {kn : Kn} {wt : List Key} {p : List St} (h : MInv ws row sts k p sts kn wt) : BInv ws row sts kn wt := by
  refine ⟨h.path, h.nd, h.root, h.wk, h.wnd, ?_, fun e he h1 => ?_⟩
  · obtain ⟨A, B, e, h1, h2, h3⟩ := h.lev
    exact ⟨p.length, A, B, e, h1, h2, h3⟩
  · by_cases hk : e.1 = k
    · have he' : (k, e.2) ∈ kn := by rw [← hk]; exact he
      have := key_one h.nd he' h.kin
      rw [hk, this]
      exact ⟨h.klen, h.some⟩
    · exact h.done e he h1 hk
/-- a stamp that leads to what is known -/
theorem MInv.old {sts S : List St} {kn : Kn} {wt : List Key} {p q : List St} (h : MInv ws row sts k p S kn wt) (hq : (nxt ws row k s, q) ∈ kn) : MInv ws row sts k p (S ++ [s]) kn wt := by
  refine ⟨h.path, h.nd, h.root, h.wk, h.wnd, h.kin, h.kout, h.klen, h.lev, h.done, fun t ht => ?_⟩
  rcases List.mem_append.mp ht with z | z
  · exact h.some t z
  · rw [List.mem_singleton.mp z]
    obtain ⟨A, B, e, h1, h2, h3⟩ := h.lev
    exact ⟨q, hq, h3 _ hq⟩
/-- one that leads to something new -/
theorem MInv.new {sts S : List St} {kn : Kn} {wt : List Key} {p : List St} (h : MInv ws row sts k p S kn wt) (hs : On ws 0 row.length s) (hn : nxt ws row k s ∉ kn.map (·.1)) : MInv ws row sts k p (S ++ [s]) (kn ++ [(nxt ws row k s, p ++ [s])]) (wt ++ [nxt ws row k s]) := by
  have hk := (h.path _ h.kin).key
  have hne : frBy ws row k s ≠ [] := fun e => hn (by rw [nxt_same hk e]; exact List.mem_map.mpr ⟨_, h.kin, rfl⟩)
  have hnk : nxt ws row k s ≠ k := fun e => hn (by rw [e]; exact List.mem_map.mpr ⟨_, h.kin, rfl⟩)
  have old : ∀ e ∈ kn ++ [(nxt ws row k s, p ++ [s])], e ∈ kn ∨ e = (nxt ws row k s, p ++ [s]) := fun e he => by
    rcases List.mem_append.mp he with z | z
    · exact .inl z
    · exact .inr (List.mem_singleton.mp z)
  have keyn : ∀ e ∈ kn, e.1 ≠ nxt ws row k s := fun e he z => hn (by rw [← z]; exact List.mem_map.mpr ⟨e, he, rfl⟩)
  have wtn : nxt ws row k s ∉ wt := fun z => let ⟨q, hq⟩ := h.wk _ z; keyn _ hq rfl
  refine ⟨fun e he => ?_, ?_, List.mem_append_left _ h.root, fun x hx => ?_, ?_, List.mem_append_left _ h.kin, ?_, h.klen, ?_, fun e he h1 h2 => ?_, fun t ht => ?_⟩
  · rcases old e he with z | rfl
    · exact h.path e z
    · exact .snoc s (h.path _ h.kin) hs hne
  · rw [List.map_append]
    refine List.nodup_append.mpr ⟨h.nd, by simp, fun x hx y hy e => ?_⟩
    simp at hy
    subst hy
    subst e
    exact hn hx
  · rcases List.mem_append.mp hx with z | z
    · obtain ⟨q, hq⟩ := h.wk x z
      exact ⟨q, List.mem_append_left _ hq⟩
    · rw [List.mem_singleton.mp z]
      exact ⟨p ++ [s], List.mem_append_right _ (by simp)⟩
  · refine List.nodup_append.mpr ⟨h.wnd, by simp, fun x hx y hy e => ?_⟩
    simp at hy
    subst hy
    subst e
    exact wtn hx
  · intro z
    rcases List.mem_append.mp z with z | z
    · exact h.kout z
    · exact hnk (List.mem_singleton.mp z).symm
  · obtain ⟨A, B, e, h1, h2, h3⟩ := h.lev
    refine ⟨A, B ++ [nxt ws row k s], by rw [e, List.append_assoc], fun x hx hm => ?_, fun x hx hm => ?_, fun x hx => ?_⟩
    · rcases old x hx with z | rfl
      · exact h1 x z hm
      · exact absurd (by rw [e]; exact List.mem_append_left _ hm) wtn
    · rcases old x hx with z | rfl
      · rcases List.mem_append.mp hm with y | y
        · exact h2 x z y
        · exact absurd (List.mem_singleton.mp y) (keyn x z)
      · simp
    · rcases old x hx with z | rfl
      · exact h3 x z
      · simp
  · rcases old e he with z | rfl
    · obtain ⟨q1, q2⟩ := h.done e z (fun y => h1 (List.mem_append_left _ y)) h2
      exact ⟨q1, fun t ht => let ⟨q, y1, y2⟩ := q2 t ht; ⟨q, List.mem_append_left _ y1, y2⟩⟩
    · exact absurd (List.mem_append_right _ (by simp)) h1
  · rcases List.mem_append.mp ht with z | z
    · obtain ⟨q, y1, y2⟩ := h.some t z
      exact ⟨q, List.mem_append_left _ y1, y2⟩
    · rw [List.mem_singleton.mp z]
      exact ⟨p ++ [s], List.mem_append_right _ (by simp), by simp⟩
/-- along a run: what is reached is done, or something waiting is as near -/
theorem BInv.run {sts : List St} {kn : Kn} {wt : List Key} (h : BInv ws row sts kn wt) : ∀ (ss : List St), (∀ s ∈ ss, s ∈ sts) → (∃ q, (runP ws row [] ss, q) ∈ kn ∧ runP ws row [] ss ∉ wt ∧ q.length ≤ ss.length) ∨ ∃ e ∈ kn, e.1 ∈ wt ∧ e.2.length ≤ ss.length := by
  have step : ∀ (n : Nat) (ss : List St), ss.length = n → (∀ s ∈ ss, s ∈ sts) → (∃ q, (runP ws row [] ss, q) ∈ kn ∧ runP ws row [] ss ∉ wt ∧ q.length ≤ ss.length) ∨ ∃ e ∈ kn, e.1 ∈ wt ∧ e.2.length ≤ ss.length := by
    intro n
    induction n with
    | zero =>
      intro ss hl _
      have : ss = [] := List.length_eq_zero_iff.mp hl
      subst this
      by_cases hw : ([] : Key) ∈ wt
      · exact .inr ⟨_, h.root, hw, by simp⟩
      · exact .inl ⟨[], h.root, hw, by simp⟩
    | succ n ih =>
      intro ss hl hs
      have hne : ss ≠ [] := by intro e; subst e; simp at hl
      obtain ⟨p, s, rfl⟩ : ∃ p s, ss = p ++ [s] := ⟨ss.dropLast, ss.getLast hne, (List.dropLast_concat_getLast hne).symm⟩
      rw [List.length_append] at hl ⊢
      simp only [List.length_singleton] at hl ⊢
      rcases ih p (by omega) (fun t ht => hs t (by simp [ht])) with ⟨q, h1, h2, h3⟩ | ⟨e, h1, h2, h3⟩
      · obtain ⟨q2, y1, y2⟩ := (h.done _ h1 h2).2 s (hs s (by simp))
        rw [runP_app]
        show (∃ q, (nxt ws row (runP ws row [] p) s, q) ∈ kn ∧ _ ∧ _) ∨ _
        by_cases hw : nxt ws row (runP ws row [] p) s ∈ wt
        · exact .inr ⟨_, y1, hw, by simp only at y2 ⊢; omega⟩
        · exact .inl ⟨q2, y1, hw, by simp only at y2; omega⟩
      · exact .inr ⟨e, h1, h2, by omega⟩
  exact fun ss hs => step ss.length ss rfl hs
theorem BInv.none {sts : List St} {kn : Kn} (h : BInv ws row sts kn []) (ss : List St) (hs : ∀ s ∈ ss, s ∈ sts) : (runP ws row [] ss).length ≠ row.length := by
  rcases h.run ss hs with ⟨q, h1, h2, _⟩ | ⟨e, _, h2, _⟩
  · exact (h.done _ h1 h2).1
  · cases h2
theorem BInv.least {sts : List St} {kn : Kn} {wt : List Key} {p : List St} (h : BInv ws row sts kn (k :: wt)) (hp : (k, p) ∈ kn) (ss : List St) (hs : ∀ s ∈ ss, s ∈ sts) (hf : (runP ws row [] ss).length = row.length) : p.length ≤ ss.length := by
  rcases h.run ss hs with ⟨q, h1, h2, _⟩ | ⟨e, h1, h2, h3⟩
  · exact absurd hf (h.done _ h1 h2).1
  · refine Nat.le_trans ?_ h3
    obtain ⟨L, A, B, e', q1, q2, q3⟩ := h.lev
    cases A with
    | nil =>
      rw [List.nil_append] at e'
      have a1 := q2 _ hp (by rw [← e']; simp)
      have a2 := q2 _ h1 (by rw [← e']; exact h2)
      simp only at a1
      omega
    | cons a A =>
      rw [List.cons_append] at e'
      injection e' with e1 e2
      subst e1
      have a1 := q1 _ hp (by simp)
      simp only at a1
      rw [e2, ← List.cons_append] at h2
      rcases List.mem_append.mp h2 with z | z
      · have := q1 _ h1 z; omega
      · have := q2 _ h1 z; omega
/-! ### how many there are -/
def subs : Nat → List Key
  | 0 => [[]]
  | n + 1 => subs n ++ (subs n).map (· ++ [n])
theorem subs_len : ∀ n, (subs n).length = 2 ^ n
  | 0 => rfl
  | n + 1 => by rw [subs, List.length_append, List.length_map, subs_len n, Nat.pow_succ]; omega
theorem subs_mem : ∀ (n : Nat) {k : Key}, KeyOk n k → k ∈ subs n
  | 0, k, h => by
    cases k with
    | nil => simp [subs]
    | cons a k => exact absurd (h.lt a (by simp)) (by omega)
  | n + 1, k, h => by
    rw [subs, List.mem_append]
    by_cases hn : n ∈ k
    · right
      have hne : k ≠ [] := fun e => by rw [e] at hn; cases hn
      have hl : k.getLast hne = n := by
        have h1 := h.lt _ (List.getLast_mem hne)
        have h2 : n ≤ k.getLast hne := by
          obtain ⟨i, hi, e⟩ := List.mem_iff_getElem.mp hn
          rw [List.getLast_eq_getElem]
          by_cases hi' : i = k.length - 1
          · subst hi'; omega
          · have := List.pairwise_iff_getElem.mp h.ord i (k.length - 1) hi (by omega) (by omega)
            omega
        omega
      refine List.mem_map.mpr ⟨k.dropLast, subs_mem n ⟨h.ord.sublist (List.dropLast_sublist k), fun b hb => ?_⟩, ?_⟩
      · have hb' := List.dropLast_subset _ hb
        have := h.lt b hb'
        have hne2 : b ≠ n := fun e => by
          subst e
          have hd : (k.dropLast ++ [k.getLast hne]).Pairwise (· < ·) := by rw [List.dropLast_concat_getLast]; exact h.ord
          have := (List.pairwise_append.mp hd).2.2 _ hb (k.getLast hne) (by simp)
          omega
        omega
      · rw [← hl]; exact List.dropLast_concat_getLast hne
    · left
      refine subs_mem n ⟨h.ord, fun b hb => ?_⟩
      have := h.lt b hb
      have : b ≠ n := fun e => hn (e ▸ hb)
      omega
theorem nd_le2 {α : Type} [DecidableEq α] : ∀ (l D : List α), l.Nodup → (∀ x ∈ l, x ∈ D) → l.length ≤ D.length
  | [], _, _, _ => Nat.zero_le _
  | x :: l, D, h, hs => by
    obtain ⟨h1, h2⟩ := List.nodup_cons.mp h
    have hx := hs x (by simp)
    have ih := nd_le2 l (D.erase x) h2 fun y hy => (List.mem_erase_of_ne (fun e => h1 (by rw [← e]; exact hy))).mpr (hs y (by simp [hy]))
    rw [List.length_erase_of_mem hx] at ih
    have := List.length_pos_of_mem hx
    simp only [List.length_cons]
    omega
theorem BInv.few {sts : List St} {kn : Kn} {wt : List Key} (h : BInv ws row sts kn wt) : kn.length ≤ 2 ^ row.length ∧ wt.length ≤ kn.length := by
  constructor
  · have := nd_le2 (kn.map (·.1)) (subs row.length) h.nd fun k hk => by
      obtain ⟨e, he, rfl⟩ := List.mem_map.mp hk
      exact subs_mem _ (h.path e he).key
    rw [List.length_map, subs_len] at this
    exact this
  · have := nd_le2 wt (kn.map (·.1)) h.wnd fun k hk => by
      obtain ⟨p, hp⟩ := h.wk k hk
      exact List.mem_map.mpr ⟨_, hp, rfl⟩
    rwa [List.length_map] at this
end
end Fr
/-! plain: stamps that free a text, beyond its ends -/
namespace Fr
def cvZ (ws : Ws) (s : St) (z : Int) : Option Nat := if s.2 ≤ z then (wd ws s.1)[(z - s.2).toNat]? else none
theorem cv_cvZ (ws : Ws) (s : St) (b : Nat) : cv ws s b = cvZ ws s (b : Int) := rfl
theorem cvZ_some {ws : Ws} {s : St} {z : Int} : (cvZ ws s z).isSome = true ↔ s.2 ≤ z ∧ z < s.2 + ((wd ws s.1).length : Int) := by
  unfold cvZ
  by_cases h : s.2 ≤ z
  · rw [if_pos h]
    constructor
    · intro e
      obtain ⟨c, hc⟩ := Option.isSome_iff_exists.mp e
      have := (List.getElem?_eq_some_iff.mp hc).1
      omega
    · rintro ⟨_, h2⟩
      rw [List.getElem?_eq_getElem (by omega)]; rfl
  · rw [if_neg h]
    constructor
    · intro e; cases e
    · intro e; exact absurd e.1 h
inductive PthL (ws : Ws) (row : List Nat) (over : Nat) : List St → List Nat → Prop
  | nil : PthL ws row over [] []
  | snoc {p : List St} {f : List Nat} (s : St) : PthL ws row over p f → On ws (-(over : Int)) ((row.length : Int) + over) s → frBy ws row f s ≠ [] → PthL ws row over (p ++ [s]) (f ++ frBy ws row f s)
section
variable {ws : Ws} {row : List Nat} {over : Nat}
theorem pass_pth : ∀ (ss : List St) (f : List Nat) (d : List St), (∀ s ∈ ss, On ws (-(over : Int)) ((row.length : Int) + over) s) → PthL ws row over d f → PthL ws row over (pass ws row ss f d).2 (pass ws row ss f d).1
  | [], f, d, _, h => h
  | s :: ss, f, d, hs, h => by
    unfold pass
    split
    · exact pass_pth ss f d (fun t ht => hs t (by simp [ht])) h
    · rename_i hne
      exact pass_pth ss _ _ (fun t ht => hs t (by simp [ht])) (.snoc s h (hs s (by simp)) hne)
theorem loop_pth {ss : List St} (hs : ∀ s ∈ ss, On ws (-(over : Int)) ((row.length : Int) + over) s) : ∀ (n : Nat) (f : List Nat) (d : List St), PthL ws row over d f → PthL ws row over (frLoop ws row ss n f d).2 (frLoop ws row ss n f d).1
  | 0, f, d, h => h
  | n + 1, f, d, h => by
    unfold frLoop
    split
    · exact pass_pth ss f d hs h
    · exact loop_pth hs n _ _ (pass_pth ss f d hs h)
theorem freed_pth (ws : Ws) (row : List Nat) (over : Nat) : PthL ws row over (freed ws row over).2 (freed ws row over).1 :=
  loop_pth (fun s hs => stOn_on.mp hs) _ _ _ .nil
theorem PthL.on {p : List St} {f : List Nat} (h : PthL ws row over p f) : ∀ s ∈ p, On ws (-(over : Int)) ((row.length : Int) + over) s := by
  induction h with
  | nil => simp
  | snoc s h hs hf ih =>
    intro t ht
    rcases List.mem_append.mp ht with z | z
    · exact ih t z
    · rw [List.mem_singleton.mp z]; exact hs
theorem PthL.len {p : List St} {f : List Nat} (h : PthL ws row over p f) : p.length ≤ f.length := by
  induction h with
  | nil => exact Nat.le_refl _
  | snoc s h hs hf ih =>
    have := List.length_pos_iff.mpr hf
    simp only [List.length_append, List.length_singleton]
    omega
theorem PthL.touch {p : List St} {f : List Nat} (h : PthL ws row over p f) : ∀ s ∈ p, ∃ b : Nat, b < row.length ∧ (cvZ ws s b).isSome = true := by
  induction h with
  | nil => simp
  | @snoc p f s h hs hf ih =>
    intro t ht
    rcases List.mem_append.mp ht with z | z
    · exact ih t z
    · rw [List.mem_singleton.mp z]
      obtain ⟨x, l, e⟩ := List.exists_cons_of_ne_nil hf
      have hx : x ∈ frBy ws row f s := by rw [e]; simp
      obtain ⟨h1, _, ⟨c, h3⟩, _⟩ := frBy_mem hx
      exact ⟨x, h1, by rw [← cv_cvZ, h3]; rfl⟩
theorem PthL.cov {p : List St} {f : List Nat} (h : PthL ws row over p f) : ∀ s ∈ p, ∀ b c, b < row.length → cv ws s b = some c → b ∈ f := by
  induction h with
  | nil => simp
  | @snoc p f s h hs hf ih =>
    intro t ht b c hb hc
    rcases List.mem_append.mp ht with z | z
    · exact List.mem_append_left _ (ih t z b c hb hc)
    · rw [List.mem_singleton.mp z] at hc
      by_cases hk : b ∈ f
      · exact List.mem_append_left _ hk
      · exact List.mem_append_right _ ((frBy_fit hf hb hc).2 hk)
theorem PthL.first {p : List St} {f : List Nat} (h : PthL ws row over p f) : ∀ b ∈ f, p.findSome? (cv ws · b) = row[b]? ∧ b < row.length := by
  induction h with
  | nil => simp
  | @snoc p f s h hs hf ih =>
    intro b hb
    rcases List.mem_append.mp hb with z | z
    · obtain ⟨e1, e2⟩ := ih b z
      refine ⟨?_, e2⟩
      rw [List.findSome?_append, e1, List.getElem?_eq_getElem e2]
      rfl
    · obtain ⟨h1, h2, ⟨c, h3⟩, h4⟩ := frBy_mem z
      refine ⟨?_, h1⟩
      have hn : p.findSome? (cv ws · b) = none := by
        rw [List.findSome?_eq_none_iff]
        intro t ht
        cases e : cv ws t b with
        | none => rfl
        | some d => exact absurd (h.cov t ht b d h1 e) h2
      rw [List.findSome?_append, hn]
      show (none : Option Nat).or (List.findSome? (cv ws · b) [s]) = _
      rw [List.findSome?_cons, h3]
      by_cases hm : row[b]? = some c
      · rw [hm]; rfl
      · exact absurd (h4 b c h1 h3 hm) h2
/-- what stamps that touch the row cover is an interval round it -/
theorem interval : ∀ (p : List St), (∀ s ∈ p, On ws (-(over : Int)) ((row.length : Int) + over) s) → (∀ s ∈ p, ∃ b : Nat, b < row.length ∧ (cvZ ws s b).isSome = true) →
    ∃ lo hi : Int, lo ≤ 0 ∧ (row.length : Int) ≤ hi ∧ -(over : Int) ≤ lo ∧ hi ≤ (row.length : Int) + over ∧ ∀ z : Int, (lo ≤ z ∧ z < hi) ↔ (0 ≤ z ∧ z < row.length) ∨ ∃ s ∈ p, (cvZ ws s z).isSome = true
  | [], _, _ => ⟨0, row.length, by omega, by omega, by omega, by omega, fun z => by simp⟩
  | s :: p, h1, h2 => by
    obtain ⟨lo, hi, a1, a2, a3, a4, a5⟩ := interval p (fun t ht => h1 t (by simp [ht])) fun t ht => h2 t (by simp [ht])
    obtain ⟨b, hb, hc⟩ := h2 s (by simp)
    obtain ⟨o1, o2, o3⟩ := h1 s (by simp)
    rw [cvZ_some] at hc
    refine ⟨min lo s.2, max hi (s.2 + ((wd ws s.1).length : Int)), by omega, by omega, by omega, by omega, fun z => ?_⟩
    have := a5 z
    constructor
    · intro hz
      by_cases hi' : lo ≤ z ∧ z < hi
      · rcases this.mp hi' with y | ⟨t, ht, y⟩
        · exact .inl y
        · exact .inr ⟨t, by simp [ht], y⟩
      · exact .inr ⟨s, by simp, cvZ_some.mpr (by omega)⟩
    · rintro (y | ⟨t, ht, y⟩)
      · have := this.mpr (.inl y); omega
      · rcases List.mem_cons.mp ht with rfl | ht
        · have := cvZ_some.mp y; omega
        · have := this.mpr (.inr ⟨t, ht, y⟩); omega
end
end Fr
namespace Lw
open PySem L2 DL
structure GOk (a t q : Addr) (g : Tw) : Prop where
  sc : g.sc = a
  tn : g.tn = some (t, q)
  ct : 0 ≤ g.ct
  ns : g.ns.length ≤ 63
  ky : ∀ p ∈ g.rs, 0 ≤ p.1 ∧ p.1 < 64
  nd : (g.rs.map (·.1)).Nodup
section
variable {G : Type} {a t q : Addr}
theorem mTwn_ap {i : Nat} {sl : SL} {g : Tw × G} (h : sl[i]? = some (some (.d (.ref t)))) (ht : g.1.tn = some (t, q)) : mTwn i sl g = some (.ok g.1, g) := by
  unfold mTwn
  rw [h]
  simp [ht]
theorem mScr_ap {i : Nat} {sl : SL} {g : Tw × G} (h : sl[i]? = some (some (.d (.ref a)))) (ht : g.1.sc = a) : mScr i sl g = some (.ok g.1.ns, g) := by
  unfold mScr
  rw [h]
  simp [ht]
theorem nd_len : ∀ (l D : List Nat), l.Nodup → (∀ x ∈ l, x ∈ D) → l.length ≤ D.length
  | [], _, _, _ => Nat.zero_le _
  | x :: l, D, h, hs => by
    obtain ⟨h1, h2⟩ := List.nodup_cons.mp h
    have hx := hs x (by simp)
    have ih := nd_len l (D.erase x) h2 fun y hy => (List.mem_erase_of_ne (fun e => h1 (by rw [← e]; exact hy))).mpr (hs y (by simp [hy]))
    rw [List.length_erase_of_mem hx] at ih
    have := List.length_pos_of_mem hx
    simp only [List.length_cons]
    omega
theorem ky_len {rs : List (Int × Int)} (ky : ∀ p ∈ rs, 0 ≤ p.1 ∧ p.1 < 64) (nd : (rs.map (·.1)).Nodup) : rs.length ≤ 64 := by
  have h1 : ((rs.map (·.1)).map Int.toNat).Nodup := by
    refine List.pairwise_map.mpr (List.Pairwise.imp_of_mem (fun {x y} hx hy hne e => ?_) nd)
    obtain ⟨p, hp, rfl⟩ := List.mem_map.mp hx
    obtain ⟨r, hr, rfl⟩ := List.mem_map.mp hy
    have := ky p hp
    have := ky r hr
    exact hne (by omega)
  have h2 : ∀ x ∈ (rs.map (·.1)).map Int.toNat, x ∈ List.range 64 := by
    intro x hx
    obtain ⟨z, hz, rfl⟩ := List.mem_map.mp hx
    obtain ⟨p, hp, rfl⟩ := List.mem_map.mp hz
    have := ky p hp
    exact List.mem_range.mpr (by omega)
  have h3 := nd_len _ _ h1 h2
  simpa using h3
theorem rsPut_keys {rs : List (Int × Int)} {k v : Int} (hk : 0 ≤ k ∧ k < 64) (ky : ∀ p ∈ rs, 0 ≤ p.1 ∧ p.1 < 64) (nd : (rs.map (·.1)).Nodup) : (∀ p ∈ rsPut rs k v, 0 ≤ p.1 ∧ p.1 < 64) ∧ ((rsPut rs k v).map (·.1)).Nodup := by
  unfold rsPut
  split
  · have e : (rs.map fun p => if p.1 = k then (p.1, v) else p).map (·.1) = rs.map (·.1) := by
      rw [List.map_map]
      congr 1
      funext p
      by_cases h : p.1 = k <;> simp [h]
    refine ⟨fun p hp => ?_, by rw [e]; exact nd⟩
    obtain ⟨r, hr, rfl⟩ := List.mem_map.mp hp
    have := ky r hr
    split
    · exact this
    · exact this
  · rename_i hn
    refine ⟨fun p hp => ?_, ?_⟩
    · rcases List.mem_append.mp hp with h | h
      · exact ky p h
      · rw [List.mem_singleton.mp h]; exact hk
    · rw [List.map_append]
      refine List.nodup_append.mpr ⟨nd, by simp, fun x hx y hy e => ?_⟩
      obtain ⟨p, hp, rfl⟩ := List.mem_map.mp hx
      simp at hy
      subst hy
      exact hn (List.any_eq_true.mpr ⟨p, hp, by simpa using e⟩)
theorem draw_ok {g : Tw × G} (h : GOk a t q g.1) {many : Int} (h0 : 0 < many) (h1 : many < 1073741824) :
    ∃ (n : Int) (g' : Tw × G), 0 ≤ n ∧ n < many ∧ GOk a t q g'.1 ∧ g'.2 = g.2 ∧ f__law_draw [.ref a, .ref t, .int many] g = some (.ok (.int n), g') := by
  obtain ⟨⟨inn, sc, ns, tn, ct, rs⟩, g2⟩ := g
  obtain ⟨rfl, rfl, hct, hns, ky, nd⟩ := h
  have emod : ∀ x : Int, 0 ≤ x % many ∧ x % many < many := fun x => ⟨Int.emod_nonneg _ (by omega), Int.emod_lt_of_pos _ h0⟩
  simp only at hct hns ky nd
  -- the place that is asked
  obtain ⟨at_, hat, eat⟩ : ∃ z : Int, (0 ≤ z ∧ z < 64 ∧ (ns ≠ [] → z < ns.length)) ∧ eIfM (tScr 0) (e2 modD (eCount 1) (eScrLen 0)) (eC (.int 0)) [some (.d (.ref sc)), some (.d (.ref t)), some (.d (.int many)), none, none, none] ((⟨inn, sc, ns, some (t, q), ct + 1, rs⟩, g2) : Tw × G) = some (.ok (.int z), (⟨inn, sc, ns, some (t, q), ct + 1, rs⟩, g2)) := by
    by_cases hs : ns = []
    · subst hs
      refine ⟨0, by simp, ?_⟩
      simp [tScr, mScr]
    · refine ⟨(ct + 1) % (ns.length : Int), ⟨Int.emod_nonneg _ (by have := List.length_pos_iff.mpr hs; omega), ?_⟩, ?_⟩
      · have := List.length_pos_iff.mpr hs
        have := Int.emod_lt_of_pos (ct + 1) (show (0 : Int) < ns.length by omega)
        exact ⟨by omega, fun _ => this⟩
      · have hp := List.length_pos_iff.mpr hs
        have hp2 : (0 : Int) < ns.length := by omega
        simp [tScr, mScr, hs, eCount, mTwn, eScrLen, modD, hp]
  obtain ⟨rest, erest⟩ : ∃ z : Int, eRest 1 (eV 3) (eIfM (tScr 0) (eScrAt 0 (eV 3)) (eC (.int 0))) [some (.d (.ref sc)), some (.d (.ref t)), some (.d (.int many)), some (.d (.int at_)), none, none] ((⟨inn, sc, ns, some (t, q), ct + 1, rs⟩, g2) : Tw × G) = some (.ok (.int z), (⟨inn, sc, ns, some (t, q), ct + 1, rs⟩, g2)) := by
    by_cases hs : ns = []
    · subst hs
      exact ⟨(rsGet rs at_).getD 0, by simp [eRest, mTwn, tScr, mScr]⟩
    · have hlt := hat.2.2 hs
      obtain ⟨v, hv⟩ : ∃ v, atI ns at_ = some v := by
        refine ⟨ns[at_.toNat]'(by omega), atI_iff.mpr ⟨at_.toNat, ?_, List.getElem?_eq_getElem (by omega)⟩⟩
        unfold ixN
        rw [if_pos hat.1, if_pos hlt]
      exact ⟨(rsGet rs at_).getD v, by simp [eRest, mTwn, tScr, mScr, hs, eScrAt, hv]⟩
  have hlen := ky_len ky nd
  have h18 : powD (.int 10) (.int 18) = some (.int 1000000000000000000) := by simp [powD]
  have s1 : sCount 1 (e2 addD (eCount 1) (eC (.int 1))) [some (.d (.ref sc)), some (.d (.ref t)), some (.d (.int many)), none, none, none] ((⟨inn, sc, ns, some (t, q), ct, rs⟩, g2) : Tw × G) = some (.nx, [some (.d (.ref sc)), some (.d (.ref t)), some (.d (.int many)), none, none, none], (⟨inn, sc, ns, some (t, q), ct + 1, rs⟩, g2)) := by
    simp [sCount, eCount, mTwn, addD]
  have s2 : sAsg 3 (xD (eIfM (tScr 0) (e2 modD (eCount 1) (eScrLen 0)) (eC (.int 0)))) [some (.d (.ref sc)), some (.d (.ref t)), some (.d (.int many)), none, none, none] ((⟨inn, sc, ns, some (t, q), ct + 1, rs⟩, g2) : Tw × G) = some (.nx, [some (.d (.ref sc)), some (.d (.ref t)), some (.d (.int many)), some (.d (.int at_)), none, none], (⟨inn, sc, ns, some (t, q), ct + 1, rs⟩, g2)) := by
    rw [asg_ap, xD_ap, eat]; rfl
  have s3 : sAsg 4 (xD (eRest 1 (eV 3) (eIfM (tScr 0) (eScrAt 0 (eV 3)) (eC (.int 0))))) [some (.d (.ref sc)), some (.d (.ref t)), some (.d (.int many)), some (.d (.int at_)), none, none] ((⟨inn, sc, ns, some (t, q), ct + 1, rs⟩, g2) : Tw × G) = some (.nx, [some (.d (.ref sc)), some (.d (.ref t)), some (.d (.int many)), some (.d (.int at_)), some (.d (.int rest)), none], (⟨inn, sc, ns, some (t, q), ct + 1, rs⟩, g2)) := by
    rw [asg_ap, xD_ap, erest]; rfl
  have s0 : f__law_draw [.ref sc, .ref t, .int many] ((⟨inn, sc, ns, some (t, q), ct, rs⟩, g2) : Tw × G) = fnK (F__law_draw [some (.d (.ref sc)), some (.d (.ref t)), some (.d (.int many)), none, none, none] ((⟨inn, sc, ns, some (t, q), ct, rs⟩, g2) : Tw × G)) := rfl
  rw [s0]
  unfold F__law_draw
  rw [seq_ap, s1, seqK_nx, seq_ap, s2, seqK_nx, seq_ap, s3, seqK_nx]
  by_cases hb : 1000000000000000000 ≤ rest
  · obtain ⟨k1, k2⟩ := rsPut_keys (rs := rs) (k := at_) (v := rest / many) ⟨hat.1, hat.2.1⟩ ky nd
    refine ⟨rest % many, (⟨inn, sc, ns, some (t, q), ct + 1, rsPut rs at_ (rest / many)⟩, g2), (emod rest).1, (emod rest).2, ⟨rfl, rfl, by simp only; omega, hns, k1, k2⟩, rfl, ?_⟩
    have hl2 : rs.length < LIM := by unfold LIM; omega
    simp [h18, geD, hb, sRest, fdivD, h0, h1, mTwn, modD, hl2]
  · obtain ⟨n, hn⟩ : ∃ n : Int, n = ((rest + 104729 * (ct + 1)) % 4294967291) ^ 5 % 4294967279 := ⟨_, rfl⟩
    refine ⟨((n / 64 * 69621 + n) % 4294967231 / 8) % many, (⟨inn, sc, ns, some (t, q), ct + 1, rs⟩, g2), (emod _).1, (emod _).2, ⟨rfl, rfl, by simp only; omega, hns, ky, nd⟩, rfl, ?_⟩
    have hp : ((rest + 104729 * (ct + 1)) % 4294967291).natAbs < 18446744073709551616 := by omega
    simp [h18, geD, hb, eCount, mTwn, mulD, addD, modD, powD, fdivD, hp, smallI, h0, ← hn]
end
end Lw
namespace DL
open PySem L2
section
variable {G : Type}
/-- a comprehension that draws -/
theorem compL_run {tg : Tg} {cnd : M G Bool} {elt : M G D} {sl : SL} (Inv : G → Prop) (P : D → Prop) : ∀ (ds : List D) (g : G), Inv g →
    (∀ d ∈ ds, ∀ g, Inv g → ∃ sl1 x g', tg d sl = some sl1 ∧ cnd sl1 g = some (.ok true, g) ∧ elt sl1 g = some (.ok x, g') ∧ P x ∧ Inv g') →
    ∃ xs g', compL tg cnd elt ds sl g = some (.ok xs, g') ∧ xs.length = ds.length ∧ (∀ x ∈ xs, P x) ∧ Inv g'
  | [], g, i, _ => ⟨[], g, rfl, rfl, by simp, i⟩
  | d :: ds, g, i, H => by
    obtain ⟨sl1, x, g1, e1, e2, e3, p, i1⟩ := H d (by simp) g i
    obtain ⟨xs, g2, e4, e5, e6, i2⟩ := compL_run Inv P ds g1 i1 fun d' hd' => H d' (by simp [hd'])
    refine ⟨x :: xs, g2, ?_, by simp [e5], fun y hy => ?_, i2⟩
    · unfold compL
      rw [e1]
      simp only [e2, e3, e4]
    · rcases List.mem_cons.mp hy with rfl | hy
      · exact p
      · exact e6 y hy
theorem iR1_ap {f : M G D} {sl : SL} {g g1 : G} {n : Int} (h : f sl g = some (.ok (.int n), g1)) (h0 : -1000 ≤ n) (h1 : n ≤ 1000) : iR1 f sl g = some (.ok (rgD 0 n), g1) := by
  unfold iR1
  rw [bind_ap, h, bindK_ok, bind_ap]
  have e : rgOk 0 n = true := by
    unfold rgOk
    simp
    omega
  simp [lift_ap, asI, liftK_some, bindK_ok, e]
theorem iR2_ap {f h : M G D} {sl : SL} {g g1 g2 : G} {n m : Int} (h1 : f sl g = some (.ok (.int n), g1)) (h2 : h sl g1 = some (.ok (.int m), g2)) (b1 : -1000 ≤ n ∧ n ≤ 1000) (b2 : -1000 ≤ m ∧ m ≤ 1000) : iR2 f h sl g = some (.ok (rgD n m), g2) := by
  unfold iR2
  rw [bind_ap, h1, bindK_ok, bind_ap, h2, bindK_ok, bind_ap]
  have e : rgOk n m = true := by
    unfold rgOk
    simp
    omega
  simp [lift_ap, asI, liftK_some, bindK_ok, bind_ap, e]
theorem rgD_len (n m : Int) : (rgD n m).length = (m - n).toNat := by simp [rgD]
theorem rgD_mem {n m : Int} {d : D} (h : d ∈ rgD n m) : ∃ z : Int, d = .int z ∧ n ≤ z ∧ z < m := by
  unfold rgD at h
  obtain ⟨i, hi, rfl⟩ := List.mem_map.mp h
  have := List.mem_range.mp hi
  exact ⟨n + i, rfl, by omega, by omega⟩
theorem joinS_nil (ss : List (List Nat)) : joinS [] ss = ss.flatten := by
  induction ss with
  | nil => rfl
  | cons p l ih =>
    cases l with
    | nil => simp [joinS]
    | cons q l => rw [joinS, ih]; simp
theorem asSs_map (ss : List (List Nat)) : asSs (ss.map D.str) = some ss := by
  induction ss with
  | nil => rfl
  | cons p l ih => simp [asSs, ih]
theorem strs_of {xs : List D} {P : List Nat → Prop} (h : ∀ x ∈ xs, ∃ s, x = .str s ∧ P s) : ∃ ss : List (List Nat), xs = ss.map D.str ∧ ∀ s ∈ ss, P s := by
  induction xs with
  | nil => exact ⟨[], rfl, by simp⟩
  | cons x xs ih =>
    obtain ⟨ss, e, hs⟩ := ih fun y hy => h y (by simp [hy])
    obtain ⟨s, rfl, p⟩ := h x (by simp)
    refine ⟨s :: ss, by simp [e], fun y hy => ?_⟩
    rcases List.mem_cons.mp hy with rfl | hy
    · exact p
    · exact hs y hy
theorem atI_nat {α : Type} {xs : List α} {i : Nat} (h : i < xs.length) : atI xs (i : Int) = some xs[i] := by
  refine atI_iff.mpr ⟨i, ?_, List.getElem?_eq_getElem h⟩
  unfold ixN
  rw [if_pos (by omega), if_pos (by omega)]
  simp
theorem atI_int {α : Type} {xs : List α} {z : Int} (h0 : 0 ≤ z) (h : z < xs.length) : atI xs z = some (xs[z.toNat]'(by omega)) := by
  have := atI_nat (xs := xs) (i := z.toNat) (by omega)
  rw [← this]
  congr 1
  omega
theorem flat_len (ss : List (List Nat)) (h : ∀ s ∈ ss, s.length = 1) : ss.flatten.length = ss.length := by
  induction ss with
  | nil => rfl
  | cons p l ih =>
    rw [List.flatten_cons, List.length_append, ih fun s hs => h s (by simp [hs]), h p (by simp)]
    simp; omega
end
end DL
namespace Lw
open PySem L2 DL
section
variable {G : Type} {a t q : Addr}
/-- what a drawn word is -/
def WordOk (letters : List Nat) (most : Nat) (w : List Nat) : Prop := 1 ≤ w.length ∧ w.length ≤ most ∧ ∀ c ∈ w, c ∈ letters
theorem word_ok {g : Tw × G} (h : GOk a t q g.1) {most : Nat} {letters : List Nat} (m0 : 0 < most) (m1 : most ≤ 100) (l0 : 0 < letters.length) (l1 : letters.length ≤ 100) :
    ∃ (w : List Nat) (g' : Tw × G), WordOk letters most w ∧ GOk a t q g'.1 ∧ g'.2 = g.2 ∧ f__law_word [.ref a, .ref t, .int most, .str letters] g = some (.ok (.str w), g') := by
  obtain ⟨n, g1, n0, n1, ok1, s1, dr1⟩ := draw_ok h (many := most) (by omega) (by omega)
  have it : iR1 (e2 addD (eC (.int 1)) (callM f__law_draw (aCons (eV 0) (aCons (eV 1) (aCons (eV 2) aNil))))) [some (.d (.ref a)), some (.d (.ref t)), some (.d (.int most)), some (.d (.str letters)), none] g = some (.ok (rgD 0 (1 + n)), g1) :=
    iR1_ap (by simp [dr1, addD]) (by omega) (by omega)
  obtain ⟨xs, g2, c1, c2, c3, c4, c5⟩ := compL_run (tg := tg1 4) (cnd := tYesM) (elt := e2 ixD (eV 3) (callM f__law_draw (aCons (eV 0) (aCons (eV 1) (aCons (e1 lenD (eV 3)) aNil))))) (sl := [some (.d (.ref a)), some (.d (.ref t)), some (.d (.int most)), some (.d (.str letters)), none])
    (fun g' : Tw × G => GOk a t q g'.1 ∧ g'.2 = g.2) (fun x => ∃ s, x = .str s ∧ s.length = 1 ∧ ∀ c ∈ s, c ∈ letters) (rgD 0 (1 + n)) g1 ⟨ok1, s1⟩ (fun d hd g' ⟨i1, i2⟩ => by
      obtain ⟨z, g'', z0, z1, ok2, s2, dr2⟩ := draw_ok i1 (many := letters.length) (by omega) (by omega)
      have hz : atI letters z = some (letters[z.toNat]'(by omega)) := atI_int z0 z1
      refine ⟨_, .str [letters[z.toNat]'(by omega)], g'', rfl, rfl, ?_, ⟨_, rfl, rfl, ?_⟩, ok2, s2.trans i2⟩
      · simp [tg1, lenD, dr2, ixD, hz]
      · intro c hc
        rw [List.mem_singleton.mp hc]
        exact List.getElem_mem _)
  obtain ⟨ss, rfl, hs⟩ := strs_of c3
  have hl : ss.length = (1 + n).toNat := by
    rw [List.length_map, rgD_len] at c2
    rw [c2]; omega
  have hfl := flat_len ss fun s hs' => (hs s hs').1
  have hx : ss.length ≤ LIM := by unfold LIM; omega
  have hxf : ss.flatten.length ≤ LIM := by rw [hfl]; exact hx
  have hsum : (ss.map List.length).sum ≤ LIM := by rw [← List.length_flatten]; exact hxf
  refine ⟨ss.flatten, g2, ⟨by rw [hfl]; omega, by rw [hfl]; omega, fun c hc => ?_⟩, c4, c5, ?_⟩
  · obtain ⟨s, h1, h2⟩ := List.mem_flatten.mp hc
    exact (hs s h1).2 c h2
  · have e : f__law_word [.ref a, .ref t, .int most, .str letters] g = fnK (F__law_word [some (.d (.ref a)), some (.d (.ref t)), some (.d (.int most)), some (.d (.str letters)), none] g) := rfl
    rw [e]
    unfold F__law_word
    rw [ret_ap]
    unfold eJoin
    rw [bind_ap, eC_ap, bindK_ok, bind_ap, lift_ap]
    show fnK (doK (bindK (liftK (some []) g) _ _) _ _) = _
    rw [liftK_some, bindK_ok, bind_ap, comp_ap, it, bindK_ok]
    have ew : wipeS [some (.d (.ref a)), some (.d (.ref t)), some (.d (.int most)), some (.d (.str letters)), (none : Option Slot)] [4] = [some (.d (.ref a)), some (.d (.ref t)), some (.d (.int most)), some (.d (.str letters)), none] := rfl
    rw [ew]
    simp [c1, hx, joinD, asSs_map, joinS_nil, hxf, hsum]
end
end Lw
namespace DL
open PySem L2
section
variable {G : Type}
@[simp] theorem eqD_int (a b : Int) : eqD (.int a) (.int b) = some (.bl (a == b)) := rfl
@[simp] theorem neD_int (a b : Int) : neD (.int a) (.int b) = some (.bl (!(a == b))) := rfl
@[simp] theorem eqD_str (a b : List Nat) : eqD (.str a) (.str b) = some (.bl (a == b)) := rfl
@[simp] theorem neD_str (a b : List Nat) : neD (.str a) (.str b) = some (.bl (!(a == b))) := rfl
@[simp] theorem eqD_bl (a b : Bool) : eqD (.bl a) (.bl b) = some (.bl (a == b)) := rfl
@[simp] theorem neD_bl (a b : Bool) : neD (.bl a) (.bl b) = some (.bl (!(a == b))) := rfl
@[simp] theorem lenD_str (s : List Nat) : lenD (.str s) = some (.int s.length) := rfl
@[simp] theorem lenD_lst (s : List D) : lenD (.lst s) = some (.int s.length) := rfl
@[simp] theorem lenD_tup (s : List D) : lenD (.tup s) = some (.int s.length) := rfl
@[simp] theorem addD_int (a b : Int) : addD (.int a) (.int b) = some (.int (a + b)) := rfl
@[simp] theorem subD_int (a b : Int) : subD (.int a) (.int b) = some (.int (a - b)) := rfl
@[simp] theorem ltD_int (a b : Int) : ltD (.int a) (.int b) = some (.bl (decide (a < b))) := rfl
@[simp] theorem ltD_str (a b : List Nat) : ltD (.str a) (.str b) = some (.bl (decide (a < b))) := rfl
@[simp] theorem leD_int (a b : Int) : leD (.int a) (.int b) = some (.bl (decide (a ≤ b))) := rfl
@[simp] theorem gtD_int (a b : Int) : gtD (.int a) (.int b) = some (.bl (decide (b < a))) := rfl
@[simp] theorem geD_int (a b : Int) : geD (.int a) (.int b) = some (.bl (decide (b ≤ a))) := rfl
@[simp] theorem negD_int (a : Int) : negD (.int a) = some (.int (-a)) := rfl
@[simp] theorem isN_non : isN .non .non = some (.bl true) := rfl
@[simp] theorem notN_non : notN .non .non = some (.bl false) := rfl
@[simp] theorem notN_int (a : Int) : notN (.int a) .non = some (.bl true) := rfl
@[simp] theorem tupD_lst (s : List D) : tupD (.lst s) = some (.tup s) := rfl
@[simp] theorem tupD_tup (s : List D) : tupD (.tup s) = some (.tup s) := rfl
theorem forL_nx {tg : Tg} {b : SM G} {vs : List Nat} {d : D} {ds : List D} {sl sl1 sl2 : SL} {g g2 : G} (h1 : tg d sl = some sl1) (h2 : b sl1 g = some (.nx, sl2, g2)) : forL tg b vs (d :: ds) sl g = forL tg b vs ds (wipeS sl2 vs) g2 := by
  rw [forL]
  simp only [h1, h2]
@[simp] theorem oS_ap {a : M G D} {sl : SL} {g : G} : oS a sl g = bindK (a sl g) (fun x => M.bind (M.lift (asI x)) fun i => M.pure (some i)) sl := rfl
@[simp] theorem asI_int {i : Int} : asI (.int i) = some i := rfl
theorem cut_to {α : Type} (xs : List α) (n : Nat) : cut xs none (some (n : Int)) = xs.take n := by
  unfold cut
  rw [HT.sIx_nat, HT.sIx_none]
  simp only [List.drop_zero, Nat.sub_zero]
  rcases Nat.le_total n xs.length with h | h
  · rw [Nat.min_eq_left h]
  · rw [Nat.min_eq_right h, List.take_of_length_le h, List.take_of_length_le (Nat.le_refl _)]
theorem cut_from {α : Type} (xs : List α) (n : Nat) : cut xs (some (n : Int)) none = xs.drop n := by
  unfold cut
  rw [HT.sIx_nat, HT.sIx_none]
  rcases Nat.le_total n xs.length with h | h
  · rw [Nat.min_eq_left h]
    exact List.take_of_length_le (by rw [List.length_drop]; omega)
  · rw [Nat.min_eq_right h, List.drop_of_length_le (Nat.le_refl _), List.drop_of_length_le h]
    simp
theorem cut_last {α : Type} (xs : List α) : cut xs (some (-1 : Int)) none = xs.drop (xs.length - 1) := by
  unfold cut
  rw [HT.sIx_none]
  have e : HT.sIx xs.length 0 (some (-1)) = xs.length - 1 := by
    show (if (-1 : Int) < 0 then ((-1 : Int) + (xs.length : Int)).toNat else min (-1 : Int).toNat xs.length) = xs.length - 1
    rw [if_pos (by decide)]
    omega
  rw [e]
  exact List.take_of_length_le (by rw [List.length_drop]; omega)
theorem sortU_len (l : List (List Nat)) : (sortU l).length ≤ l.length := by
  induction l with
  | nil => exact Nat.le_refl _
  | cons x l ih =>
    have h : ∀ (r : List (List Nat)), (insU x r).length ≤ r.length + 1 := by
      intro r
      induction r with
      | nil => simp [insU]
      | cons y r ih2 =>
        unfold insU
        split
        · simp
        · split
          · simp
          · simp only [List.length_cons]; omega
    show (insU x (sortU l)).length ≤ _
    have := h (sortU l)
    simp only [List.length_cons]
    omega
theorem sortU_pos (l : List (List Nat)) (h : l ≠ []) : 0 < (sortU l).length := by
  obtain ⟨x, l, rfl⟩ := List.exists_cons_of_ne_nil h
  have : x ∈ sortU (x :: l) := (sortU_mem _ _).mpr (by simp)
  exact List.length_pos_of_mem this
theorem take_pw {α : Type} {R : α → α → Prop} {l : List α} (n : Nat) (h : l.Pairwise R) : (l.take n).Pairwise R := h.sublist (List.take_sublist n l)
end
end DL
namespace Lw
open PySem L2 DL
section
variable {G : Type} {a t q : Addr}
/-- what drawn words are -/
structure WordsOk (letters : List Nat) (ws : List (List Nat)) : Prop where
  l0 : 1 ≤ ws.length
  l1 : ws.length ≤ 4
  each : ∀ w ∈ ws, WordOk letters 4 w
  ord : ws.Pairwise (· < ·)
def Ww (ws : List (List Nat)) : D := .tup (ws.map D.str)
theorem words_ok {g : Tw × G} (h : GOk a t q g.1) {most : Nat} {letters : List Nat} (m0 : 0 < most) (m1 : most ≤ 30) (l0 : 0 < letters.length) (l1 : letters.length ≤ 100) :
    ∃ (ws : List (List Nat)) (g' : Tw × G), WordsOk letters ws ∧ GOk a t q g'.1 ∧ g'.2 = g.2 ∧ f__law_words [.ref a, .ref t, .int most, .str letters] g = some (.ok (Ww ws), g') := by
  obtain ⟨n, g1, n0, n1, ok1, s1, dr1⟩ := draw_ok h (many := most) (by omega) (by omega)
  have it : iR1 (e2 addD (eC (.int 1)) (callM f__law_draw (aCons (eV 0) (aCons (eV 1) (aCons (eV 2) aNil))))) [some (.d (.ref a)), some (.d (.ref t)), some (.d (.int most)), some (.d (.str letters)), none, none] g = some (.ok (rgD 0 (1 + n)), g1) :=
    iR1_ap (by simp [dr1, addD]) (by omega) (by omega)
  obtain ⟨xs, g2, c1, c2, c3, c4, c5⟩ := compL_run (tg := tg1 5) (cnd := tYesM) (elt := callM f__law_word (aCons (eV 0) (aCons (eV 1) (aCons (eC (.int 3)) (aCons (eV 3) aNil))))) (sl := [some (.d (.ref a)), some (.d (.ref t)), some (.d (.int most)), some (.d (.str letters)), none, none])
    (fun g' : Tw × G => GOk a t q g'.1 ∧ g'.2 = g.2) (fun x => ∃ s, x = .str s ∧ WordOk letters 4 s) (rgD 0 (1 + n)) g1 ⟨ok1, s1⟩ (fun d hd g' ⟨i1, i2⟩ => by
      obtain ⟨w, g'', w1, ok2, s2, dr2⟩ := word_ok i1 (most := 3) (letters := letters) (by omega) (by omega) l0 l1
      refine ⟨_, .str w, g'', rfl, rfl, ?_, ⟨_, rfl, w1.1, Nat.le_trans w1.2.1 (by decide), w1.2.2⟩, ok2, s2.trans i2⟩
      have dr3 : f__law_word [.ref a, .ref t, .int 3, .str letters] g' = some (.ok (.str w), g'') := dr2
      simp [tg1, dr3])
  obtain ⟨ss, rfl, hs⟩ := strs_of c3
  have hl : ss.length = (1 + n).toNat := by
    rw [List.length_map, rgD_len] at c2
    rw [c2]; omega
  have hx : ss.length ≤ LIM := by unfold LIM; omega
  have ew : wipeS [some (.d (.ref a)), some (.d (.ref t)), some (.d (.int most)), some (.d (.str letters)), (none : Option Slot), none] [5] = [some (.d (.ref a)), some (.d (.ref t)), some (.d (.int most)), some (.d (.str letters)), none, none] := rfl
  have S1 : sAsg 4 (xL (eComp (iR1 (e2 addD (eC (.int 1)) (callM f__law_draw (aCons (eV 0) (aCons (eV 1) (aCons (eV 2) aNil)))))) [5] (tg1 5) tYesM (callM f__law_word (aCons (eV 0) (aCons (eV 1) (aCons (eC (.int 3)) (aCons (eV 3) aNil))))))) [some (.d (.ref a)), some (.d (.ref t)), some (.d (.int most)), some (.d (.str letters)), none, none] g
      = some (.nx, [some (.d (.ref a)), some (.d (.ref t)), some (.d (.int most)), some (.d (.str letters)), some (.oL (ss.map D.str)), none], g2) := by
    rw [asg_ap, xL_ap, comp_ap, it, bindK_ok, ew]
    simp [c1, hx]
  obtain ⟨m, g3, k0, k1, ok3, s3, dr3⟩ := draw_ok c4 (many := 5) (by omega) (by omega)
  obtain ⟨ss', g4, hs', hl0, hl1, ok4, s4, S2⟩ : ∃ (ss' : List (List Nat)) (g4 : Tw × G), (∀ s ∈ ss', WordOk letters 4 s) ∧ ss' ≠ [] ∧ ss'.length ≤ 31 ∧ GOk a t q g4.1 ∧ g4.2 = g.2 ∧
      sIf (tV (e2 eqD (callM f__law_draw (aCons (eV 0) (aCons (eV 1) (aCons (eC (.int 5)) aNil)))) (eC (.int 0)))) (sApp 4 (callM f__law_word (aCons (eV 0) (aCons (eV 1) (aCons (eC (.int 4)) (aCons (eV 3) aNil)))))) sSkip [some (.d (.ref a)), some (.d (.ref t)), some (.d (.int most)), some (.d (.str letters)), some (.oL (ss.map D.str)), none] g2
      = some (.nx, [some (.d (.ref a)), some (.d (.ref t)), some (.d (.int most)), some (.d (.str letters)), some (.oL (ss'.map D.str)), none], g4) := by
    by_cases hm : m = 0
    · subst hm
      obtain ⟨w, g5, w1, ok5, s5, dr5⟩ := word_ok ok3 (most := 4) (letters := letters) (by omega) (by omega) l0 l1
      have dr6 : f__law_word [.ref a, .ref t, .int 4, .str letters] g3 = some (.ok (.str w), g5) := dr5
      refine ⟨ss ++ [w], g5, fun s h => ?_, by simp, by rw [List.length_append, hl]; simp; omega, ok5, (s5.trans s3).trans c5, ?_⟩
      · rcases List.mem_append.mp h with h | h
        · exact hs s h
        · rw [List.mem_singleton.mp h]; exact w1
      · have hlt : ss.length < LIM := by unfold LIM; omega
        simp [dr3]
        rw [sApp_ap (xs := ss.map D.str) rfl]
        simp [dr6]
        rw [mutL_ap (xs := ss.map D.str) (ys := ss.map D.str ++ [.str w]) rfl (by simp [hlt])]
        rfl
    · refine ⟨ss, g3, hs, fun e => ?_, by omega, ok3, s3.trans c5, by simp [dr3, hm]⟩
      rw [e] at hl; simp at hl; omega
  have h64 : ss'.length < 1000 := by omega
  refine ⟨(sortU ss').take 4, g4, ⟨?_, ?_, fun w hw => hs' w ((sortU_mem _ _).mp (List.mem_of_mem_take hw)), take_pw 4 (sortU_ord ss')⟩, ok4, s4, ?_⟩
  · rw [List.length_take]
    have := sortU_pos ss' hl0
    omega
  · rw [List.length_take]; omega
  · have e : f__law_words [.ref a, .ref t, .int most, .str letters] g = fnK (F__law_words [some (.d (.ref a)), some (.d (.ref t)), some (.d (.int most)), some (.d (.str letters)), none, none] g) := rfl
    rw [e]
    unfold F__law_words
    rw [seq_ap, S1, seqK_nx, seq_ap, S2, seqK_nx]
    have ec : cut ((sortU ss').map D.str) none (some (4 : Int)) = _ := cut_to ((sortU ss').map D.str) 4
    simp [sortSetD, asSs_map, h64, slD, ec, tupD, Ww, List.map_take]

/-- stamps: the word's number, its place -/
abbrev Sts := List (Nat × Nat)
def Sd (s : Nat × Nat) : D := .tup [.int s.1, .int s.2]
def Ss (ss : Sts) : D := .tup (ss.map Sd)
def wordAt (ws : List (List Nat)) (n : Nat) : List Nat := ws.getD n []
def StOk (ws : List (List Nat)) (B : Nat) (s : Nat × Nat) : Prop := s.1 < ws.length ∧ s.2 + (wordAt ws s.1).length ≤ B
theorem ix_words {ws : List (List Nat)} {z : Int} (h0 : 0 ≤ z) (h1 : z < ws.length) : ixD (Ww ws) (.int z) = some (.str (wordAt ws z.toNat)) := by
  show atI (ws.map D.str) z = _
  rw [atI_int h0 (by simpa using h1)]
  simp [wordAt, List.getD]
  rw [List.getElem?_eq_getElem (by omega)]
  rfl
theorem len_words (ws : List (List Nat)) : lenD (Ww ws) = some (.int ws.length) := by simp [lenD, Ww]
theorem stamps_ok {g : Tw × G} (h : GOk a t q g.1) {ws : List (List Nat)} {letters : List Nat} {B most : Nat} (hw : WordsOk letters ws) (hB : B ≤ 100) (hm : most ≤ 20) :
    ∃ (ss : Sts) (g' : Tw × G), (ss.length ≤ most ∧ ∀ s ∈ ss, StOk ws B s) ∧ GOk a t q g'.1 ∧ g'.2 = g.2 ∧ f__law_stamps [.ref a, .ref t, Ww ws, .int B, .int most] g = some (.ok (Ss ss), g') := by
  obtain ⟨n, g1, n0, n1, ok1, s1, dr1⟩ := draw_ok h (many := most + 1) (by omega) (by omega)
  have e : f__law_stamps [.ref a, .ref t, Ww ws, .int B, .int most] g = fnK (F__law_stamps [some (.d (.ref a)), some (.d (.ref t)), some (.d (Ww ws)), some (.d (.int B)), some (.d (.int most)), none, none, none, none] g) := rfl
  rw [e]
  unfold F__law_stamps
  have S1 : sAsg 5 (xD (eTup aNil)) [some (.d (.ref a)), some (.d (.ref t)), some (.d (Ww ws)), some (.d (.int B)), some (.d (.int most)), none, none, none, none] g = some (.nx, [some (.d (.ref a)), some (.d (.ref t)), some (.d (Ww ws)), some (.d (.int B)), some (.d (.int most)), some (.d (.tup [])), none, none, none], g) := by
    simp
  have it : iR1 (callM f__law_draw (aCons (eV 0) (aCons (eV 1) (aCons (e2 addD (eV 4) (eC (.int 1))) aNil)))) [some (.d (.ref a)), some (.d (.ref t)), some (.d (Ww ws)), some (.d (.int B)), some (.d (.int most)), some (.d (.tup [])), none, none, none] g = some (.ok (rgD 0 n), g1) :=
    iR1_ap (by simp [addD, dr1]) (by omega) (by omega)
  rw [seq_ap, S1, seqK_nx, seq_ap, for_ap, it, doK_ok]
  -- the turns
  have turns : ∀ (ds : List D) (ss : Sts) (g1 : Tw × G), (∀ s ∈ ss, StOk ws B s) → ss.length + ds.length ≤ 20 → GOk a t q g1.1 → ∃ (ss' : Sts) (g2 : Tw × G), (∀ s ∈ ss', StOk ws B s) ∧ ss'.length ≤ ss.length + ds.length ∧ GOk a t q g2.1 ∧ g2.2 = g1.2 ∧
      forL (tg1 6) (sSeq (sAsg 7 (xD (callM f__law_draw (aCons (eV 0) (aCons (eV 1) (aCons (e1 lenD (eV 2)) aNil))))))
        (sSeq (sAsg 8 (xD (e2 subD (eV 3) (e1 lenD (e2 ixD (eV 2) (eV 7))))))
        (sIf (tV (e2 geD (eV 8) (eC (.int 0)))) (sAsg 5 (xD (e2 addD (eV 5) (eTup (aCons (eTup (aCons (eV 7) (aCons (callM f__law_draw (aCons (eV 0) (aCons (eV 1) (aCons (e2 addD (eV 8) (eC (.int 1))) aNil)))) aNil))) aNil))))) sSkip))) [6, 7, 8] ds
        [some (.d (.ref a)), some (.d (.ref t)), some (.d (Ww ws)), some (.d (.int B)), some (.d (.int most)), some (.d (Ss ss)), none, none, none] g1
      = some (.nx, [some (.d (.ref a)), some (.d (.ref t)), some (.d (Ww ws)), some (.d (.int B)), some (.d (.int most)), some (.d (Ss ss')), none, none, none], g2) := by
    intro ds
    induction ds with
    | nil => exact fun ss g1 hs _ ok => ⟨ss, g1, hs, by simp, ok, rfl, rfl⟩
    | cons d ds ih =>
      intro ss g1 hs hl ok
      simp only [List.length_cons] at hl
      obtain ⟨m, g2, m0, m1, ok2, s2, dr2⟩ := draw_ok ok (many := ws.length) (by have := hw.l0; omega) (by have := hw.l1; omega)
      have hix := ix_words (ws := ws) m0 m1
      have hwm : WordOk letters 4 (wordAt ws m.toNat) := by
        unfold wordAt
        rw [List.getD_eq_getElem?_getD, List.getElem?_eq_getElem (by omega)]
        exact hw.each _ (List.getElem_mem _)
      by_cases hsp : (wordAt ws m.toNat).length ≤ B
      · obtain ⟨p, g3, p0, p1, ok3, s3, dr3⟩ := draw_ok ok2 (many := (B : Int) - ((wordAt ws m.toNat).length : Nat) + 1) (by omega) (by omega)
        obtain ⟨ss', g4, r1, r2, r3, r4, r5⟩ := ih (ss ++ [(m.toNat, p.toNat)]) g3 (fun s hm => by
          rcases List.mem_append.mp hm with z | z
          · exact hs s z
          · rw [List.mem_singleton.mp z]; exact ⟨by show m.toNat < ws.length; omega, by show p.toNat + (wordAt ws m.toNat).length ≤ B; omega⟩) (by rw [List.length_append]; simp; omega) ok3
        refine ⟨ss', g4, r1, by rw [List.length_append] at r2; simp at r2 ⊢; omega, r3, r4.trans (s3.trans s2), ?_⟩
        have e1 : addD (Ss ss) (.tup [.tup [.int m, .int p]]) = some (Ss (ss ++ [(m.toNat, p.toNat)])) := by
          have : ss.length + 1 ≤ LIM := by unfold LIM; omega
          simp [addD, Ss, Sd, this]
          omega
        have l1 : (1 : Nat) ≤ LIM := by unfold LIM; decide
        have l2 : (2 : Nat) ≤ LIM := by unfold LIM; decide
        rw [forL_nx (sl2 := [some (.d (.ref a)), some (.d (.ref t)), some (.d (Ww ws)), some (.d (.int B)), some (.d (.int most)), some (.d (Ss (ss ++ [(m.toNat, p.toNat)]))), some (.d d), some (.d (.int m)), some (.d (.int ((B : Int) - ((wordAt ws m.toNat).length : Nat))))]) (g2 := g3) rfl (by simp [dr2, len_words, hix, hsp, dr3, l1, l2, e1])]
        exact r5
      · obtain ⟨ss', g4, r1, r2, r3, r4, r5⟩ := ih ss g2 hs (by omega) ok2
        refine ⟨ss', g4, r1, by simp; omega, r3, r4.trans s2, ?_⟩
        rw [forL_nx (sl2 := [some (.d (.ref a)), some (.d (.ref t)), some (.d (Ww ws)), some (.d (.int B)), some (.d (.int most)), some (.d (Ss ss)), some (.d d), some (.d (.int m)), some (.d (.int ((B : Int) - ((wordAt ws m.toNat).length : Nat))))]) (g2 := g2) rfl (by simp [dr2, len_words, hix, hsp])]
        exact r5
  obtain ⟨ss', g2, r1, r2, r3, r4, r5⟩ := turns (rgD 0 n) [] g1 (by simp) (by rw [rgD_len]; simp; omega) ok1
  refine ⟨ss', g2, ⟨by rw [rgD_len] at r2; simp at r2; omega, r1⟩, r3, r4.trans s1, ?_⟩
  have r6 : forL (tg1 6) _ [6, 7, 8] (rgD 0 n) [some (.d (.ref a)), some (.d (.ref t)), some (.d (Ww ws)), some (.d (.int B)), some (.d (.int most)), some (.d (.tup [])), none, none, none] g1 = _ := r5
  rw [r6, seqK_nx]
  rfl
end
end Lw
namespace DL
open PySem L2
section
variable {G : Type}
theorem comp_pure {it : M G (List D)} {vs : List Nat} {tg : Tg} {cnd : M G Bool} {elt : M G D} {sl : SL} {g g1 : G} {ds : List D} (p : D → Bool) (h : D → D) (hi : it sl g = some (.ok ds, g1)) (hl : ds.length ≤ LIM)
    (H : ∀ d ∈ ds, ∃ sl1, tg d (wipeS sl vs) = some sl1 ∧ cnd sl1 g1 = some (.ok (p d), g1) ∧ (p d = true → elt sl1 g1 = some (.ok (h d), g1))) : eComp it vs tg cnd elt sl g = some (.ok (.lst ((ds.filter p).map h)), g1) := by
  rw [comp_ap, hi, bindK_ok]
  simp only [compL_pure p h ds H]
  rw [if_pos]
  rw [List.length_map]
  exact Nat.le_trans (List.length_filter_le p ds) hl
theorem comp_map {it : M G (List D)} {vs : List Nat} {tg : Tg} {elt : M G D} {sl : SL} {g g1 : G} {ds : List D} (h : D → D) (hi : it sl g = some (.ok ds, g1)) (hl : ds.length ≤ LIM)
    (H : ∀ d ∈ ds, ∃ sl1, tg d (wipeS sl vs) = some sl1 ∧ elt sl1 g1 = some (.ok (h d), g1)) : eComp it vs tg tYesM elt sl g = some (.ok (.lst (ds.map h)), g1) := by
  rw [comp_pure (fun _ => true) h hi hl fun d hd => let ⟨sl1, e1, e2⟩ := H d hd; ⟨sl1, e1, rfl, fun _ => e2⟩]
  rw [List.filter_eq_self.mpr (by simp)]
theorem asBs_true : ∀ (xs : List D), (∀ x ∈ xs, x = .bl true) → asBs xs = some (xs.map fun _ => true)
  | [], _ => rfl
  | x :: xs, h => by
    rw [h x (by simp)]
    simp [asBs, asBs_true xs fun y hy => h y (by simp [hy])]
theorem allD_true {xs : List D} (h : ∀ x ∈ xs, x = .bl true) : allD (.lst xs) = some (.bl true) := by
  simp [allD, asBs_true xs h]
@[simp] theorem isi_si (i : Int) : isiD .int (.int i) = some (.bl true) := rfl
@[simp] theorem isi_bi (i : Int) : isiD .bool (.int i) = some (.bl false) := rfl
@[simp] theorem isi_ss (i : List Nat) : isiD .str (.str i) = some (.bl true) := rfl
@[simp] theorem isi_tt (i : List D) : isiD .tuple (.tup i) = some (.bl true) := rfl
@[simp] theorem iT_ap {f : M G D} {sl : SL} {g : G} : iT f sl g = bindK (f sl g) (fun d => M.lift (asT d)) sl := rfl
@[simp] theorem iL_ap {f : M G D} {sl : SL} {g : G} : iL f sl g = bindK (f sl g) (fun d => M.lift (asL d)) sl := rfl
@[simp] theorem iS_ap {f : M G D} {sl : SL} {g : G} : iS f sl g = bindK (f sl g) (fun d => M.bind (M.lift (asS d)) fun s => M.pure (s.map fun c => .str [c])) sl := rfl
@[simp] theorem iEnT_ap {f : M G D} {sl : SL} {g : G} : iEnT f sl g = bindK (f sl g) (fun d => M.bind (M.lift (asT d)) fun xs => M.pure (enumD 0 xs)) sl := rfl
@[simp] theorem iEnS_ap {f : M G D} {sl : SL} {g : G} : iEnS f sl g = bindK (f sl g) (fun d => M.bind (M.lift (asS d)) fun xs => M.pure (enumD 0 (xs.map fun c => .str [c]))) sl := rfl
@[simp] theorem iEnL_ap {f : M G D} {sl : SL} {g : G} : iEnL f sl g = bindK (f sl g) (fun d => M.bind (M.lift (asL d)) fun xs => M.pure (enumD 0 xs)) sl := rfl
@[simp] theorem iZpT_ap {f h : M G D} {sl : SL} {g : G} : iZpT f h sl g = bindK (f sl g) (fun d => M.bind h fun e => M.bind (M.lift (asT d)) fun xs => M.bind (M.lift (asT e)) fun ys => M.pure (zipD xs ys)) sl := rfl
@[simp] theorem iZpS_ap {f h : M G D} {sl : SL} {g : G} : iZpS f h sl g = bindK (f sl g) (fun d => M.bind h fun e => M.bind (M.lift (asS d)) fun xs => M.bind (M.lift (asS e)) fun ys => M.pure (zipD (xs.map fun c => .str [c]) (ys.map fun c => .str [c]))) sl := rfl
@[simp] theorem asT_t {xs : List D} : asT (.tup xs) = some xs := rfl
@[simp] theorem asS_s {xs : List Nat} : asS (.str xs) = some xs := rfl
@[simp] theorem wipe_nil {sl : SL} : wipeS sl [] = sl := rfl
@[simp] theorem wipe_cons {sl : SL} {v : Nat} {vs : List Nat} : wipeS sl (v :: vs) = (wipeS sl vs).set v none := rfl
theorem enumD_mem : ∀ {k : Nat} {xs : List D} {d : D}, d ∈ enumD k xs → ∃ i x, d = .tup [.int ((k + i : Nat) : Int), x] ∧ xs[i]? = some x
  | k, x :: xs, d, h => by
    rcases List.mem_cons.mp h with rfl | h
    · exact ⟨0, x, rfl, rfl⟩
    · obtain ⟨i, y, e1, e2⟩ := enumD_mem h
      exact ⟨i + 1, y, by rw [e1, Nat.add_right_comm, Nat.add_assoc], by simpa using e2⟩
theorem zipD_mem : ∀ {xs ys : List D} {d : D}, d ∈ zipD xs ys → ∃ (i : Nat) (x y : D), d = .tup [x, y] ∧ xs[i]? = some x ∧ ys[i]? = some y
  | x :: xs, y :: ys, d, h => by
    rcases List.mem_cons.mp h with rfl | h
    · exact ⟨0, x, y, rfl, rfl, rfl⟩
    · obtain ⟨i, a, b, e1, e2, e3⟩ := zipD_mem h
      exact ⟨i + 1, a, b, e1, by simpa using e2, by simpa using e3⟩
theorem zipD_le : ∀ (xs ys : List D), (zipD xs ys).length ≤ xs.length
  | [], _ => by simp [zipD]
  | _ :: _, [] => by simp [zipD]
  | x :: xs, y :: ys => by simp [zipD]; exact zipD_le xs ys
/-- consecutive places are given anew -/
def setOn {α : Type} (acc : List α) : List α → Nat → List α
  | [], _ => acc
  | x :: xs, p => setOn (acc.set p x) xs (p + 1)
theorem setOn_len {α : Type} : ∀ (acc xs : List α) (p : Nat), (setOn acc xs p).length = acc.length
  | _, [], _ => rfl
  | acc, x :: xs, p => by rw [setOn, setOn_len, List.length_set]
theorem setOn_get {α : Type} : ∀ (acc xs : List α) (p b : Nat), p + xs.length ≤ acc.length → (setOn acc xs p)[b]? = if p ≤ b ∧ b < p + xs.length then xs[b - p]? else acc[b]?
  | acc, [], p, b, _ => by rw [setOn, if_neg (by simp only [List.length_nil]; omega)]
  | acc, x :: xs, p, b, h => by
    simp only [List.length_cons] at h
    rw [setOn, setOn_get (acc.set p x) xs (p + 1) b (by rw [List.length_set]; omega)]
    by_cases h1 : p + 1 ≤ b ∧ b < p + 1 + xs.length
    · rw [if_pos h1, if_pos (by simp only [List.length_cons]; omega)]
      obtain ⟨k, rfl⟩ : ∃ k, b = p + 1 + k := ⟨b - (p + 1), by omega⟩
      rw [show p + 1 + k - (p + 1) = k by omega, show p + 1 + k - p = k + 1 by omega]
      simp
    · rw [if_neg h1]
      by_cases h2 : b = p
      · subst h2
        rw [if_pos (by simp only [List.length_cons]; omega), List.getElem?_set_self (by omega)]
        simp
      · rw [if_neg (by simp only [List.length_cons]; omega), List.getElem?_set_ne (by omega)]
theorem setOn_map {α β : Type} (f : α → β) : ∀ (acc xs : List α) (p : Nat), (setOn acc xs p).map f = setOn (acc.map f) (xs.map f) p
  | _, [], _ => rfl
  | acc, x :: xs, p => by rw [setOn, setOn_map f, List.map_set]; rfl
theorem sSetI_ap {i j : Nat} {fk fv : M G D} {sl : SL} {g : G} {xs : List D} {z : Int} {d : D} (h : sl[i]? = some (some (.oL xs))) (hv : fv sl g = some (.ok d, g)) (hk : fk sl g = some (.ok (.int z), g)) (hz : ixN xs.length z = some j) :
    sSetI i fk fv sl g = some (.nx, sl.set i (some (.oL (xs.set j d))), g) := by
  unfold sSetI sOwnL
  rw [h]
  simp only
  rw [do_ap, hv, doK_ok, do_ap, hk, doK_ok]
  exact mutL_ap h (by simp only [hz])
theorem ixN_nat {n i : Nat} (h : i < n) : ixN n (i : Int) = some i := by
  unfold ixN
  rw [if_pos (by omega), if_pos (by omega)]
  simp
end
end DL
namespace Lw
open PySem L2 DL
section
variable {G : Type} {g : G}
/-- letters that are ones -/
def LetsOk (letters : List Nat) : Prop := ∀ c ∈ letters, 97 ≤ c ∧ c ≤ 100
theorem in_letters {c : Nat} (h : 97 ≤ c ∧ c ≤ 100) : inD (.str [c]) (.str [97, 98, 99, 100]) = some (.bl true) := by
  have : c = 97 ∨ c = 98 ∨ c = 99 ∨ c = 100 := by omega
  rcases this with rfl | rfl | rfl | rfl <;> rfl
theorem string_ok {s : List Nat} {most : Nat} (h1 : 1 ≤ s.length) (h2 : s.length ≤ most) (h3 : most ≤ 100) (h4 : ∀ c ∈ s, 97 ≤ c ∧ c ≤ 100) : f_is_string_of [.str s, .int most] g = some (.ok (.bl true), g) := by
  have e : f_is_string_of [.str s, .int most] g = fnK (F_is_string_of [some (.d (.str s)), some (.d (.int most)), none] g) := rfl
  rw [e]
  unfold F_is_string_of
  have c : eComp (iS (eV 0)) [2] (tg1 2) tYesM (e2 inD (eV 2) (eC (.str [97, 98, 99, 100]))) [some (.d (.str s)), some (.d (.int most)), none] g = some (.ok (.lst ((s.map fun c => D.str [c]).map fun _ => .bl true)), g) := by
    refine comp_map (fun _ => .bl true) (by simp) (by rw [List.length_map]; unfold LIM; omega) fun d hd => ⟨_, rfl, ?_⟩
    obtain ⟨x, hx, rfl⟩ := List.mem_map.mp hd
    simp [in_letters (h4 x hx)]
  have c2 : allD (.lst ((s.map fun c => D.str [c]).map fun _ => .bl true)) = some (.bl true) := allD_true (by simp)
  have h1' : 1 ≤ (s.length : Int) := by omega
  have h2' : (s.length : Int) ≤ most := by omega
  simp only [List.map_map] at c c2
  simp [c, c2, h1', h2, h1]
theorem between_eq (i lo hi : Int) : f_is_between [.int i, .int lo, .int hi] g = some (.ok (.bl (decide (lo ≤ i) && decide (i ≤ hi))), g) := by
  have e : f_is_between [.int i, .int lo, .int hi] g = fnK (F_is_between [some (.d (.int i)), some (.d (.int lo)), some (.d (.int hi))] g) := rfl
  rw [e]
  unfold F_is_between
  by_cases h : lo ≤ i <;> simp [h]
theorem are_words_ok {letters : List Nat} {ws : List (List Nat)} (hL : LetsOk letters) (h : WordsOk letters ws) : f_are_words [Ww ws] g = some (.ok (.bl true), g) := by
  have e : f_are_words [Ww ws] g = fnK (F_are_words [some (.d (Ww ws)), none, none] g) := rfl
  rw [e]
  unfold F_are_words
  have h0 := h.l0
  have h1 := h.l1
  have c : eComp (iT (eV 0)) [1] (tg1 1) tYesM (callM f_is_string_of (aCons (eV 1) (aCons (eC (.int 4)) aNil))) [some (.d (Ww ws)), none, none] g = some (.ok (.lst ((ws.map D.str).map fun _ => .bl true)), g) := by
    refine comp_map (fun _ => .bl true) (by simp [Ww]) (by rw [List.length_map]; unfold LIM; omega) fun d hd => ⟨_, rfl, ?_⟩
    obtain ⟨x, hx, rfl⟩ := List.mem_map.mp hd
    obtain ⟨w1, w2, w3⟩ := h.each x hx
    have : f_is_string_of [.str x, .int 4] g = some (.ok (.bl true), g) := string_ok (most := 4) w1 w2 (by omega) fun c hc => hL c (w3 c hc)
    simp [this]
  have c2 : allD (.lst ((ws.map D.str).map fun _ => .bl true)) = some (.bl true) := allD_true (by simp)
  have es : slD (Ww ws) (some 1) none = some (.tup ((ws.map D.str).drop 1)) := by
    show some (D.tup (cut (ws.map D.str) (some (1 : Int)) none)) = _
    rw [show cut (ws.map D.str) (some (1 : Int)) none = _ from cut_from (ws.map D.str) 1]
  have c3 : eComp (iZpT (eV 0) (eSl (eV 0) (oS (eC (.int 1))) oN)) [1, 2] (tg2 1 2) tYesM (e2 ltD (eV 1) (eV 2)) [some (.d (Ww ws)), none, none] g = some (.ok (.lst ((zipD (ws.map D.str) ((ws.map D.str).drop 1)).map fun _ => .bl true)), g) := by
    refine comp_map (fun _ => .bl true) ?_ ?_ fun d hd => ?_
    · simp only [iZpT_ap, eV_ap, eSl_ap, oS_ap, eC_ap, oN_ap, bind_ap, bindK_ok, lift_ap, asI_int, liftK_some, pure_ap, List.getElem?_cons_zero, slotK_d, es]
      rfl
    · exact Nat.le_trans (zipD_le _ _) (by rw [List.length_map]; unfold LIM; omega)
    · obtain ⟨i, x, y, rfl, hx, hy⟩ := zipD_mem hd
      refine ⟨_, rfl, ?_⟩
      rw [List.getElem?_map] at hx
      rw [List.getElem?_drop, List.getElem?_map] at hy
      obtain ⟨x', hx', rfl⟩ := Option.map_eq_some_iff.mp hx
      obtain ⟨y', hy', rfl⟩ := Option.map_eq_some_iff.mp hy
      obtain ⟨hi, ei⟩ := List.getElem?_eq_some_iff.mp hx'
      obtain ⟨hj, ej⟩ := List.getElem?_eq_some_iff.mp hy'
      have := List.pairwise_iff_getElem.mp h.ord i (1 + i) hi hj (by omega)
      rw [ei, ej] at this
      simp [this]
  have c4 : allD (.lst ((zipD (ws.map D.str) ((ws.map D.str).drop 1)).map fun _ => .bl true)) = some (.bl true) := allD_true (by simp)
  have i1 : isiD .tuple (Ww ws) = some (.bl true) := rfl
  have h0' : 1 ≤ (ws.length : Int) := by omega
  have h1' : (ws.length : Int) ≤ 4 := by omega
  simp only [List.map_map] at c c2
  rw [seq_ap, if_ap]
  have t1 : tOrM (tNotM (tV (e1 (isiD .tuple) (eV 0)))) (tOrM (tNotM (tV (e3 leD leD (eC (.int 1)) (e1 lenD (eV 0)) (eC (.int 4))))) (tNotM (tV (e1 allD (eComp (iT (eV 0)) [1] (tg1 1) tYesM (callM f_is_string_of (aCons (eV 1) (aCons (eC (.int 4)) aNil)))))))) [some (.d (Ww ws)), none, none] g = some (.ok false, g) := by
    simp [i1, len_words, h0, h0', h1', c, c2]
  rw [t1, ifK_ok]
  simp only [Bool.false_eq_true, if_false, skip_ap, seqK_nx, ret_ap]
  rw [e1_ap, c3, bindK_ok, lift_ap, c4]
  rfl
end
end Lw
namespace Lw
open PySem L2 DL
section
variable {G : Type} {g : G} {letters : List Nat} {ws : List (List Nat)} {B : Nat}
theorem check_words_ok (hL : LetsOk letters) (h : WordsOk letters ws) : f_check_words [Ww ws] g = some (.ok .non, g) := by
  have e : f_check_words [Ww ws] g = fnK (F_check_words [some (.d (Ww ws))] g) := rfl
  rw [e]
  unfold F_check_words
  simp [are_words_ok hL h]
theorem check_boxes_ok (h1 : 1 ≤ B) (h2 : B ≤ 8) : f_check_boxes [.int B] g = some (.ok .non, g) := by
  have e : f_check_boxes [.int B] g = fnK (F_check_boxes [some (.d (.int B))] g) := rfl
  rw [e]
  unfold F_check_boxes
  have h1' : 1 ≤ (B : Int) := by omega
  have h2' : (B : Int) ≤ 8 := by omega
  simp [between_eq, h1', h2']
theorem check_both_ok (hL : LetsOk letters) (h : WordsOk letters ws) (h1 : 1 ≤ B) (h2 : B ≤ 8) : f_check_both [Ww ws, .int B] g = some (.ok .non, g) := by
  have e : f_check_both [Ww ws, .int B] g = fnK (F_check_both [some (.d (Ww ws)), some (.d (.int B))] g) := rfl
  rw [e]
  unfold F_check_both
  simp [check_words_ok hL h, check_boxes_ok h1 h2]
theorem is_stamp_ok {s : Nat × Nat} (h : StOk ws B s) : f_is_stamp [Ww ws, .int B, Sd s] g = some (.ok (.bl true), g) := by
  have e : f_is_stamp [Ww ws, .int B, Sd s] g = fnK (F_is_stamp [some (.d (Ww ws)), some (.d (.int B)), some (.d (Sd s))] g) := rfl
  rw [e]
  unfold F_is_stamp
  obtain ⟨h1, h2⟩ := h
  have i1 : isiD .tuple (Sd s) = some (.bl true) := rfl
  have i2 : lenD (Sd s) = some (.int 2) := rfl
  have i3 : ixD (Sd s) (.int 0) = some (.int s.1) := rfl
  have i4 : ixD (Sd s) (.int 1) = some (.int s.2) := rfl
  have i5 : ixD (Ww ws) (.int s.1) = some (.str (wordAt ws s.1)) := by
    rw [ix_words (by omega) (by omega)]
    simp
  have h1' : (s.1 : Int) ≤ (ws.length : Int) - 1 := by omega
  have h2' : (s.2 : Int) ≤ (B : Int) - ((wordAt ws s.1).length : Int) := by omega
  simp [i1, i2, i3, i4, i5, between_eq, len_words, h1', h2']
/-- stamps that are ones -/
structure StsOk (ws : List (List Nat)) (B : Nat) (ss : Sts) : Prop where
  few : ss.length ≤ 12
  each : ∀ s ∈ ss, StOk ws B s
theorem stamps_on_ok {ss : Sts} (h : StsOk ws B ss) : f_are_stamps_on [Ww ws, .int B, Ss ss] g = some (.ok (.bl true), g) := by
  have e : f_are_stamps_on [Ww ws, .int B, Ss ss] g = fnK (F_are_stamps_on [some (.d (Ww ws)), some (.d (.int B)), some (.d (Ss ss)), none] g) := rfl
  rw [e]
  unfold F_are_stamps_on
  have hf := h.few
  have c : eComp (iT (eV 2)) [3] (tg1 3) tYesM (callM f_is_stamp (aCons (eV 0) (aCons (eV 1) (aCons (eV 3) aNil)))) [some (.d (Ww ws)), some (.d (.int B)), some (.d (Ss ss)), none] g = some (.ok (.lst ((ss.map Sd).map fun _ => .bl true)), g) := by
    refine comp_map (fun _ => .bl true) (by simp [Ss]) (by rw [List.length_map]; unfold LIM; omega) fun d hd => ⟨_, rfl, ?_⟩
    obtain ⟨x, hx, rfl⟩ := List.mem_map.mp hd
    simp [is_stamp_ok (h.each x hx)]
  have c2 : allD (.lst ((ss.map Sd).map fun _ => .bl true)) = some (.bl true) := allD_true (fun x hx => by obtain ⟨_, _, rfl⟩ := List.mem_map.mp hx; rfl)
  have i1 : isiD .tuple (Ss ss) = some (.bl true) := rfl
  have i2 : lenD (Ss ss) = some (.int ss.length) := by simp [Ss]
  have hf' : ¬ (12 : Int) < ss.length := by omega
  simp only [List.map_map] at c c2
  simp [i1, i2, hf', c, c2]
theorem check_stamps_ok {ss : Sts} (hL : LetsOk letters) (h : WordsOk letters ws) (h1 : 1 ≤ B) (h2 : B ≤ 8) (hs : StsOk ws B ss) : f_check_stamps [Ww ws, .int B, Ss ss] g = some (.ok .non, g) := by
  have e : f_check_stamps [Ww ws, .int B, Ss ss] g = fnK (F_check_stamps [some (.d (Ww ws)), some (.d (.int B)), some (.d (Ss ss))] g) := rfl
  rw [e]
  unfold F_check_stamps
  simp [check_both_ok hL h h1 h2, stamps_on_ok hs]
/-- the boxes of a stamp -/
def bxs : List Nat → Nat → List D
  | [], _ => []
  | c :: w, p => .tup [.int p, .str [c]] :: bxs w (p + 1)
theorem bxs_len : ∀ (w : List Nat) (p : Nat), (bxs w p).length = w.length
  | [], _ => rfl
  | c :: w, p => by simp [bxs, bxs_len w (p + 1)]
def shiftD (p : Nat) : D → D
  | .tup [.int i, x] => .tup [.int (p + i), x]
  | _ => .non
theorem shift_bxs (p : Nat) : ∀ (w : List Nat) (k : Nat), (enumD k (w.map fun c => D.str [c])).map (shiftD p) = bxs w (p + k)
  | [], _ => rfl
  | c :: w, k => by
    show shiftD p (.tup [.int (k : Nat), .str [c]]) :: (enumD (k + 1) (w.map fun c => D.str [c])).map (shiftD p) = .tup [.int ((p + k : Nat) : Int), .str [c]] :: bxs w (p + k + 1)
    rw [shift_bxs p w (k + 1)]
    rfl
theorem boxes_ok {s : Nat × Nat} (h : s.1 < ws.length) (hw : (wordAt ws s.1).length ≤ 100) : f_boxes_of [Ww ws, Sd s] g = some (.ok (.lst (bxs (wordAt ws s.1) s.2)), g) := by
  have e : f_boxes_of [Ww ws, Sd s] g = fnK (F_boxes_of [some (.d (Ww ws)), some (.d (Sd s)), none, none] g) := rfl
  rw [e]
  unfold F_boxes_of
  have i3 : ixD (Sd s) (.int 0) = some (.int s.1) := rfl
  have i4 : ixD (Sd s) (.int 1) = some (.int s.2) := rfl
  have i5 : ixD (Ww ws) (.int s.1) = some (.str (wordAt ws s.1)) := by
    rw [ix_words (by omega) (by omega)]
    simp
  have l2 : (2 : Nat) ≤ LIM := by unfold LIM; decide
  have c : eComp (iEnS (e2 ixD (eV 0) (e2 ixD (eV 1) (eC (.int 0))))) [2, 3] (tg2 2 3) tYesM (eTup (aCons (e2 addD (e2 ixD (eV 1) (eC (.int 1))) (eV 2)) (aCons (eV 3) aNil))) [some (.d (Ww ws)), some (.d (Sd s)), none, none] g = some (.ok (.lst ((enumD 0 ((wordAt ws s.1).map fun c => D.str [c])).map (shiftD s.2))), g) := by
    refine comp_map (shiftD s.2) (by simp [i3, i5]) (by rw [enumD_len, List.length_map]; unfold LIM; omega) fun d hd => ?_
    obtain ⟨i, x, rfl, _⟩ := enumD_mem hd
    refine ⟨_, rfl, ?_⟩
    simp [i4, l2, shiftD]
  rw [ret_ap, c, shift_bxs]
  rfl
/-- what is seen: signs by boxes -/
def seenL (ws : List (List Nat)) (B : Nat) (ss : Sts) : List Nat := ss.foldl (fun acc s => setOn acc (wordAt ws s.1) s.2) (List.replicate B 46)
theorem seenL_len (ws : List (List Nat)) (B : Nat) (ss : Sts) : (seenL ws B ss).length = B := by
  unfold seenL
  have : ∀ (ss : Sts) (acc : List Nat), (ss.foldl (fun acc s => setOn acc (wordAt ws s.1) s.2) acc).length = acc.length := by
    intro ss
    induction ss with
    | nil => intro acc; rfl
    | cons s ss ih => intro acc; rw [List.foldl_cons, ih, setOn_len]
  rw [this, List.length_replicate]
def ltD1 (c : Nat) : D := .str [c]
theorem lt_flat (l : List Nat) : (l.map fun c => [c]).flatten = l := by
  induction l with
  | nil => rfl
  | cons c l ih => simp [ih]
/-- the inner loop -/
theorem inner_ok (sl0 : List (Option Slot)) (x4 : Option Slot) : ∀ (w : List Nat) (p : Nat) (acc : List Nat), sl0.length = 3 → p + w.length ≤ acc.length →
    forL (tg2 5 6) (sSetI 3 (eV 5) (eV 6)) [5, 6] (bxs w p) (sl0 ++ [some (.oL (acc.map ltD1)), x4, none, none]) g = some (.nx, sl0 ++ [some (.oL ((setOn acc w p).map ltD1)), x4, none, none], g)
  | [], p, acc, h0, h => rfl
  | c :: w, p, acc, h0, h => by
    match sl0, h0 with
    | [y0, y1, y2], _ =>
      simp only [List.length_cons] at h
      have ih := inner_ok [y0, y1, y2] x4 w (p + 1) (acc.set p c) rfl (by rw [List.length_set]; omega)
      show forL _ _ _ (.tup [.int p, .str [c]] :: bxs w (p + 1)) _ _ = _
      rw [forL_nx (sl1 := [y0, y1, y2, some (.oL (acc.map ltD1)), x4, some (.d (.int p)), some (.d (.str [c]))]) (sl2 := [y0, y1, y2, some (.oL ((acc.set p c).map ltD1)), x4, some (.d (.int p)), some (.d (.str [c]))]) (g2 := g) rfl ?_]
      · exact ih
      · rw [sSetI_ap (xs := acc.map ltD1) (j := p) (z := p) (d := .str [c]) rfl rfl rfl (ixN_nat (by rw [List.length_map]; omega))]
        rw [List.map_set]
        rfl
theorem seen_after_ok {ss : Sts} (hB : B ≤ 100) (hs : ∀ s ∈ ss, StOk ws B s) (hss : ss.length ≤ 1000) : f_seen_after [Ww ws, .int B, Ss ss] g = some (.ok (.str (seenL ws B ss)), g) := by
  have e : f_seen_after [Ww ws, .int B, Ss ss] g = fnK (F_seen_after [some (.d (Ww ws)), some (.d (.int B)), some (.d (Ss ss)), none, none, none, none] g) := rfl
  rw [e]
  unfold F_seen_after
  have l1 : (1 : Nat) ≤ LIM := by unfold LIM; decide
  have er : repD (.lst [.str [46]]) (.int B) = some (.lst ((List.replicate B 46).map ltD1)) := by
    have : (0 : Int) ≤ B ∧ (B : Int) ≤ 1000 := by omega
    simp [repD, this]
    exact .inr rfl
  have S1 : sAsg 3 (xL (e2 repD (eLst (aCons (eC (.str [46])) aNil)) (eV 1))) [some (.d (Ww ws)), some (.d (.int B)), some (.d (Ss ss)), none, none, none, none] g = some (.nx, [some (.d (Ww ws)), some (.d (.int B)), some (.d (Ss ss)), some (.oL ((List.replicate B 46).map ltD1)), none, none, none], g) := by
    simp [l1, er]
  have turns : ∀ (ss' : Sts) (acc : List Nat), (∀ s ∈ ss', StOk ws B s) → acc.length = B →
      forL (tg1 4) (sFor (iL (callM f_boxes_of (aCons (eV 0) (aCons (eV 4) aNil)))) (tg2 5 6) [5, 6] (sSetI 3 (eV 5) (eV 6))) [4, 5, 6] (ss'.map Sd) [some (.d (Ww ws)), some (.d (.int B)), some (.d (Ss ss)), some (.oL (acc.map ltD1)), none, none, none] g
      = some (.nx, [some (.d (Ww ws)), some (.d (.int B)), some (.d (Ss ss)), some (.oL ((ss'.foldl (fun acc s => setOn acc (wordAt ws s.1) s.2) acc).map ltD1)), none, none, none], g) := by
    intro ss'
    induction ss' with
    | nil => intro acc _ _; rfl
    | cons s ss' ih =>
      intro acc h hl
      have hst := h s (by simp)
      have ih' := ih (setOn acc (wordAt ws s.1) s.2) (fun s' h' => h s' (by simp [h'])) (by rw [setOn_len, hl])
      rw [List.map_cons]
      rw [forL_nx (sl1 := [some (.d (Ww ws)), some (.d (.int B)), some (.d (Ss ss)), some (.oL (acc.map ltD1)), some (.d (Sd s)), none, none]) (sl2 := [some (.d (Ww ws)), some (.d (.int B)), some (.d (Ss ss)), some (.oL ((setOn acc (wordAt ws s.1) s.2).map ltD1)), some (.d (Sd s)), none, none]) (g2 := g) rfl ?_]
      · exact ih'
      · rw [for_ap]
        have it : iL (callM f_boxes_of (aCons (eV 0) (aCons (eV 4) aNil))) [some (.d (Ww ws)), some (.d (.int B)), some (.d (Ss ss)), some (.oL (acc.map ltD1)), some (.d (Sd s)), none, none] g = some (.ok (bxs (wordAt ws s.1) s.2), g) := by
          simp [boxes_ok hst.1 (by have := hst.2; omega)]
        rw [it, doK_ok]
        exact inner_ok [some (.d (Ww ws)), some (.d (.int B)), some (.d (Ss ss))] (some (.d (Sd s))) _ _ _ rfl (by rw [hl]; exact hst.2)
  rw [seq_ap, S1, seqK_nx, seq_ap, for_ap]
  have it : iT (eV 2) [some (.d (Ww ws)), some (.d (.int B)), some (.d (Ss ss)), some (.oL ((List.replicate B 46).map ltD1)), none, none, none] g = some (.ok (ss.map Sd), g) := by simp [Ss]
  rw [it, doK_ok, turns ss (List.replicate B 46) hs (List.length_replicate), seqK_nx]
  have hlen := seenL_len ws B ss
  have ej : joinD [] (.lst ((seenL ws B ss).map ltD1)) = some (.str (seenL ws B ss)) := by
    have e1 : (seenL ws B ss).map ltD1 = ((seenL ws B ss).map fun c => [c]).map D.str := by rw [List.map_map]; rfl
    rw [e1]
    have h1 : (joinS [] ((seenL ws B ss).map fun c => [c])).length ≤ LIM := by rw [joinS_nil, lt_flat, hlen]; unfold LIM; omega
    have h2 : (((seenL ws B ss).map fun c => [c]).map List.length).sum + ((seenL ws B ss).map fun c => [c]).length * 0 ≤ LIM := by
      rw [← List.length_flatten, lt_flat, hlen]; unfold LIM; omega
    simp only [joinD, asSs_map, Option.bind_some]
    rw [if_pos ⟨h1, h2⟩, joinS_nil, lt_flat]
  show fnK (sRet (eJoin (eC (.str [])) (eR 3)) [some (.d (Ww ws)), some (.d (.int B)), some (.d (Ss ss)), some (.oL ((seenL ws B ss).map ltD1)), none, none, none] g) = _
  unfold eJoin
  simp [ej]
theorem seen_ok {ss : Sts} (hL : LetsOk letters) (h : WordsOk letters ws) (h1 : 1 ≤ B) (h2 : B ≤ 8) (hs : StsOk ws B ss) : f_seen [Ww ws, .int B, Ss ss] g = some (.ok (.str (seenL ws B ss)), g) := by
  have e : f_seen [Ww ws, .int B, Ss ss] g = fnK (F_seen [some (.d (Ww ws)), some (.d (.int B)), some (.d (Ss ss))] g) := rfl
  rw [e]
  unfold F_seen
  simp [check_stamps_ok hL h h1 h2 hs, seen_after_ok (by omega) hs.each (by have := hs.few; omega)]
end
end Lw
namespace Lw
open PySem L2 DL
section
variable {G : Type} {g : G} {letters : List Nat} {ws : List (List Nat)} {B : Nat}
/-! ### last stamps -/
def optD : Option Nat → D
  | none => .non
  | some n => .int n
def lastL (ws : List (List Nat)) : Nat → List (Option Nat) → Sts → List (Option Nat)
  | _, acc, [] => acc
  | k, acc, s :: ss => lastL ws (k + 1) (setOn acc (List.replicate (wordAt ws s.1).length (some k)) s.2) ss
theorem inner_last (sl0 : List (Option Slot)) (x5 : Option Slot) (k : Nat) : ∀ (w : List Nat) (p : Nat) (acc : List (Option Nat)), sl0.length = 3 → p + w.length ≤ acc.length →
    forL (tg2 6 7) (sSetI 3 (eV 6) (eV 4)) [6, 7] (bxs w p) (sl0 ++ [some (.oL (acc.map optD)), some (.d (.int k)), x5, none, none]) g = some (.nx, sl0 ++ [some (.oL ((setOn acc (List.replicate w.length (some k)) p).map optD)), some (.d (.int k)), x5, none, none], g)
  | [], p, acc, h0, h => rfl
  | c :: w, p, acc, h0, h => by
    match sl0, h0 with
    | [y0, y1, y2], _ =>
      simp only [List.length_cons] at h
      have ih := inner_last [y0, y1, y2] x5 k w (p + 1) (acc.set p (some k)) rfl (by rw [List.length_set]; omega)
      show forL _ _ _ (.tup [.int p, .str [c]] :: bxs w (p + 1)) _ _ = _
      rw [forL_nx (sl1 := [y0, y1, y2, some (.oL (acc.map optD)), some (.d (.int k)), x5, some (.d (.int p)), some (.d (.str [c]))]) (sl2 := [y0, y1, y2, some (.oL ((acc.set p (some k)).map optD)), some (.d (.int k)), x5, some (.d (.int p)), some (.d (.str [c]))]) (g2 := g) rfl ?_]
      · exact ih
      · rw [sSetI_ap (xs := acc.map optD) (j := p) (z := p) (d := .int k) rfl rfl rfl (ixN_nat (by rw [List.length_map]; omega))]
        rw [List.map_set]
        rfl
theorem last_ok {ss : Sts} (hL : LetsOk letters) (h : WordsOk letters ws) (h1 : 1 ≤ B) (h2 : B ≤ 8) (hs : StsOk ws B ss) : f_last_stamps [Ww ws, .int B, Ss ss] g = some (.ok (.tup ((lastL ws 0 (List.replicate B none) ss).map optD)), g) := by
  have e : f_last_stamps [Ww ws, .int B, Ss ss] g = fnK (F_last_stamps [some (.d (Ww ws)), some (.d (.int B)), some (.d (Ss ss)), none, none, none, none, none] g) := rfl
  rw [e]
  unfold F_last_stamps
  have l1 : (1 : Nat) ≤ LIM := by unfold LIM; decide
  have er : repD (.lst [.non]) (.int B) = some (.lst ((List.replicate B none).map optD)) := by
    have : (0 : Int) ≤ B ∧ (B : Int) ≤ 1000 := by omega
    simp [repD, this]
    exact .inr rfl
  have S0 : sDrop (callM f_check_stamps (aCons (eV 0) (aCons (eV 1) (aCons (eV 2) aNil)))) [some (.d (Ww ws)), some (.d (.int B)), some (.d (Ss ss)), none, none, none, none, none] g = some (.nx, [some (.d (Ww ws)), some (.d (.int B)), some (.d (Ss ss)), none, none, none, none, none], g) := by
    simp [check_stamps_ok hL h h1 h2 hs]
  have S1 : sAsg 3 (xL (e2 repD (eLst (aCons (eC .non) aNil)) (eV 1))) [some (.d (Ww ws)), some (.d (.int B)), some (.d (Ss ss)), none, none, none, none, none] g = some (.nx, [some (.d (Ww ws)), some (.d (.int B)), some (.d (Ss ss)), some (.oL ((List.replicate B none).map optD)), none, none, none, none], g) := by
    simp [l1, er]
  have turns : ∀ (ss' : Sts) (k : Nat) (acc : List (Option Nat)), (∀ s ∈ ss', StOk ws B s) → acc.length = B →
      forL (tg2 4 5) (sFor (iL (callM f_boxes_of (aCons (eV 0) (aCons (eV 5) aNil)))) (tg2 6 7) [6, 7] (sSetI 3 (eV 6) (eV 4))) [4, 5, 6, 7] (enumD k (ss'.map Sd)) [some (.d (Ww ws)), some (.d (.int B)), some (.d (Ss ss)), some (.oL (acc.map optD)), none, none, none, none] g
      = some (.nx, [some (.d (Ww ws)), some (.d (.int B)), some (.d (Ss ss)), some (.oL ((lastL ws k acc ss').map optD)), none, none, none, none], g) := by
    intro ss'
    induction ss' with
    | nil => intro k acc _ _; rfl
    | cons s ss' ih =>
      intro k acc h hl
      have hst := h s (by simp)
      have ih' := ih (k + 1) (setOn acc (List.replicate (wordAt ws s.1).length (some k)) s.2) (fun s' h' => h s' (by simp [h'])) (by rw [setOn_len, hl])
      rw [List.map_cons]
      show forL _ _ _ (.tup [.int (k : Nat), Sd s] :: enumD (k + 1) (ss'.map Sd)) _ _ = _
      rw [forL_nx (sl1 := [some (.d (Ww ws)), some (.d (.int B)), some (.d (Ss ss)), some (.oL (acc.map optD)), some (.d (.int k)), some (.d (Sd s)), none, none]) (sl2 := [some (.d (Ww ws)), some (.d (.int B)), some (.d (Ss ss)), some (.oL ((setOn acc (List.replicate (wordAt ws s.1).length (some k)) s.2).map optD)), some (.d (.int k)), some (.d (Sd s)), none, none]) (g2 := g) rfl ?_]
      · exact ih'
      · rw [for_ap]
        have it : iL (callM f_boxes_of (aCons (eV 0) (aCons (eV 5) aNil))) [some (.d (Ww ws)), some (.d (.int B)), some (.d (Ss ss)), some (.oL (acc.map optD)), some (.d (.int k)), some (.d (Sd s)), none, none] g = some (.ok (bxs (wordAt ws s.1) s.2), g) := by
          simp [boxes_ok hst.1 (by have := hst.2; omega)]
        rw [it, doK_ok]
        exact inner_last [some (.d (Ww ws)), some (.d (.int B)), some (.d (Ss ss))] (some (.d (Sd s))) k _ _ _ rfl (by rw [hl]; exact hst.2)
  rw [seq_ap, S0, seqK_nx, seq_ap, S1, seqK_nx, seq_ap, for_ap]
  have it : iEnT (eV 2) [some (.d (Ww ws)), some (.d (.int B)), some (.d (Ss ss)), some (.oL ((List.replicate B none).map optD)), none, none, none, none] g = some (.ok (enumD 0 (ss.map Sd)), g) := by simp [Ss]
  rw [it, doK_ok, turns ss 0 (List.replicate B none) hs.each (List.length_replicate), seqK_nx]
  simp
/-! ### hidden stamps -/
def without (ss : Sts) (i : Nat) : Sts := ss.take i ++ ss.drop (i + 1)
theorem without_ok {ss : Sts} (hs : StsOk ws B ss) (i : Nat) : StsOk ws B (without ss i) := by
  refine ⟨?_, fun s h => ?_⟩
  · have := hs.few
    unfold without
    rw [List.length_append, List.length_take, List.length_drop]
    omega
  · rcases List.mem_append.mp h with h | h
    · exact hs.each s (List.mem_of_mem_take h)
    · exact hs.each s (List.mem_of_mem_drop h)
def hidL (ws : List (List Nat)) (B : Nat) (ss : Sts) : List Nat := (List.range ss.length).filter fun i => seenL ws B (without ss i) == seenL ws B ss
theorem hidden_ok {ss : Sts} (hL : LetsOk letters) (h : WordsOk letters ws) (h1 : 1 ≤ B) (h2 : B ≤ 8) (hs : StsOk ws B ss) : f_hidden_stamps [Ww ws, .int B, Ss ss] g = some (.ok (.tup ((hidL ws B ss).map fun i => .int (i : Nat))), g) := by
  have e : f_hidden_stamps [Ww ws, .int B, Ss ss] g = fnK (F_hidden_stamps [some (.d (Ww ws)), some (.d (.int B)), some (.d (Ss ss)), none, none, none] g) := rfl
  rw [e]
  unfold F_hidden_stamps
  have hf := hs.few
  have S0 : sDrop (callM f_check_stamps (aCons (eV 0) (aCons (eV 1) (aCons (eV 2) aNil)))) [some (.d (Ww ws)), some (.d (.int B)), some (.d (Ss ss)), none, none, none] g = some (.nx, [some (.d (Ww ws)), some (.d (.int B)), some (.d (Ss ss)), none, none, none], g) := by
    simp [check_stamps_ok hL h h1 h2 hs]
  have S1 : sPar 3 4 (xD (callM f_seen_after (aCons (eV 0) (aCons (eV 1) (aCons (eV 2) aNil))))) (xL (eLst aNil)) [some (.d (Ww ws)), some (.d (.int B)), some (.d (Ss ss)), none, none, none] g = some (.nx, [some (.d (Ww ws)), some (.d (.int B)), some (.d (Ss ss)), some (.d (.str (seenL ws B ss))), some (.oL []), none], g) := by
    simp [seen_after_ok (by omega) hs.each (by omega)]
  have turns : ∀ (is : List Nat) (acc : List Nat), (∀ i ∈ is, i < ss.length) → acc.length + is.length ≤ 12 →
      forL (tg1 5) (sIf (tV (e2 eqD (callM f_seen_after (aCons (eV 0) (aCons (eV 1) (aCons (e2 addD (eSl (eV 2) oN (oS (eV 5))) (eSl (eV 2) (oS (e2 addD (eV 5) (eC (.int 1)))) oN)) aNil)))) (eV 3))) (sApp 4 (eV 5)) sSkip) [5] (is.map fun i => .int (0 + (i : Nat))) [some (.d (Ww ws)), some (.d (.int B)), some (.d (Ss ss)), some (.d (.str (seenL ws B ss))), some (.oL (acc.map fun i => .int (i : Nat))), none] g
      = some (.nx, [some (.d (Ww ws)), some (.d (.int B)), some (.d (Ss ss)), some (.d (.str (seenL ws B ss))), some (.oL ((acc ++ is.filter fun i => seenL ws B (without ss i) == seenL ws B ss).map fun i => .int (i : Nat))), none], g) := by
    intro is
    induction is with
    | nil => intro acc _ _; simp [forL]
    | cons i is ih =>
      intro acc h hl
      simp only [List.length_cons] at hl
      have hi := h i (by simp)
      have t1 : slD (Ss ss) none (some (i : Int)) = some (Ss (ss.take i)) := by
        show some (D.tup (cut (ss.map Sd) none (some (i : Int)))) = _
        rw [cut_to, ← List.map_take]
        rfl
      have t2 : slD (Ss ss) (some ((i : Int) + 1)) none = some (Ss (ss.drop (i + 1))) := by
        show some (D.tup (cut (ss.map Sd) (some (((i + 1 : Nat)) : Int)) none)) = _
        rw [cut_from, ← List.map_drop]
        rfl
      have t3 : addD (Ss (ss.take i)) (Ss (ss.drop (i + 1))) = some (Ss (without ss i)) := by
        have : ((ss.take i).map Sd).length + ((ss.drop (i + 1)).map Sd).length ≤ LIM := by
          rw [List.length_map, List.length_map, List.length_take, List.length_drop]; unfold LIM; omega
        show (if _ then _ else _) = _
        rw [if_pos this, ← List.map_append]
        rfl
      have hw := without_ok hs i
      have sa := seen_after_ok (g := g) (B := B) (ws := ws) (by omega) hw.each (by have := hw.few; omega)
      rw [List.map_cons]
      have tst : tV (e2 eqD (callM f_seen_after (aCons (eV 0) (aCons (eV 1) (aCons (e2 addD (eSl (eV 2) oN (oS (eV 5))) (eSl (eV 2) (oS (e2 addD (eV 5) (eC (.int 1)))) oN)) aNil)))) (eV 3)) [some (.d (Ww ws)), some (.d (.int B)), some (.d (Ss ss)), some (.d (.str (seenL ws B ss))), some (.oL (acc.map fun i => .int (i : Nat))), some (.d (.int (0 + (i : Nat))))] g = some (.ok (seenL ws B (without ss i) == seenL ws B ss), g) := by
        simp [t1, t2, t3, sa]
      cases hq : seenL ws B (without ss i) == seenL ws B ss with
      | true =>
        have ih' := ih (acc ++ [i]) (fun j hj => h j (by simp [hj])) (by rw [List.length_append]; simp; omega)
        rw [forL_nx (sl1 := [some (.d (Ww ws)), some (.d (.int B)), some (.d (Ss ss)), some (.d (.str (seenL ws B ss))), some (.oL (acc.map fun i => .int (i : Nat))), some (.d (.int (0 + (i : Nat))))]) (sl2 := [some (.d (Ww ws)), some (.d (.int B)), some (.d (Ss ss)), some (.d (.str (seenL ws B ss))), some (.oL ((acc ++ [i]).map fun i => .int (i : Nat))), some (.d (.int (0 + (i : Nat))))]) (g2 := g) rfl ?_]
        · rw [List.filter_cons, if_pos hq, ← List.append_cons] at *
          exact ih'
        · rw [if_ap, tst, hq, ifK_ok, if_pos rfl, sApp_ap (xs := acc.map fun i => .int (i : Nat)) rfl]
          have hlt : acc.length < LIM := by unfold LIM; omega
          simp
          rw [mutL_ap (xs := acc.map fun i => .int (i : Nat)) (ys := acc.map (fun i => D.int (i : Nat)) ++ [.int i]) rfl (by simp [hlt])]
          rfl
      | false =>
        have ih' := ih acc (fun j hj => h j (by simp [hj])) (by omega)
        rw [forL_nx (sl1 := [some (.d (Ww ws)), some (.d (.int B)), some (.d (Ss ss)), some (.d (.str (seenL ws B ss))), some (.oL (acc.map fun i => .int (i : Nat))), some (.d (.int (0 + (i : Nat))))]) (sl2 := [some (.d (Ww ws)), some (.d (.int B)), some (.d (Ss ss)), some (.d (.str (seenL ws B ss))), some (.oL (acc.map fun i => .int (i : Nat))), some (.d (.int (0 + (i : Nat))))]) (g2 := g) rfl ?_]
        · rw [List.filter_cons, if_neg (by rw [hq]; decide)]
          exact ih'
        · rw [if_ap, tst, hq, ifK_ok, if_neg (by decide)]
          rfl
  rw [seq_ap, S0, seqK_nx, seq_ap, S1, seqK_nx, seq_ap, for_ap]
  have it : iR1 (e1 lenD (eV 2)) [some (.d (Ww ws)), some (.d (.int B)), some (.d (Ss ss)), some (.d (.str (seenL ws B ss))), some (.oL []), none] g = some (.ok (rgD 0 ss.length), g) :=
    iR1_ap (by simp [Ss]) (by omega) (by omega)
  have er : rgD 0 ss.length = (List.range ss.length).map fun i => .int (0 + (i : Nat)) := by simp [rgD]
  rw [it, doK_ok, er]
  have tt := turns (List.range ss.length) [] (fun i hi => List.mem_range.mp hi) (by simp; omega)
  simp only [List.map_nil, List.nil_append] at tt
  rw [tt, seqK_nx]
  simp [hidL]
end
end Lw
namespace DL
open PySem L2
section
variable {G : Type}
theorem allD_map {α : Type} (xs : List α) (f : α → Bool) : allD (.lst (xs.map fun x => .bl (f x))) = some (.bl (xs.all f)) := by
  have h : ∀ (xs : List α), asBs (xs.map fun x => D.bl (f x)) = some (xs.map f) := by
    intro xs
    induction xs with
    | nil => rfl
    | cons x xs ih => simp [asBs, ih]
  simp only [allD, h, Option.map_some]
  congr 2
  rw [List.all_map]
  rfl
@[simp] theorem xDict_ap {f : M G D} {sl : SL} {g : G} : xDict f sl g = bindK (f sl g) (fun d => M.lift ((asL d).bind fun ds => (asPrs ds).map fun prs => .oK (dMerge [] prs))) sl := rfl
theorem eLock_ap {i : Nat} {f : M G D} {sl : SL} {g g' : G} {kvs : List (DKey × D)} {d : D} (h : sl[i]? = some (some (.oK kvs))) (e : f (sl.set i (some (.kK kvs))) g = some (.ok d, g')) : eLock i f sl g = some (.ok d, g') := by
  unfold eLock
  rw [h]
  simp only [e]
theorem mK_o {i : Nat} {sl : SL} {g : G} {kvs : List (DKey × D)} (h : sl[i]? = some (some (.oK kvs))) : mK i sl g = some (.ok kvs, g) := by unfold mK; rw [h]
theorem mK_k {i : Nat} {sl : SL} {g : G} {kvs : List (DKey × D)} (h : sl[i]? = some (some (.kK kvs))) : mK i sl g = some (.ok kvs, g) := by unfold mK; rw [h]
theorem mKl_k {i : Nat} {sl : SL} {g : G} {kvs : List (DKey × D)} (h : sl[i]? = some (some (.kK kvs))) : mKl i sl g = some (.ok kvs, g) := by unfold mKl; rw [h]
@[simp] theorem eDGet_ap {i : Nat} {f : M G D} {sl : SL} {g : G} : eDGet i f sl g = bindK (mK i sl g) (fun kvs => M.bind f fun k => M.lift ((keyD k).bind (dGet kvs))) sl := rfl
@[simp] theorem eDIn_ap {i : Nat} {f : M G D} {sl : SL} {g : G} : eDIn i f sl g = bindK (f sl g) (fun k => M.bind (mK i) fun kvs => M.lift ((keyD k).map fun k => .bl (dGet kvs k).isSome)) sl := rfl
@[simp] theorem iKeyD_ap {i : Nat} {sl : SL} {g : G} : iKeyD i sl g = bindK (mKl i sl g) (fun kvs => M.lift (if okKs kvs = true then some (kvs.map fun q => kD q.1) else none)) sl := rfl
end
end DL
namespace Lw
open PySem L2 DL
section
variable {G : Type} {g : G} {letters : List Nat} {ws : List (List Nat)} {B : Nat}
/-- the sign that a stamp puts on a box -/
def cov (ws : List (List Nat)) (s : Nat × Nat) (b : Nat) : Option Nat := if s.2 ≤ b then (wordAt ws s.1)[b - s.2]? else none
/-! ### what is seen, box by box -/
theorem fold_get {ss : Sts} : ∀ (acc : List Nat), (∀ s ∈ ss, StOk ws B s) → acc.length = B → ∀ b, b < B → (ss.foldl (fun acc s => setOn acc (wordAt ws s.1) s.2) acc)[b]? = some ((ss.reverse.findSome? (cov ws · b)).getD (acc.getD b 0)) := by
  induction ss with
  | nil =>
    intro acc _ hl b hb
    simp [List.getD, List.getElem?_eq_getElem (show b < acc.length by omega)]
  | cons s ss ih =>
    intro acc hs hl b hb
    have hst := hs s (by simp)
    rw [List.foldl_cons, ih (setOn acc (wordAt ws s.1) s.2) (fun s' h' => hs s' (by simp [h'])) (by rw [setOn_len, hl]) b hb, List.reverse_cons, List.findSome?_append]
    have e : (setOn acc (wordAt ws s.1) s.2).getD b 0 = (cov ws s b).getD (acc.getD b 0) := by
      rw [List.getD_eq_getElem?_getD, setOn_get acc _ _ b (by rw [hl]; exact hst.2)]
      unfold cov
      by_cases h1 : s.2 ≤ b
      · by_cases h2 : b < s.2 + (wordAt ws s.1).length
        · rw [if_pos ⟨h1, h2⟩, if_pos h1, List.getElem?_eq_getElem (by omega)]
          rfl
        · rw [if_neg (fun z => h2 z.2), if_pos h1, List.getElem?_eq_none (l := wordAt ws s.1) (by omega), List.getD_eq_getElem?_getD]
          rfl
      · rw [if_neg (fun z => h1 z.1), if_neg h1, List.getD_eq_getElem?_getD]
        rfl
    rw [e]
    cases hf : ss.reverse.findSome? (cov ws · b) with
    | some c => simp
    | none => simp [List.findSome?]; cases cov ws s b <;> rfl
def seenAt (ws : List (List Nat)) (ss : Sts) (b : Nat) : Nat := (ss.reverse.findSome? (cov ws · b)).getD 46
theorem seen_get {ss : Sts} (hs : ∀ s ∈ ss, StOk ws B s) {b : Nat} (hb : b < B) : (seenL ws B ss)[b]? = some (seenAt ws ss b) := by
  unfold seenL seenAt
  rw [fold_get (List.replicate B 46) hs List.length_replicate b hb]
  congr 2
  rw [List.getD_eq_getElem?_getD, List.getElem?_replicate, if_pos hb]
  rfl
theorem seen_eq {ss ss' : Sts} (hs : ∀ s ∈ ss, StOk ws B s) (hs' : ∀ s ∈ ss', StOk ws B s) : seenL ws B ss = seenL ws B ss' ↔ ∀ b, b < B → seenAt ws ss b = seenAt ws ss' b := by
  constructor
  · intro h b hb
    have e := seen_get hs hb
    rw [h, seen_get hs' hb] at e
    exact (Option.some.inj e).symm
  · intro h
    apply List.ext_getElem?
    intro b
    by_cases hb : b < B
    · rw [seen_get hs hb, seen_get hs' hb, h b hb]
    · rw [List.getElem?_eq_none (by rw [seenL_len]; omega), List.getElem?_eq_none (by rw [seenL_len]; omega)]
/-! ### stamps that can be exchanged -/
def prs : List Nat → Nat → List (DKey × D)
  | [], _ => []
  | c :: w, p => (.inl p, .str [c]) :: prs w (p + 1)
theorem asPrs_bxs : ∀ (w : List Nat) (p : Nat), asPrs (bxs w p) = some (prs w p)
  | [], _ => rfl
  | c :: w, p => by
    show (keyD (.int p)).bind (fun k => (asPrs (bxs w (p + 1))).map ((k, D.str [c]) :: ·)) = _
    rw [asPrs_bxs w (p + 1)]
    rfl
theorem dMerge_prs : ∀ (w : List Nat) (p : Nat) (acc : List (DKey × D)), (∀ q ∈ acc, ∃ n : Nat, q.1 = .inl (n : Int) ∧ n < p) → dMerge acc (prs w p) = acc ++ prs w p
  | [], _, acc, _ => by simp [prs, dMerge]
  | c :: w, p, acc, h => by
    show dMerge (dPut acc (.inl (p : Int)) (.str [c])) (prs w (p + 1)) = _
    have e : dPut acc (.inl (p : Int)) (.str [c]) = acc ++ [(.inl (p : Int), .str [c])] := by
      unfold dPut
      rw [if_neg]
      intro z
      obtain ⟨q, hq, eq⟩ := List.any_eq_true.mp z
      obtain ⟨n, e1, e2⟩ := h q hq
      have e3 : q.1 = (.inl (p : Int) : DKey) := of_decide_eq_true eq
      rw [e1] at e3
      have := Sum.inl.inj e3
      omega
    rw [e, dMerge_prs w (p + 1) _ fun q hq => ?_]
    · simp [prs]
    · rcases List.mem_append.mp hq with z | z
      · obtain ⟨n, e1, e2⟩ := h q z
        exact ⟨n, e1, by omega⟩
      · rw [List.mem_singleton.mp z]
        exact ⟨p, rfl, by omega⟩
theorem dGet_prs : ∀ (w : List Nat) (p b : Nat), dGet (prs w p) (.inl (b : Int)) = (if p ≤ b then w[b - p]? else none).map fun c => .str [c]
  | [], p, b => by simp [prs, dGet]
  | c :: w, p, b => by
    by_cases h : p = b
    · subst h
      simp [prs, dGet]
    · have hne : ¬ ((Sum.inl (p : Int) : DKey) = Sum.inl (b : Int)) := fun z => h (by have := Sum.inl.inj z; omega)
      have e : dGet (prs (c :: w) p) (.inl (b : Int)) = dGet (prs w (p + 1)) (.inl (b : Int)) := by
        simp [prs, dGet, hne]
      rw [e, dGet_prs w (p + 1) b]
      by_cases h1 : p + 1 ≤ b
      · rw [if_pos h1, if_pos (by omega)]
        obtain ⟨k, rfl⟩ : ∃ k, b = p + 1 + k := ⟨b - (p + 1), by omega⟩
        rw [show p + 1 + k - (p + 1) = k by omega, show p + 1 + k - p = k + 1 by omega]
        simp
      · rw [if_neg h1, if_neg (by omega)]
theorem keys_prs : ∀ (w : List Nat) (p : Nat), (prs w p).map (fun q => kD q.1) = (List.range w.length).map fun i => .int ((p + i : Nat) : Int)
  | [], _ => rfl
  | c :: w, p => by
    rw [List.length_cons, List.range_succ_eq_map]
    show D.int (p : Int) :: (prs w (p + 1)).map (fun q => kD q.1) = _
    rw [keys_prs w (p + 1)]
    simp only [List.map_cons, List.map_map, Nat.add_zero]
    congr 1
    apply List.map_congr_left
    intro i _
    simp only [Function.comp]
    congr 2
    omega
theorem okKs_prs : ∀ (w : List Nat) (p : Nat), okKs (prs w p) = true
  | [], _ => rfl
  | c :: w, p => by
    have := okKs_prs w (p + 1)
    unfold okKs at this ⊢
    simp [prs, this]
def exch (ws : List (List Nat)) (s t : Nat × Nat) : Bool := (List.range (wordAt ws s.1).length).all fun i => match cov ws t (s.2 + i) with
  | none => true
  | some c => (wordAt ws s.1)[i]? == some c

def inK (kvs : List (DKey × D)) : D → Bool
  | .int z => (dGet kvs (.inl z)).isSome
  | _ => false
def sameK (k1 k2 : List (DKey × D)) : D → Bool
  | .int z => eqB ((dGet k1 (.inl z)).getD .non) ((dGet k2 (.inl z)).getD .non)
  | _ => false
theorem exchange_ok {s t : Nat × Nat} (hL : LetsOk letters) (h : WordsOk letters ws) (h1 : 1 ≤ B) (h2 : B ≤ 8) (hs : StOk ws B s) (ht : StOk ws B t) : f_can_exchange [Ww ws, .int B, Sd s, Sd t] g = some (.ok (.bl (exch ws s t)), g) := by
  have e : f_can_exchange [Ww ws, .int B, Sd s, Sd t] g = fnK (F_can_exchange [some (.d (Ww ws)), some (.d (.int B)), some (.d (Sd s)), some (.d (Sd t)), none, none, none] g) := rfl
  rw [e]
  unfold F_can_exchange
  have bs := boxes_ok (g := g) hs.1 (by have := hs.2; omega)
  have bt := boxes_ok (g := g) ht.1 (by have := ht.2; omega)
  have mg : ∀ (w : List Nat) (p : Nat), (asL (.lst (bxs w p))).bind (fun ds => (asPrs ds).map fun prs => Slot.oK (dMerge [] prs)) = some (.oK (prs w p)) := by
    intro w p
    show (asPrs (bxs w p)).map _ = _
    rw [asPrs_bxs, Option.map_some, dMerge_prs w p [] (by simp), List.nil_append]
  have S0 : sDrop (callM f_check_both (aCons (eV 0) (aCons (eV 1) aNil))) [some (.d (Ww ws)), some (.d (.int B)), some (.d (Sd s)), some (.d (Sd t)), none, none, none] g = some (.nx, [some (.d (Ww ws)), some (.d (.int B)), some (.d (Sd s)), some (.d (Sd t)), none, none, none], g) := by
    simp [check_both_ok hL h h1 h2]
  have S1 : tOrM (tNotM (tV (callM f_is_stamp (aCons (eV 0) (aCons (eV 1) (aCons (eV 2) aNil)))))) (tNotM (tV (callM f_is_stamp (aCons (eV 0) (aCons (eV 1) (aCons (eV 3) aNil)))))) [some (.d (Ww ws)), some (.d (.int B)), some (.d (Sd s)), some (.d (Sd t)), none, none, none] g = some (.ok false, g) := by
    simp [is_stamp_ok hs, is_stamp_ok ht]
  have S2 : sPar 4 5 (xDict (callM f_boxes_of (aCons (eV 0) (aCons (eV 2) aNil)))) (xDict (callM f_boxes_of (aCons (eV 0) (aCons (eV 3) aNil)))) [some (.d (Ww ws)), some (.d (.int B)), some (.d (Sd s)), some (.d (Sd t)), none, none, none] g
      = some (.nx, [some (.d (Ww ws)), some (.d (.int B)), some (.d (Sd s)), some (.d (Sd t)), some (.oK (prs (wordAt ws s.1) s.2)), some (.oK (prs (wordAt ws t.1) t.2)), none], g) := by
    simp only [par_ap, xDict_ap, call_ap, aCons_ap, eV_ap, List.getElem?_cons_zero, List.getElem?_cons_succ, slotK_d, bindK_ok, bind_ap, aNil_ap, pure_ap, callK_ok, bs, bt, lift_ap, mg, liftK_some, doK_ok, do_ap, seq_ap, set_ap, seqK_nx]
    rfl
  have comp : eComp (iKeyD 4) [6] (tg1 6) (tV (eDIn 5 (eV 6))) (e2 eqD (eDGet 4 (eV 6)) (eDGet 5 (eV 6))) [some (.d (Ww ws)), some (.d (.int B)), some (.d (Sd s)), some (.d (Sd t)), some (.kK (prs (wordAt ws s.1) s.2)), some (.oK (prs (wordAt ws t.1) t.2)), none] g
      = some (.ok (.lst ((((List.range (wordAt ws s.1).length).map fun i => D.int ((s.2 + i : Nat) : Int)).filter (inK (prs (wordAt ws t.1) t.2))).map fun d => .bl (sameK (prs (wordAt ws s.1) s.2) (prs (wordAt ws t.1) t.2) d))), g) := by
    refine comp_pure (inK (prs (wordAt ws t.1) t.2)) (fun d => .bl (sameK (prs (wordAt ws s.1) s.2) (prs (wordAt ws t.1) t.2) d)) ?_ ?_ fun d hd => ?_
    · rw [iKeyD_ap, mKl_k rfl, bindK_ok, okKs_prs, if_pos rfl, keys_prs]
      rfl
    · rw [List.length_map, List.length_range]
      have := hs.2
      unfold LIM; omega
    · obtain ⟨i, hi, rfl⟩ := List.mem_map.mp hd
      have hi := List.mem_range.mp hi
      refine ⟨_, rfl, ?_, fun hp => ?_⟩
      · rw [tV_ap, eDIn_ap]
        simp only [wipe_cons, wipe_nil, List.set_cons_succ, List.set_cons_zero, eV_ap, List.getElem?_cons_succ, List.getElem?_cons_zero, slotK_d, bindK_ok, bind_ap]
        rw [mK_o rfl, bindK_ok]
        rfl
      · have g1 : dGet (prs (wordAt ws s.1) s.2) (.inl ((s.2 + i : Nat) : Int)) = some (.str [(wordAt ws s.1)[i]]) := by
          rw [dGet_prs, if_pos (by omega), show s.2 + i - s.2 = i by omega, List.getElem?_eq_getElem hi]
          rfl
        obtain ⟨c, hc⟩ : ∃ c, dGet (prs (wordAt ws t.1) t.2) (.inl ((s.2 + i : Nat) : Int)) = some (.str [c]) := by
          have z : (dGet (prs (wordAt ws t.1) t.2) (.inl ((s.2 + i : Nat) : Int))).isSome = true := hp
          rw [dGet_prs] at z ⊢
          cases hq : (if t.2 ≤ s.2 + i then (wordAt ws t.1)[s.2 + i - t.2]? else none) with
          | none => rw [hq] at z; cases z
          | some c => exact ⟨c, rfl⟩
        rw [e2_ap, eDGet_ap]
        simp only [wipe_cons, wipe_nil, List.set_cons_succ, List.set_cons_zero]
        rw [mK_k rfl, bindK_ok, bind_ap]
        simp only [eV_ap, List.getElem?_cons_succ, List.getElem?_cons_zero, slotK_d, bindK_ok, lift_ap, keyD, Option.bind_some, g1, liftK_some, bind_ap, eDGet_ap]
        rw [mK_o rfl, bindK_ok, bind_ap]
        simp only [eV_ap, List.getElem?_cons_succ, List.getElem?_cons_zero, slotK_d, bindK_ok, lift_ap, keyD, Option.bind_some, hc, liftK_some, eqD_str]
        simp only [sameK, g1, hc]
        rfl
  rw [seq_ap, S0, seqK_nx, seq_ap, if_ap, S1, ifK_ok, if_neg (by decide), skip_ap, seqK_nx, seq_ap, S2, seqK_nx, ret_ap]
  have lk : eLock 4 (e1 allD (eComp (iKeyD 4) [6] (tg1 6) (tV (eDIn 5 (eV 6))) (e2 eqD (eDGet 4 (eV 6)) (eDGet 5 (eV 6))))) [some (.d (Ww ws)), some (.d (.int B)), some (.d (Sd s)), some (.d (Sd t)), some (.oK (prs (wordAt ws s.1) s.2)), some (.oK (prs (wordAt ws t.1) t.2)), none] g = some (.ok (.bl (exch ws s t)), g) := by
    refine eLock_ap rfl ?_
    show e1 allD _ [some (.d (Ww ws)), some (.d (.int B)), some (.d (Sd s)), some (.d (Sd t)), some (.kK (prs (wordAt ws s.1) s.2)), some (.oK (prs (wordAt ws t.1) t.2)), none] g = _
    rw [e1_ap, comp, bindK_ok, lift_ap, allD_map, liftK_some]
    congr 4
    rw [List.all_filter, List.all_map]
    unfold exch
    rw [Bool.eq_iff_iff, List.all_eq_true, List.all_eq_true]
    have each : ∀ i ∈ List.range (wordAt ws s.1).length, ((!inK (prs (wordAt ws t.1) t.2) (.int ((s.2 + i : Nat) : Int)) || sameK (prs (wordAt ws s.1) s.2) (prs (wordAt ws t.1) t.2) (.int ((s.2 + i : Nat) : Int))) = match cov ws t (s.2 + i) with
        | none => true
        | some c => (wordAt ws s.1)[i]? == some c) := by
      intro i hi
      have hi := List.mem_range.mp hi
      have g1 : dGet (prs (wordAt ws s.1) s.2) (.inl ((s.2 + i : Nat) : Int)) = some (.str [(wordAt ws s.1)[i]]) := by
        rw [dGet_prs, if_pos (by omega), show s.2 + i - s.2 = i by omega, List.getElem?_eq_getElem hi]
        rfl
      have g2 := dGet_prs (wordAt ws t.1) t.2 (s.2 + i)
      unfold cov
      simp only [inK, sameK, g1, g2]
      cases hq : (if t.2 ≤ s.2 + i then (wordAt ws t.1)[s.2 + i - t.2]? else none) with
      | none => rfl
      | some c =>
        rw [List.getElem?_eq_getElem hi]
        show (false || eqB (.str [(wordAt ws s.1)[i]]) (.str [c])) = _
        show (([(wordAt ws s.1)[i]] : List Nat) == [c]) = (some (wordAt ws s.1)[i] == some c)
        by_cases hc : (wordAt ws s.1)[i] = c
        · simp [hc]
        · simp [hc]
    constructor
    · intro z i hi
      have := z i hi
      rw [← each i hi]; exact this
    · intro z i hi
      have := z i hi
      rw [← each i hi] at this; exact this
  rw [lk]
  rfl
end
end Lw
namespace Lw
open PySem L2 DL
section
variable {ws : List (List Nat)} {B : Nat}
/-! ### the last stamp on a box -/
def lastF (ws : List (List Nat)) : Nat → Option Nat → Sts → Nat → Option Nat
  | _, o, [], _ => o
  | k, o, s :: ss, b => lastF ws (k + 1) (if (cov ws s b).isSome = true then some k else o) ss b
theorem lastL_len : ∀ (ss : Sts) (k : Nat) (acc : List (Option Nat)), (lastL ws k acc ss).length = acc.length
  | [], _, _ => rfl
  | s :: ss, k, acc => by rw [lastL, lastL_len, setOn_len]
theorem lastL_get : ∀ (ss : Sts) (k : Nat) (acc : List (Option Nat)), (∀ s ∈ ss, StOk ws B s) → acc.length = B → ∀ b, b < B → (lastL ws k acc ss)[b]? = some (lastF ws k (acc.getD b none) ss b)
  | [], k, acc, _, hl, b, hb => by
    simp [lastL, lastF, List.getD, List.getElem?_eq_getElem (show b < acc.length by omega)]
  | s :: ss, k, acc, hs, hl, b, hb => by
    have hst := hs s (by simp)
    rw [lastL, lastL_get ss (k + 1) _ (fun s' h' => hs s' (by simp [h'])) (by rw [setOn_len, hl]) b hb, lastF]
    congr 2
    rw [List.getD_eq_getElem?_getD, setOn_get acc _ _ b (by rw [List.length_replicate, hl]; exact hst.2), List.length_replicate]
    unfold cov
    by_cases h1 : s.2 ≤ b
    · by_cases h2 : b < s.2 + (wordAt ws s.1).length
      · rw [if_pos ⟨h1, h2⟩, if_pos h1, List.getElem?_eq_getElem (l := wordAt ws s.1) (by omega), List.getElem?_replicate, if_pos (by omega)]
        rfl
      · rw [if_neg (fun z => h2 z.2), if_pos h1, List.getElem?_eq_none (l := wordAt ws s.1) (by omega), List.getD_eq_getElem?_getD]
        rfl
    · rw [if_neg (fun z => h1 z.1), if_neg h1, List.getD_eq_getElem?_getD]
      rfl
theorem find_cons (s : Nat × Nat) (ss : Sts) (b : Nat) : (s :: ss).reverse.findSome? (cov ws · b) = (ss.reverse.findSome? (cov ws · b)).or (cov ws s b) := by
  rw [List.reverse_cons, List.findSome?_append]
  congr 1
  simp [List.findSome?]
  cases cov ws s b <;> rfl
theorem lastF_spec : ∀ (ss : Sts) (k : Nat) (o : Option Nat) (b : Nat), (ss.reverse.findSome? (cov ws · b) = none ∧ lastF ws k o ss b = o) ∨
    ∃ j s, ss[j]? = some s ∧ lastF ws k o ss b = some (k + j) ∧ ss.reverse.findSome? (cov ws · b) = cov ws s b ∧ (cov ws s b).isSome = true
  | [], k, o, b => .inl ⟨rfl, rfl⟩
  | s :: ss, k, o, b => by
    rw [find_cons, lastF]
    rcases lastF_spec ss (k + 1) (if (cov ws s b).isSome = true then some k else o) b with ⟨h1, h2⟩ | ⟨j, t, h1, h2, h3, h4⟩
    · rw [h1, h2]
      by_cases hc : (cov ws s b).isSome = true
      · rw [if_pos hc]
        exact .inr ⟨0, s, rfl, rfl, rfl, hc⟩
      · rw [if_neg hc]
        refine .inl ⟨?_, rfl⟩
        cases hq : cov ws s b with
        | none => rfl
        | some c => rw [hq] at hc; exact absurd rfl hc
    · refine .inr ⟨j + 1, t, by simpa using h1, by rw [h2]; congr 1; omega, ?_, h4⟩
      rw [h3]
      cases hq : cov ws t b with
      | none => rw [hq] at h4; cases h4
      | some c => rfl
/-! ### some of the stamps -/
def subL (keep : Nat → Bool) : Nat → Sts → Sts
  | _, [] => []
  | k, s :: ss => if keep k = true then s :: subL keep (k + 1) ss else subL keep (k + 1) ss
theorem subL_find (keep : Nat → Bool) (b : Nat) : ∀ (ss : Sts) (k : Nat) (o : Option Nat), (∀ n, lastF ws k o ss b = some n → k ≤ n → keep n = true) → (subL keep k ss).reverse.findSome? (cov ws · b) = ss.reverse.findSome? (cov ws · b)
  | [], _, _, _ => rfl
  | s :: ss, k, o, h => by
    rw [lastF] at h
    have ih := subL_find keep b ss (k + 1) (if (cov ws s b).isSome = true then some k else o) fun n e1 e2 => h n e1 (by omega)
    rw [find_cons]
    unfold subL
    by_cases hk : keep k = true
    · rw [if_pos hk, find_cons, ih]
    · rw [if_neg hk, ih]
      rcases lastF_spec ss (k + 1) (if (cov ws s b).isSome = true then some k else o) b with ⟨h1, h2⟩ | ⟨j, t, h1, h2, h3, h4⟩
      · rw [h1]
        cases hq : cov ws s b with
        | none => rfl
        | some c =>
          rw [hq] at h2 h
          exact absurd (h k h2 (Nat.le_refl _)) hk
      · rw [h3]
        cases hq : cov ws t b with
        | none => rw [hq] at h4; cases h4
        | some c => rfl
theorem subL_mem (keep : Nat → Bool) : ∀ (ss : Sts) (k : Nat), ∀ s ∈ subL keep k ss, s ∈ ss
  | [], _, s, h => h
  | t :: ss, k, s, h => by
    unfold subL at h
    split at h
    · rcases List.mem_cons.mp h with rfl | h
      · simp
      · simp [subL_mem keep ss (k + 1) s h]
    · simp [subL_mem keep ss (k + 1) s h]
theorem subL_le (keep : Nat → Bool) : ∀ (ss : Sts) (k : Nat), (subL keep k ss).length ≤ ss.length
  | [], _ => Nat.le_refl _
  | t :: ss, k => by
    unfold subL
    have := subL_le keep ss (k + 1)
    split <;> simp only [List.length_cons] <;> omega
theorem subL_all : ∀ (ss : Sts) (k i : Nat), i < k → subL (fun j => decide (j ≠ i)) k ss = ss
  | [], _, _, _ => rfl
  | s :: ss, k, i, h => by
    unfold subL
    rw [if_pos (decide_eq_true (by omega)), subL_all ss (k + 1) i (by omega)]
theorem subL_without : ∀ (ss : Sts) (k i : Nat), k ≤ i → subL (fun j => decide (j ≠ i)) k ss = without ss (i - k)
  | [], k, i, _ => by simp [subL, without]
  | s :: ss, k, i, h => by
    unfold subL
    by_cases hk : k = i
    · subst hk
      rw [if_neg (by simp), subL_all ss (k + 1) k (by omega)]
      simp [without]
    · rw [if_pos (decide_eq_true hk), subL_without ss (k + 1) i (by omega)]
      obtain ⟨m, rfl⟩ : ∃ m, i = k + 1 + m := ⟨i - (k + 1), by omega⟩
      rw [show k + 1 + m - (k + 1) = m by omega, show k + 1 + m - k = m + 1 by omega]
      simp [without]
theorem seenAt_sub {keep : Nat → Bool} {ss : Sts} {b : Nat} (h : ∀ n, lastF ws 0 none ss b = some n → keep n = true) : seenAt ws (subL keep 0 ss) b = seenAt ws ss b := by
  unfold seenAt
  rw [subL_find keep b ss 0 none fun n e _ => h n e]
/-- a stamp that is no last one is hidden -/
theorem hidden_of {ss : Sts} (hs : StsOk ws B ss) {i : Nat} (hi : ∀ b, b < B → lastF ws 0 none ss b ≠ some i) : seenL ws B (without ss i) = seenL ws B ss := by
  have e : without ss i = subL (fun j => decide (j ≠ i)) 0 ss := by rw [subL_without ss 0 i (Nat.zero_le _)]; rfl
  rw [e]
  refine (seen_eq (fun s h => hs.each s (subL_mem _ _ _ s h)) hs.each).mpr fun b hb => seenAt_sub fun n en => ?_
  refine decide_eq_true fun z => ?_
  subst z
  exact hi b hb en
/-- on a box: nothing, or the last stamp's sign -/
theorem seen_last {ss : Sts} (b : Nat) : (lastF ws 0 none ss b = none ∧ seenAt ws ss b = 46) ∨ ∃ n s c, lastF ws 0 none ss b = some n ∧ ss[n]? = some s ∧ cov ws s b = some c ∧ seenAt ws ss b = c := by
  unfold seenAt
  rcases lastF_spec (ws := ws) ss 0 none b with ⟨h1, h2⟩ | ⟨j, s, h1, h2, h3, h4⟩
  · exact .inl ⟨h2, by rw [h1]; rfl⟩
  · obtain ⟨c, hc⟩ := Option.isSome_iff_exists.mp h4
    exact .inr ⟨j, s, c, by rw [h2, Nat.zero_add], h1, hc, by rw [h3, hc]; rfl⟩
/-! ### two stamps -/
theorem cov_lt {s : Nat × Nat} {b c : Nat} (hs : StOk ws B s) (h : cov ws s b = some c) : b < B := by
  unfold cov at h
  split at h
  · have := (List.getElem?_eq_some_iff.mp h).1
    have := hs.2
    omega
  · cases h
theorem exch_iff {s t : Nat × Nat} : exch ws s t = true ↔ ∀ b c d, cov ws s b = some c → cov ws t b = some d → c = d := by
  unfold exch
  rw [List.all_eq_true]
  constructor
  · intro h b c d hs ht
    unfold cov at hs
    split at hs
    · rename_i hb
      obtain ⟨hi, ei⟩ := List.getElem?_eq_some_iff.mp hs
      have := h (b - s.2) (List.mem_range.mpr hi)
      rw [show s.2 + (b - s.2) = b by omega, ht] at this
      simp only [hs, beq_iff_eq, Option.some.injEq] at this
      exact this
    · cases hs
  · intro h i hi
    have hi := List.mem_range.mp hi
    have hs : cov ws s (s.2 + i) = some (wordAt ws s.1)[i] := by
      unfold cov
      rw [if_pos (by omega), show s.2 + i - s.2 = i by omega, List.getElem?_eq_getElem hi]
    cases hq : cov ws t (s.2 + i) with
    | none => rfl
    | some d =>
      have := h _ _ _ hs hq
      simp only [List.getElem?_eq_getElem hi, beq_iff_eq, Option.some.injEq]
      exact this
theorem seen2 (s t : Nat × Nat) (b : Nat) : seenAt ws [s, t] b = ((cov ws t b).or (cov ws s b)).getD 46 := by
  unfold seenAt
  rw [find_cons, find_cons]
  rfl
theorem exch_same {s t : Nat × Nat} (hs : StOk ws B s) (ht : StOk ws B t) : exch ws s t = (seenL ws B [s, t] == seenL ws B [t, s]) := by
  have h2 : ∀ s' ∈ [s, t], StOk ws B s' := by intro s' h; simp at h; rcases h with rfl | rfl <;> assumption
  have h3 : ∀ s' ∈ [t, s], StOk ws B s' := by intro s' h; simp at h; rcases h with rfl | rfl <;> assumption
  rw [Bool.eq_iff_iff, exch_iff, beq_iff_eq, seen_eq h2 h3]
  constructor
  · intro h b _
    rw [seen2, seen2]
    cases h4 : cov ws s b with
    | none => cases h5 : cov ws t b <;> rfl
    | some c =>
      cases h5 : cov ws t b with
      | none => rfl
      | some d => rw [h b c d h4 h5]
  · intro h b c d h4 h5
    have := h b (cov_lt hs h4)
    rw [seen2, seen2, h4, h5] at this
    exact this.symm
theorem exch_self (s : Nat × Nat) : exch ws s s = true := exch_iff.mpr fun b c d h1 h2 => by rw [h1] at h2; exact Option.some.inj h2
end
end Lw
namespace DL
open PySem L2
/-! ### stepping through a denotation, statement by statement -/
section
variable {G : Type} {sl : SL} {g g1 g2 g3 : G} {Q : Fl → SL → G → Prop}
def WP (f : SM G) (sl : SL) (g : G) (Q : Fl → SL → G → Prop) : Prop := ∃ fl sl' g', f sl g = some (fl, sl', g') ∧ Q fl sl' g'
theorem WP.mono {f : SM G} {Q' : Fl → SL → G → Prop} (h : WP f sl g Q) (k : ∀ fl sl' g', Q fl sl' g' → Q' fl sl' g') : WP f sl g Q' :=
  let ⟨a, b, c, e, q⟩ := h; ⟨a, b, c, e, k _ _ _ q⟩
theorem wp_seq {f1 f2 : SM G} (h : WP f1 sl g fun fl sl1 g1 => fl = .nx ∧ WP f2 sl1 g1 Q) : WP (sSeq f1 f2) sl g Q := by
  obtain ⟨fl, sl1, g1, e, rfl, a, b, c, e2, q⟩ := h
  refine ⟨a, b, c, ?_, q⟩
  rw [seq_ap, e, seqK_nx, e2]
theorem wp_seq2 {f1 f2 : SM G} (h : WP f1 sl g fun fl sl1 g1 => (fl = .nx ∧ WP f2 sl1 g1 Q) ∨ (∃ d, fl = .rt d ∧ Q (.rt d) sl1 g1)) : WP (sSeq f1 f2) sl g Q := by
  obtain ⟨fl, sl1, g1, e, h⟩ := h
  rcases h with ⟨rfl, a, b, c, e2, q⟩ | ⟨d, rfl, q⟩
  · refine ⟨a, b, c, ?_, q⟩
    rw [seq_ap, e, seqK_nx, e2]
  · exact ⟨_, _, _, by rw [seq_ap, e, seqK_rt], q⟩
theorem wp_skip (h : Q .nx sl g) : WP sSkip sl g Q := ⟨_, _, _, rfl, h⟩
theorem wp_asg {i : Nat} {f : M G D} {d : D} (e : f sl g = some (.ok d, g1)) (h : Q .nx (sl.set i (some (.d d))) g1) : WP (sAsg i (xD f)) sl g Q :=
  ⟨_, _, _, by rw [asg_ap, xD_ap, e]; rfl, h⟩
theorem wp_asgL {i : Nat} {f : M G D} {xs : List D} (e : f sl g = some (.ok (.lst xs), g1)) (h : Q .nx (sl.set i (some (.oL xs))) g1) : WP (sAsg i (xL f)) sl g Q :=
  ⟨_, _, _, by rw [asg_ap, xL_ap, e]; rfl, h⟩
theorem wp_ret {f : M G D} {d : D} (e : f sl g = some (.ok d, g1)) (h : Q (.rt d) sl g1) : WP (sRet f) sl g Q :=
  ⟨_, _, _, by rw [ret_ap, e, doK_ok], h⟩
theorem wp_if {c : M G Bool} {a b : SM G} {k : Bool} (e : c sl g = some (.ok k, g1)) (ht : k = true → WP a sl g1 Q) (hf : k = false → WP b sl g1 Q) : WP (sIf c a b) sl g Q := by
  cases k with
  | true => obtain ⟨x, y, z, e2, q⟩ := ht rfl; exact ⟨x, y, z, by rw [if_ap, e, ifK_ok, if_pos rfl, e2], q⟩
  | false => obtain ⟨x, y, z, e2, q⟩ := hf rfl; exact ⟨x, y, z, by rw [if_ap, e, ifK_ok, if_neg (by decide), e2], q⟩
theorem st_asg {i : Nat} {f : M G D} {f2 : SM G} {d : D} (e : f sl g = some (.ok d, g1)) (h : WP f2 (sl.set i (some (.d d))) g1 Q) : WP (sSeq (sAsg i (xD f)) f2) sl g Q := wp_seq (wp_asg e ⟨rfl, h⟩)
theorem st_asgL {i : Nat} {f : M G D} {f2 : SM G} {xs : List D} (e : f sl g = some (.ok (.lst xs), g1)) (h : WP f2 (sl.set i (some (.oL xs))) g1 Q) : WP (sSeq (sAsg i (xL f)) f2) sl g Q := wp_seq (wp_asgL e ⟨rfl, h⟩)
theorem st_par {i j : Nat} {f h : M G D} {f2 : SM G} {d d2 : D} (e : f sl g = some (.ok d, g1)) (e2 : h sl g1 = some (.ok d2, g2)) (k : WP f2 ((sl.set i (some (.d d))).set j (some (.d d2))) g2 Q) : WP (sSeq (sPar i j (xD f) (xD h)) f2) sl g Q := by
  refine wp_seq ⟨.nx, _, _, ?_, rfl, k⟩
  rw [par_ap, xD_ap, e, bindK_ok, pure_ap, doK_ok, do_ap, xD_ap, e2]
  rfl
theorem st_parL {i j : Nat} {f h : M G D} {f2 : SM G} {d : D} {xs : List D} (e : f sl g = some (.ok d, g1)) (e2 : h sl g1 = some (.ok (.lst xs), g2)) (k : WP f2 ((sl.set i (some (.d d))).set j (some (.oL xs))) g2 Q) : WP (sSeq (sPar i j (xD f) (xL h)) f2) sl g Q := by
  refine wp_seq ⟨.nx, _, _, ?_, rfl, k⟩
  rw [par_ap, xD_ap, e, bindK_ok, pure_ap, doK_ok, do_ap, xL_ap, e2]
  rfl
theorem st_par3 {i j l : Nat} {f h m : M G D} {f2 : SM G} {d d2 d3 : D} (e : f sl g = some (.ok d, g1)) (e2 : h sl g1 = some (.ok d2, g2)) (e3 : m sl g2 = some (.ok d3, g3)) (k : WP f2 (((sl.set i (some (.d d))).set j (some (.d d2))).set l (some (.d d3))) g3 Q) : WP (sSeq (sPar3 i j l (xD f) (xD h) (xD m)) f2) sl g Q := by
  refine wp_seq ⟨.nx, _, _, ?_, rfl, k⟩
  rw [par3_ap, xD_ap, e, bindK_ok, pure_ap, doK_ok, do_ap, xD_ap, e2, bindK_ok, pure_ap, doK_ok, do_ap, xD_ap, e3]
  rfl
theorem st_not {c : M G Bool} {a f2 : SM G} (e : c sl g = some (.ok false, g1)) (k : WP f2 sl g1 Q) : WP (sSeq (sIf c a sSkip) f2) sl g Q :=
  wp_seq (wp_if e (by intro h; cases h) fun _ => wp_skip ⟨rfl, k⟩)
theorem wp_not {c : M G Bool} {a : SM G} (e : c sl g = some (.ok false, g1)) (k : Q .nx sl g1) : WP (sIf c a sSkip) sl g Q :=
  wp_if e (by intro h; cases h) fun _ => wp_skip k
theorem st_drop {f : M G D} {f2 : SM G} {d : D} (e : f sl g = some (.ok d, g1)) (k : WP f2 sl g1 Q) : WP (sSeq (sDrop f) f2) sl g Q :=
  wp_seq ⟨.nx, _, _, by rw [drop_ap, e, doK_ok]; rfl, rfl, k⟩
theorem wp_frz {i : Nat} {f : SM G} (h : WP f (frz1 i sl) g Q) : WP (sFrz i f) sl g Q := h
theorem wp_app {i : Nat} {f : M G D} {d : D} {xs : List D} (h : sl[i]? = some (some (.oL xs))) (e : f sl g = some (.ok d, g1)) (hl : xs.length < LIM) (k : Q .nx (sl.set i (some (.oL (xs ++ [d])))) g1) : WP (sApp i f) sl g Q :=
  ⟨_, _, _, by rw [sApp_ap h, e, doK_ok, mutL_ap (ys := xs ++ [d]) h (by simp only [hl, if_true])], k⟩
theorem wp_ext {i : Nat} {f : M G D} {xs ys : List D} (h : sl[i]? = some (some (.oL xs))) (e : f sl g = some (.ok (.lst ys), g1)) (hl : xs.length + ys.length ≤ LIM) (k : Q .nx (sl.set i (some (.oL (xs ++ ys)))) g1) : WP (sExt i f) sl g Q := by
  refine ⟨.nx, _, _, ?_, k⟩
  unfold sExt sOwnL
  rw [h]
  simp only
  rw [do_ap, e, doK_ok]
  exact mutL_ap h (by simp only [hl, if_true])
/-- a loop that leaves all as it was -/
theorem wp_for {it : M G (List D)} {tg : Tg} {vs : List Nat} {b : SM G} {ds : List D} (e : it sl g = some (.ok ds, g1))
    (H : ∀ d ∈ ds, ∃ sl1, tg d sl = some sl1 ∧ WP b sl1 g1 fun fl sl2 g2 => (fl = .nx ∨ fl = .ct) ∧ wipeS sl2 vs = sl ∧ g2 = g1) (k : Q .nx sl g1) : WP (sFor it tg vs b) sl g Q := by
  refine ⟨.nx, sl, g1, ?_, k⟩
  rw [for_ap, e, doK_ok]
  clear e k
  induction ds with
  | nil => rfl
  | cons d ds ih =>
    obtain ⟨sl1, h1, fl, sl2, g2, h2, h3, h4, rfl⟩ := H d (by simp)
    have ih := ih fun d' hd' => H d' (by simp [hd'])
    unfold forL
    rw [h1]
    simp only [h2]
    rcases h3 with rfl | rfl
    · simp only [h4]; exact ih
    · simp only [h4]; exact ih
theorem st_for {it : M G (List D)} {tg : Tg} {vs : List Nat} {b f2 : SM G} {ds : List D} (e : it sl g = some (.ok ds, g1))
    (H : ∀ d ∈ ds, ∃ sl1, tg d sl = some sl1 ∧ WP b sl1 g1 fun fl sl2 g2 => (fl = .nx ∨ fl = .ct) ∧ wipeS sl2 vs = sl ∧ g2 = g1) (k : WP f2 sl g1 Q) : WP (sSeq (sFor it tg vs b) f2) sl g Q :=
  wp_seq (wp_for e H ⟨rfl, k⟩)
/-- a loop that keeps what Inv tells of the turns done -/
theorem wp_forI {it : M G (List D)} {tg : Tg} {vs : List Nat} {b : SM G} {ds : List D} (Inv : List D → SL → G → Prop) (e : it sl g = some (.ok ds, g1)) (h0 : Inv [] sl g1)
    (H : ∀ pre d post sl g, ds = pre ++ d :: post → Inv pre sl g → ∃ sl1, tg d sl = some sl1 ∧ WP b sl1 g fun fl sl2 g2 => (fl = .nx ∨ fl = .ct) ∧ Inv (pre ++ [d]) (wipeS sl2 vs) g2)
    (k : ∀ sl g, Inv ds sl g → Q .nx sl g) : WP (sFor it tg vs b) sl g Q := by
  have main : ∀ (post pre : List D) (sl : SL) (g : G), ds = pre ++ post → Inv pre sl g → ∃ sl' g', forL tg b vs post sl g = some (.nx, sl', g') ∧ Inv ds sl' g' := by
    intro post
    induction post with
    | nil => intro pre sl g e i; rw [List.append_nil] at e; subst e; exact ⟨sl, g, rfl, i⟩
    | cons d post ih =>
      intro pre sl g e i
      obtain ⟨sl1, h1, fl, sl2, g2, h2, h3, h4⟩ := H pre d post sl g e i
      obtain ⟨sl', g', h5, h6⟩ := ih (pre ++ [d]) _ _ (by rw [e]; simp) h4
      refine ⟨sl', g', ?_, h6⟩
      unfold forL
      rw [h1]
      simp only [h2]
      rcases h3 with rfl | rfl
      · exact h5
      · exact h5
  obtain ⟨sl', g', h1, h2⟩ := main ds [] sl g1 rfl h0
  exact ⟨.nx, sl', g', by rw [for_ap, e, doK_ok, h1], k _ _ h2⟩
/-- a loop over data of one kind: what is done is a fold -/
theorem wp_forF {α A : Type} {it : M G (List D)} {tg : Tg} {vs : List Nat} {b : SM G} (f : α → D) {xs : List α} (mk : A → SL) (step : A → α → A) (P : A → Prop) (a0 : A) (e : it sl g = some (.ok (xs.map f), g1)) (h0 : mk a0 = sl) (p0 : P a0)
    (H : ∀ a x, x ∈ xs → P a → ∃ sl1, tg (f x) (mk a) = some sl1 ∧ WP b sl1 g1 fun fl sl2 g2 => (fl = .nx ∨ fl = .ct) ∧ g2 = g1 ∧ wipeS sl2 vs = mk (step a x) ∧ P (step a x))
    (k : P (xs.foldl step a0) → Q .nx (mk (xs.foldl step a0)) g1) : WP (sFor it tg vs b) sl g Q := by
  subst h0
  have main : ∀ (ys : List α) (a : A), (∀ y ∈ ys, y ∈ xs) → P a → forL tg b vs (ys.map f) (mk a) g1 = some (.nx, mk (ys.foldl step a), g1) ∧ P (ys.foldl step a) := by
    intro ys
    induction ys with
    | nil => intro a _ p; exact ⟨rfl, p⟩
    | cons y ys ih =>
      intro a hy p
      obtain ⟨sl1, h1, fl, sl2, g2, h2, h3, rfl, h4, h5⟩ := H a y (hy y (by simp)) p
      have ih := ih (step a y) (fun z hz => hy z (by simp [hz])) h5
      refine ⟨?_, ih.2⟩
      rw [List.map_cons]
      unfold forL
      rw [h1]
      simp only [h2]
      rcases h3 with rfl | rfl
      · simp only [h4]; exact ih.1
      · simp only [h4]; exact ih.1
  obtain ⟨h1, h2⟩ := main xs a0 (fun _ h => h) p0
  exact ⟨.nx, _, _, by rw [for_ap, e, doK_ok, h1], k h2⟩
theorem st_forF {α A : Type} {it : M G (List D)} {tg : Tg} {vs : List Nat} {b f2 : SM G} (f : α → D) {xs : List α} (mk : A → SL) (step : A → α → A) (P : A → Prop) (a0 : A) (e : it sl g = some (.ok (xs.map f), g1)) (h0 : mk a0 = sl) (p0 : P a0)
    (H : ∀ a x, x ∈ xs → P a → ∃ sl1, tg (f x) (mk a) = some sl1 ∧ WP b sl1 g1 fun fl sl2 g2 => (fl = .nx ∨ fl = .ct) ∧ g2 = g1 ∧ wipeS sl2 vs = mk (step a x) ∧ P (step a x))
    (k : P (xs.foldl step a0) → WP f2 (mk (xs.foldl step a0)) g1 Q) : WP (sSeq (sFor it tg vs b) f2) sl g Q :=
  wp_seq (wp_forF f mk step P a0 e h0 p0 H fun p => ⟨rfl, k p⟩)
/-- a loop that is left by a return at the first x of which p tells -/
theorem wp_find {α : Type} {it : M G (List D)} {tg : Tg} {vs : List Nat} {b : SM G} (f : α → D) {xs : List α} (p : α → Bool) (r : α → D) (e : it sl g = some (.ok (xs.map f), g1))
    (H : ∀ x ∈ xs, ∃ sl1, tg (f x) sl = some sl1 ∧ WP b sl1 g1 fun fl sl2 g2 => g2 = g1 ∧ if p x = true then fl = .rt (r x) else fl = .nx ∧ wipeS sl2 vs = sl)
    (k : match xs.find? p with | some x => ∀ sl', Q (.rt (r x)) sl' g1 | none => Q .nx sl g1) : WP (sFor it tg vs b) sl g Q := by
  have main : ∀ (ys : List α), (∀ y ∈ ys, y ∈ xs) → match ys.find? p with
      | some x => ∃ sl', forL tg b vs (ys.map f) sl g1 = some (.rt (r x), sl', g1)
      | none => forL tg b vs (ys.map f) sl g1 = some (.nx, sl, g1) := by
    intro ys
    induction ys with
    | nil => intro _; rfl
    | cons y ys ih =>
      intro hy
      obtain ⟨sl1, h1, fl, sl2, g2, h2, rfl, h3⟩ := H y (hy y (by simp))
      have ih := ih fun z hz => hy z (by simp [hz])
      rw [List.find?_cons]
      cases hp : p y with
      | true =>
        rw [if_pos hp] at h3
        subst h3
        refine ⟨sl2, ?_⟩
        rw [List.map_cons]
        unfold forL
        rw [h1]
        simp only [h2]
      | false =>
        rw [if_neg (by rw [hp]; decide)] at h3
        obtain ⟨rfl, h4⟩ := h3
        have e2 : forL tg b vs ((y :: ys).map f) sl g2 = forL tg b vs (ys.map f) sl g2 := by
          rw [List.map_cons]
          conv => lhs; unfold forL
          rw [h1]
          simp only [h2, h4]
        simp only [e2]
        exact ih
  have hm := main xs fun _ h => h
  cases hf : xs.find? p with
  | some x =>
    rw [hf] at k hm
    obtain ⟨sl', h⟩ := hm
    exact ⟨_, _, _, by rw [for_ap, e, doK_ok, h], k sl'⟩
  | none =>
    rw [hf] at k hm
    exact ⟨_, _, _, by rw [for_ap, e, doK_ok]; exact hm, k⟩
/-- a function's answer -/
theorem fn_rt {m : Nat} {F : SM G} {ds : List D} {d : D} (e : ds.map (fun d => some (Slot.d d)) ++ List.replicate (m - ds.length) none = sl) (h : WP F sl g fun fl _ g' => (fl = .rt d ∨ (fl = .nx ∧ d = .non)) ∧ g' = g2) : fnD m F ds g = some (.ok d, g2) := by
  obtain ⟨fl, sl', g', h1, h2, rfl⟩ := h
  rw [fn_ap, e, h1]
  rcases h2 with rfl | ⟨rfl, rfl⟩
  · rfl
  · rfl
theorem wp_while0 {c : M G Bool} {vs : List Nat} {b : SM G} {n : Nat} (e : c sl g = some (.ok false, g1)) (k : Q .nx sl g1) : WP (sWhile c vs b (n + 1)) sl g Q :=
  ⟨_, _, _, by unfold sWhile; rw [do_ap, e, doK_ok, if_neg (by decide)]; rfl, k⟩
theorem wp_while1 {c : M G Bool} {vs : List Nat} {b : SM G} {n : Nat} (e : c sl g = some (.ok true, g1)) (k : WP b sl g1 fun fl sl2 g2 => fl = .nx ∧ WP (sWhile c vs b n) (wipeS sl2 vs) g2 Q) : WP (sWhile c vs b (n + 1)) sl g Q := by
  obtain ⟨fl, sl2, g2, h1, rfl, x, y, z, h2, q⟩ := k
  refine ⟨x, y, z, ?_, q⟩
  unfold sWhile
  rw [do_ap, e, doK_ok, if_pos rfl]
  simp only [h1]
  exact h2

theorem wp_forE {it : M G (List D)} {tg : Tg} {vs : List Nat} {b : SM G} {ds : List D} {fl : Fl} {sl' : SL} (e : it sl g = some (.ok ds, g1)) (e2 : forL tg b vs ds sl g1 = some (fl, sl', g2)) (k : Q fl sl' g2) : WP (sFor it tg vs b) sl g Q :=
  ⟨_, _, _, by rw [for_ap, e, doK_ok, e2], k⟩
theorem wp_seqE {it : M G (List D)} {tg : Tg} {vs : List Nat} {b f2 : SM G} {ds : List D} {fl : Fl} {sl' : SL} (e : it sl g = some (.ok ds, g1)) (e2 : seqK (forL tg b vs ds sl g1) f2 = some (fl, sl', g2)) (k : Q fl sl' g2) : WP (sSeq (sFor it tg vs b) f2) sl g Q :=
  ⟨_, _, _, by rw [seq_ap, for_ap, e, doK_ok, e2], k⟩
/-! the same, where nothing is drawn -/
theorem p_asg {i : Nat} {f : M G D} {f2 : SM G} {d : D} (e : f sl g = some (.ok d, g)) (h : WP f2 (sl.set i (some (.d d))) g Q) : WP (sSeq (sAsg i (xD f)) f2) sl g Q := st_asg e h
theorem p_asgL {i : Nat} {f : M G D} {f2 : SM G} {xs : List D} (e : f sl g = some (.ok (.lst xs), g)) (h : WP f2 (sl.set i (some (.oL xs))) g Q) : WP (sSeq (sAsg i (xL f)) f2) sl g Q := st_asgL e h
theorem p_par {i j : Nat} {f h : M G D} {f2 : SM G} {d d2 : D} (e : f sl g = some (.ok d, g)) (e2 : h sl g = some (.ok d2, g)) (k : WP f2 ((sl.set i (some (.d d))).set j (some (.d d2))) g Q) : WP (sSeq (sPar i j (xD f) (xD h)) f2) sl g Q := st_par e e2 k
theorem p_parL {i j : Nat} {f h : M G D} {f2 : SM G} {d : D} {xs : List D} (e : f sl g = some (.ok d, g)) (e2 : h sl g = some (.ok (.lst xs), g)) (k : WP f2 ((sl.set i (some (.d d))).set j (some (.oL xs))) g Q) : WP (sSeq (sPar i j (xD f) (xL h)) f2) sl g Q := st_parL e e2 k
theorem p_not {c : M G Bool} {a f2 : SM G} (e : c sl g = some (.ok false, g)) (k : WP f2 sl g Q) : WP (sSeq (sIf c a sSkip) f2) sl g Q := st_not e k
theorem p_not1 {c : M G Bool} {a : SM G} (e : c sl g = some (.ok false, g)) (k : Q .nx sl g) : WP (sIf c a sSkip) sl g Q := wp_not e k
theorem p_drop {f : M G D} {f2 : SM G} {d : D} (e : f sl g = some (.ok d, g)) (k : WP f2 sl g Q) : WP (sSeq (sDrop f) f2) sl g Q := st_drop e k
theorem p_ret {f : M G D} {d : D} (e : f sl g = some (.ok d, g)) (h : Q (.rt d) sl g) : WP (sRet f) sl g Q := wp_ret e h
theorem p_if {c : M G Bool} {a b : SM G} {k : Bool} (e : c sl g = some (.ok k, g)) (ht : k = true → WP a sl g Q) (hf : k = false → WP b sl g Q) : WP (sIf c a b) sl g Q := wp_if e ht hf
theorem p_app {i : Nat} {f : M G D} {d : D} {xs : List D} (h : sl[i]? = some (some (.oL xs))) (e : f sl g = some (.ok d, g)) (hl : xs.length < LIM) (k : Q .nx (sl.set i (some (.oL (xs ++ [d])))) g) : WP (sApp i f) sl g Q := wp_app h e hl k
theorem p_ext {i : Nat} {f : M G D} {xs ys : List D} (h : sl[i]? = some (some (.oL xs))) (e : f sl g = some (.ok (.lst ys), g)) (hl : xs.length + ys.length ≤ LIM) (k : Q .nx (sl.set i (some (.oL (xs ++ ys)))) g) : WP (sExt i f) sl g Q := wp_ext h e hl k
end
section
variable {G : Type}
theorem comp_none {it : M G (List D)} {vs : List Nat} {tg : Tg} {cnd : M G Bool} {elt : M G D} {sl : SL} {g g1 : G} {ds : List D} (hi : it sl g = some (.ok ds, g1)) (hl : ds.length ≤ LIM)
    (H : ∀ d ∈ ds, ∃ sl1, tg d (wipeS sl vs) = some sl1 ∧ cnd sl1 g1 = some (.ok false, g1)) : eComp it vs tg cnd elt sl g = some (.ok (.lst []), g1) := by
  have := comp_pure (elt := elt) (fun _ => false) id hi hl fun d hd => let ⟨sl1, h1, h2⟩ := H d hd; ⟨sl1, h1, h2, fun h => by cases h⟩
  rw [this, List.filter_eq_nil_iff.mpr (by simp)]
  rfl
end
/-! ### data of one kind -/
theorem flats_all2 {n : Nat} : ∀ {xs : List D}, (∀ x ∈ xs, flat n x = true) → flats n xs = true
  | [], _ => rfl
  | x :: xs, h => by
    show (flat n x && flats n xs) = true
    rw [h x (by simp), flats_all2 fun y hy => h y (by simp [hy])]
    rfl
theorem eqBs_map {α : Type} [DecidableEq α] (f : α → D) (hf : ∀ x y, eqB (f x) (f y) = decide (x = y)) : ∀ xs ys : List α, eqBs (xs.map f) (ys.map f) = decide (xs = ys)
  | [], [] => by simp [eqBs]
  | [], _ :: _ => by simp [eqBs]
  | _ :: _, [] => by simp [eqBs]
  | x :: xs, y :: ys => by
    show (eqB (f x) (f y) && eqBs (xs.map f) (ys.map f)) = _
    rw [hf, eqBs_map f hf xs ys]
    by_cases h : x = y <;> by_cases h2 : xs = ys <;> simp [h, h2]
theorem eqB_str (a b : List Nat) : eqB (.str a) (.str b) = decide (a = b) := by
  show (a == b) = _
  rw [Bool.eq_iff_iff]; simp
theorem eqB_int (a b : Int) : eqB (.int a) (.int b) = decide (a = b) := by
  show (a == b) = _
  rw [Bool.eq_iff_iff]; simp
theorem eqB_nat (a b : Nat) : eqB (.int a) (.int b) = decide (a = b) := by
  rw [eqB_int]
  by_cases h : a = b
  · simp [h]
  · simp [h]; omega
theorem flats_str {n : Nat} (l : List (List Nat)) : flats n (l.map D.str) = true := flats_all2 fun x hx => by obtain ⟨_, _, rfl⟩ := List.mem_map.mp hx; rfl
theorem flats_nat {n : Nat} (l : List Nat) : flats n (l.map fun i => D.int (i : Nat)) = true := flats_all2 fun x hx => by obtain ⟨_, _, rfl⟩ := List.mem_map.mp hx; rfl
theorem eqD_tS (a b : List (List Nat)) : eqD (.tup (a.map D.str)) (.tup (b.map D.str)) = some (.bl (decide (a = b))) := by
  show (if (flats 7 _ && flats 7 _) = true then some (D.bl (eqBs _ _)) else none) = _
  rw [flats_str, flats_str, eqBs_map D.str eqB_str]; rfl
theorem neD_tS (a b : List (List Nat)) : neD (.tup (a.map D.str)) (.tup (b.map D.str)) = some (.bl (!decide (a = b))) := by
  show (if (flats 7 _ && flats 7 _) = true then some (D.bl (!eqBs _ _)) else none) = _
  rw [flats_str, flats_str, eqBs_map D.str eqB_str]; rfl
theorem neD_lS (a b : List (List Nat)) : neD (.lst (a.map D.str)) (.lst (b.map D.str)) = some (.bl (!decide (a = b))) := by
  show (if (flats 7 _ && flats 7 _) = true then some (D.bl (!eqBs _ _)) else none) = _
  rw [flats_str, flats_str, eqBs_map D.str eqB_str]; rfl
theorem eqD_lS (a b : List (List Nat)) : eqD (.lst (a.map D.str)) (.lst (b.map D.str)) = some (.bl (decide (a = b))) := by
  show (if (flats 7 _ && flats 7 _) = true then some (D.bl (eqBs _ _)) else none) = _
  rw [flats_str, flats_str, eqBs_map D.str eqB_str]; rfl
theorem eqD_tN (a b : List Nat) : eqD (.tup (a.map fun i => D.int (i : Nat))) (.tup (b.map fun i => D.int (i : Nat))) = some (.bl (decide (a = b))) := by
  show (if (flats 7 _ && flats 7 _) = true then some (D.bl (eqBs _ _)) else none) = _
  rw [flats_nat, flats_nat, eqBs_map (fun i : Nat => D.int i) eqB_nat]; rfl
theorem neD_tN (a b : List Nat) : neD (.tup (a.map fun i => D.int (i : Nat))) (.tup (b.map fun i => D.int (i : Nat))) = some (.bl (!decide (a = b))) := by
  show (if (flats 7 _ && flats 7 _) = true then some (D.bl (!eqBs _ _)) else none) = _
  rw [flats_nat, flats_nat, eqBs_map (fun i : Nat => D.int i) eqB_nat]; rfl
theorem neD_lN (a b : List Nat) : neD (.lst (a.map fun i => D.int (i : Nat))) (.lst (b.map fun i => D.int (i : Nat))) = some (.bl (!decide (a = b))) := by
  show (if (flats 7 _ && flats 7 _) = true then some (D.bl (!eqBs _ _)) else none) = _
  rw [flats_nat, flats_nat, eqBs_map (fun i : Nat => D.int i) eqB_nat]; rfl
theorem inB_tup2 {a : D} {xs : List D} (h : flat0 a = true) (h2 : ∀ x ∈ xs, flat0 x = true) : inB a (.tup xs) = some (xs.any fun y => eqB y a) := by
  show (if _ then _ else _) = _
  rw [if_pos]
  rw [h, List.all_eq_true.mpr h2]
  rfl
theorem any_map_eq {α : Type} [DecidableEq α] (f : α → D) (hf : ∀ x y, eqB (f x) (f y) = decide (x = y)) (xs : List α) (a : α) [Decidable (a ∈ xs)] : ((xs.map f).any fun y => eqB y (f a)) = decide (a ∈ xs) := by
  rw [Bool.eq_iff_iff, List.any_eq_true, decide_eq_true_eq]
  constructor
  · rintro ⟨y, hy, e⟩
    obtain ⟨x, hx, rfl⟩ := List.mem_map.mp hy
    rw [hf, decide_eq_true_eq] at e
    exact e ▸ hx
  · intro h
    exact ⟨f a, List.mem_map.mpr ⟨a, h, rfl⟩, by rw [hf]; simp⟩
theorem inD_tS (s : List Nat) (l : List (List Nat)) : inD (.str s) (.tup (l.map D.str)) = some (.bl (decide (s ∈ l))) := by
  unfold inD
  rw [inB_tup2 rfl fun x hx => by obtain ⟨_, _, rfl⟩ := List.mem_map.mp hx; rfl, any_map_eq D.str eqB_str]; rfl
theorem ninD_tS (s : List Nat) (l : List (List Nat)) : ninD (.str s) (.tup (l.map D.str)) = some (.bl (!decide (s ∈ l))) := by
  unfold ninD
  rw [inB_tup2 rfl fun x hx => by obtain ⟨_, _, rfl⟩ := List.mem_map.mp hx; rfl, any_map_eq D.str eqB_str]; rfl
theorem inB_lst2 {a : D} {xs : List D} (h : flat0 a = true) (h2 : ∀ x ∈ xs, flat0 x = true) : inB a (.lst xs) = some (xs.any fun y => eqB y a) := inB_tup2 h h2
theorem inD_lS (s : List Nat) (l : List (List Nat)) : inD (.str s) (.lst (l.map D.str)) = some (.bl (decide (s ∈ l))) := inD_tS s l
theorem ninD_lS (s : List Nat) (l : List (List Nat)) : ninD (.str s) (.lst (l.map D.str)) = some (.bl (!decide (s ∈ l))) := ninD_tS s l
theorem inD_tN (s : Nat) (l : List Nat) : inD (.int s) (.tup (l.map fun i => D.int (i : Nat))) = some (.bl (decide (s ∈ l))) := by
  unfold inD
  rw [inB_tup2 rfl fun x hx => by obtain ⟨_, _, rfl⟩ := List.mem_map.mp hx; rfl, any_map_eq (fun i : Nat => D.int i) eqB_nat]; rfl
theorem ninD_tN (s : Nat) (l : List Nat) : ninD (.int s) (.tup (l.map fun i => D.int (i : Nat))) = some (.bl (!decide (s ∈ l))) := by
  unfold ninD
  rw [inB_tup2 rfl fun x hx => by obtain ⟨_, _, rfl⟩ := List.mem_map.mp hx; rfl, any_map_eq (fun i : Nat => D.int i) eqB_nat]; rfl
theorem inD_lN (s : Nat) (l : List Nat) : inD (.int s) (.lst (l.map fun i => D.int (i : Nat))) = some (.bl (decide (s ∈ l))) := inD_tN s l
theorem ninD_lN (s : Nat) (l : List Nat) : ninD (.int s) (.lst (l.map fun i => D.int (i : Nat))) = some (.bl (!decide (s ∈ l))) := ninD_tN s l
theorem slD_to (xs : List D) (n : Nat) : slD (.tup xs) none (some (n : Int)) = some (.tup (xs.take n)) := by
  show some (D.tup (cut xs none (some (n : Int)))) = _
  rw [cut_to]
theorem slD_from (xs : List D) (n : Nat) : slD (.tup xs) (some (n : Int)) none = some (.tup (xs.drop n)) := by
  show some (D.tup (cut xs (some (n : Int)) none)) = _
  rw [cut_from]
theorem slS_to (xs : List Nat) (n : Nat) : slD (.str xs) none (some (n : Int)) = some (.str (xs.take n)) := by
  show some (D.str (cut xs none (some (n : Int)))) = _
  rw [cut_to]
theorem slS_from (xs : List Nat) (n : Nat) : slD (.str xs) (some (n : Int)) none = some (.str (xs.drop n)) := by
  show some (D.str (cut xs (some (n : Int)) none)) = _
  rw [cut_from]
@[simp] theorem neD_nilL : neD (.lst []) (.lst []) = some (.bl false) := rfl
@[simp] theorem neD_nilT : neD (.tup []) (.tup []) = some (.bl false) := rfl
@[simp] theorem eqD_nilL : eqD (.lst []) (.lst []) = some (.bl true) := rfl
@[simp] theorem eqD_nilT : eqD (.tup []) (.tup []) = some (.bl true) := rfl
theorem mulD_int {a b : Int} (h : smallI b = true) : mulD (.int a) (.int b) = some (.int (a * b)) := by
  simp only [mulD, h, Bool.or_true, if_true]
theorem small_of {b : Int} (h1 : -1000000 < b) (h2 : b < 1000000) : smallI b = true := by
  unfold smallI
  rw [Bool.and_eq_true, decide_eq_true_eq, decide_eq_true_eq]
  omega
theorem atI_neg1 {α : Type} {xs : List α} (h : xs ≠ []) : atI xs (-1) = some (xs.getLast h) := by
  have hp := List.length_pos_iff.mpr h
  refine atI_iff.mpr ⟨xs.length - 1, ?_, ?_⟩
  · unfold ixN
    rw [if_neg (by omega), if_pos (by omega)]
    congr 1
    omega
  · rw [List.getLast_eq_getElem, List.getElem?_eq_getElem (by omega)]
end DL
namespace Lw
open PySem L2 DL
section
variable {G : Type} {g : G} {ws : List (List Nat)} {row : List Nat}
abbrev nD (i : Nat) : D := .int (i : Nat)
def Sdi (s : Fr.St) : D := .tup [.int s.1, .int s.2]
def bD (x : Int × Nat) : D := .tup [.int x.1, .str [x.2]]
theorem lim1 {n : Nat} (h : n ≤ 50000) : n ≤ LIM := by unfold LIM; omega
theorem lim2 {n : Nat} (h : n < 50000) : n < LIM := by unfold LIM; omega
/-! ### all stamps on the boxes -/
theorem range_st (lo m : Int) (k : Nat) : (rgD lo m).map (fun d => D.tup [.int k, d]) = ((List.range (m - lo).toNat).map (fun i => ((k, lo + (i : Nat)) : Fr.St))).map Sdi := by
  simp [rgD, Sdi]
theorem stamps_on_eq {lo hi : Int} (h1 : -100 ≤ lo) (h2 : lo ≤ 100) (h3 : 0 ≤ hi) (h4 : hi ≤ 200) (hw : ws.length ≤ 20) (hl : ∀ w ∈ ws, w.length ≤ 100) : f_stamps_on [Ww ws, .int lo, .int hi] g = some (.ok (.lst ((Fr.stOn lo hi 0 ws).map Sdi)), g) := by
  have main : ∀ (us : List (List Nat)) (k : Nat) (acc : List Fr.St), (∀ w ∈ us, w.length ≤ 100) → acc.length + us.length * 400 ≤ 20000 →
      forL (tg2 4 5) (sExt 3 (eComp (iR2 (eV 1) (e2 addD (e2 subD (eV 2) (e1 lenD (eV 5))) (eC (.int 1)))) [6] (tg1 6) tYesM (eTup (aCons (eV 4) (aCons (eV 6) aNil))))) [4, 5] (enumD k (us.map D.str)) [some (.d (Ww ws)), some (.d (.int lo)), some (.d (.int hi)), some (.oL (acc.map Sdi)), none, none, none] g
      = some (.nx, [some (.d (Ww ws)), some (.d (.int lo)), some (.d (.int hi)), some (.oL ((acc ++ Fr.stOn lo hi k us).map Sdi)), none, none, none], g) := by
    intro us
    induction us with
    | nil => intro k acc _ _; simp [Fr.stOn, forL, enumD]
    | cons w us ih =>
      intro k acc hl hn
      have hw' := hl w (by simp)
      simp only [List.length_cons] at hn
      have ih := ih (k + 1) (acc ++ (List.range (hi - w.length + 1 - lo).toNat).map (fun i => (k, lo + (i : Nat)))) (fun x hx => hl x (by simp [hx])) (by rw [List.length_append, List.length_map, List.length_range]; omega)
      have cmp : eComp (iR2 (eV 1) (e2 addD (e2 subD (eV 2) (e1 lenD (eV 5))) (eC (.int 1)))) [6] (tg1 6) tYesM (eTup (aCons (eV 4) (aCons (eV 6) aNil))) [some (.d (Ww ws)), some (.d (.int lo)), some (.d (.int hi)), some (.oL (acc.map Sdi)), some (.d (.int k)), some (.d (.str w)), none] g = some (.ok (.lst ((rgD lo (hi - w.length + 1)).map fun d => D.tup [.int k, d])), g) := by
        refine comp_map _ (iR2_ap (g1 := g) (g2 := g) (n := lo) (m := hi - w.length + 1) (by simp) (by simp) (by omega) (by omega)) (by rw [rgD_len]; exact lim1 (by omega)) fun d hd => ⟨_, rfl, ?_⟩
        have : (2 : Nat) ≤ LIM := lim1 (by omega)
        simp [this]
      have hx : WP (sExt 3 (eComp (iR2 (eV 1) (e2 addD (e2 subD (eV 2) (e1 lenD (eV 5))) (eC (.int 1)))) [6] (tg1 6) tYesM (eTup (aCons (eV 4) (aCons (eV 6) aNil))))) [some (.d (Ww ws)), some (.d (.int lo)), some (.d (.int hi)), some (.oL (acc.map Sdi)), some (.d (.int k)), some (.d (.str w)), none] g fun fl sl2 g2 => fl = .nx ∧ g2 = g ∧ sl2 = [some (.d (Ww ws)), some (.d (.int lo)), some (.d (.int hi)), some (.oL ((acc ++ (List.range (hi - w.length + 1 - lo).toNat).map (fun i => ((k, lo + (i : Nat)) : Fr.St))).map Sdi)), some (.d (.int k)), some (.d (.str w)), none] := by
        refine p_ext (xs := acc.map Sdi) rfl cmp ?_ ⟨rfl, rfl, ?_⟩
        · rw [List.length_map, List.length_map, rgD_len]; exact lim1 (by omega)
        · rw [range_st, List.map_append]; rfl
      obtain ⟨fl, sl2, g2, e1, rfl, rfl, rfl⟩ := hx
      show forL _ _ _ (.tup [.int k, .str w] :: enumD (k + 1) (us.map D.str)) _ _ = _
      rw [forL_nx rfl e1]
      rw [Fr.stOn, ← List.append_assoc]
      exact ih
  refine fn_rt (sl := [some (.d (Ww ws)), some (.d (.int lo)), some (.d (.int hi)), none, none, none, none]) rfl ?_
  unfold F_stamps_on
  refine p_asgL (xs := []) (by simp) ?_
  refine wp_seq (wp_forE (g1 := g) (ds := enumD 0 (ws.map D.str)) (by simp [Ww]) (main ws 0 [] hl (by simp; omega)) ⟨rfl, ?_⟩)
  exact wp_frz (p_ret (d := .lst ((Fr.stOn lo hi 0 ws).map Sdi)) (by simp [frz1]) ⟨.inl rfl, rfl⟩)
/-! ### the boxes of a stamp -/
def shI (p : Int) : D → D
  | .tup [.int i, x] => .tup [.int (p + i), x]
  | _ => .non
theorem shI_bs (p : Int) : ∀ (w : List Nat) (k : Nat), (enumD k (w.map fun c => D.str [c])).map (shI p) = (Fr.bs w (p + k)).map bD
  | [], _ => rfl
  | c :: w, k => by
    show shI p (.tup [.int (k : Nat), .str [c]]) :: (enumD (k + 1) (w.map fun c => D.str [c])).map (shI p) = bD (p + (k : Nat), c) :: (Fr.bs w (p + k + 1)).map bD
    rw [shI_bs p w (k + 1)]
    rw [show p + ((k + 1 : Nat) : Int) = p + (k : Int) + 1 by omega]
    rfl
theorem ix_wd {n : Nat} (h : n < ws.length) : ixD (Ww ws) (.int n) = some (.str (Fr.wd ws n)) := by
  rw [ix_words (by omega) (by omega)]
  rfl
theorem boxes_eq {s : Fr.St} (h : s.1 < ws.length) (hw : (Fr.wd ws s.1).length ≤ 100) : f_boxes_of [Ww ws, Sdi s] g = some (.ok (.lst ((Fr.bs (Fr.wd ws s.1) s.2).map bD)), g) := by
  refine fn_rt (sl := [some (.d (Ww ws)), some (.d (Sdi s)), none, none]) rfl ?_
  unfold F_boxes_of
  have i3 : ixD (Sdi s) (.int 0) = some (.int s.1) := rfl
  have i4 : ixD (Sdi s) (.int 1) = some (.int s.2) := rfl
  have l2 : (2 : Nat) ≤ LIM := lim1 (by omega)
  refine p_ret (d := .lst ((enumD 0 ((Fr.wd ws s.1).map fun c => D.str [c])).map (shI s.2))) ?_ ⟨.inl ?_, rfl⟩
  · refine comp_map (shI s.2) (by simp [i3, ix_wd h]) (by rw [enumD_len, List.length_map]; exact lim1 (by omega)) fun d hd => ?_
    obtain ⟨i, x, rfl, _⟩ := enumD_mem hd
    refine ⟨_, rfl, ?_⟩
    simp [i4, l2, shI]
  · rw [shI_bs]
    simp
/-! ### what a stamp frees -/
theorem ix_row {b : Int} (h0 : 0 ≤ b) (h : b < row.length) : ixD (.str row) (.int b) = some (.str [row[b.toNat]'(by omega)]) := by
  show (atI row b).map _ = _
  rw [atI_int h0 h]
  rfl
def isNs (x : D) (free : List Nat) : Prop := x = .lst (free.map nD) ∨ x = .tup (free.map nD)
theorem nin_free {x : D} {free : List Nat} (hx : isNs x free) (p : Int) (h0 : 0 ≤ p) : ninD (.int p) x = some (.bl (!decide (p.toNat ∈ free))) := by
  obtain ⟨n, rfl⟩ : ∃ n : Nat, p = n := ⟨p.toNat, by omega⟩
  rcases hx with rfl | rfl
  · exact ninD_lN n free
  · exact ninD_tN n free
theorem freed_by_eq {s : Fr.St} {x : D} {free : List Nat} (hx : isNs x free) (h : s.1 < ws.length) (hw : (Fr.wd ws s.1).length ≤ 100) : f_freed_by [Ww ws, .str row, x, Sdi s] g = some (.ok (.lst ((Fr.frBy ws row free s).map nD)), g) := by
  have main : ∀ (l : List (Int × Nat)) (acc : List Nat), acc.length + l.length ≤ 1000 → ∃ sl', seqK (forL (tg2 5 6) (sIf (tAndM (tV (e3 leD ltD (eC (.int 0)) (eV 5) (e1 lenD (eV 1)))) (tV (e2 ninD (eV 5) (eV 2)))) (sSeq (sIf (tV (e2 neD (e2 ixD (eV 1) (eV 5)) (eV 6))) (sRet (eLst aNil)) sSkip)
    (sApp 4 (eV 5))) sSkip) [5, 6] (l.map bD) [some (.d (Ww ws)), some (.d (.str row)), some (.d x), some (.d (Sdi s)), some (.oL (acc.map nD)), none, none] g) (sFrz 4 (sRet (eV 4))) = some (.rt (.lst ((Fr.by1 row free l acc).map nD)), sl', g) := by
    intro l
    induction l with
    | nil => intro acc _; exact ⟨_, by simp [forL, frz1, Fr.by1]; rfl⟩
    | cons y l ih =>
      obtain ⟨p, c⟩ := y
      intro acc hn
      simp only [List.length_cons] at hn
      have e0 : (((p, c) :: l).map bD) = .tup [.int p, .str [c]] :: l.map bD := rfl
      by_cases hr : 0 ≤ p ∧ p < row.length ∧ p.toNat ∉ free
      · obtain ⟨r1, r2, r3⟩ := hr
        have hg : row[p.toNat]? = some (row[p.toNat]'(by omega)) := List.getElem?_eq_getElem (by omega)
        have hix := ix_row r1 r2
        by_cases hm : row[p.toNat]'(by omega) = c
        · obtain ⟨sl', ih⟩ := ih (acc ++ [p.toNat]) (by rw [List.length_append]; simp; omega)
          refine ⟨sl', ?_⟩
          rw [e0, forL_nx (sl2 := [some (.d (Ww ws)), some (.d (.str row)), some (.d x), some (.d (Sdi s)), some (.oL ((acc ++ [p.toNat]).map nD)), some (.d (.int p)), some (.d (.str [c]))]) (g2 := g) rfl ?_]
          · rw [Fr.by1, if_pos ⟨r1, r2, r3⟩, if_pos (by rw [hg, hm])]
            exact ih
          · have ha : WP (sApp 4 (eV 5)) [some (.d (Ww ws)), some (.d (.str row)), some (.d x), some (.d (Sdi s)), some (.oL (acc.map nD)), some (.d (.int p)), some (.d (.str [c]))] g fun fl sl2 g2 => fl = .nx ∧ g2 = g ∧ sl2 = [some (.d (Ww ws)), some (.d (.str row)), some (.d x), some (.d (Sdi s)), some (.oL ((acc ++ [p.toNat]).map nD)), some (.d (.int p)), some (.d (.str [c]))] := by
              refine p_app (xs := acc.map nD) (d := .int p) rfl (by simp) (by rw [List.length_map]; exact lim2 (by omega)) ⟨rfl, rfl, ?_⟩
              rw [List.map_append]
              simp [nD]
              omega
            obtain ⟨fl, sl2, g2, e1, rfl, rfl, rfl⟩ := ha
            simp [r1, r2, nin_free hx p r1, r3, hix, hm, e1]
        · refine ⟨[some (.d (Ww ws)), some (.d (.str row)), some (.d x), some (.d (Sdi s)), some (.oL (acc.map nD)), some (.d (.int p)), some (.d (.str [c]))], ?_⟩
          rw [e0, Fr.by1, if_pos ⟨r1, r2, r3⟩, if_neg (by rw [hg]; simpa using hm)]
          unfold forL
          simp [tg2, r1, r2, nin_free hx p r1, r3, hix, hm]
      · obtain ⟨sl', ih⟩ := ih acc (by omega)
        refine ⟨sl', ?_⟩
        rw [e0, forL_nx (sl2 := [some (.d (Ww ws)), some (.d (.str row)), some (.d x), some (.d (Sdi s)), some (.oL (acc.map nD)), some (.d (.int p)), some (.d (.str [c]))]) (g2 := g) rfl ?_]
        · rw [Fr.by1, if_neg hr]
          exact ih
        · by_cases r1 : 0 ≤ p
          · by_cases r2 : p < row.length
            · have r3 : p.toNat ∈ free := Classical.byContradiction fun q => hr ⟨r1, r2, q⟩
              simp [r1, r2, nin_free hx p r1, r3]
            · simp [r1, r2]
          · simp [r1]
  refine fn_rt (sl := [some (.d (Ww ws)), some (.d (.str row)), some (.d x), some (.d (Sdi s)), none, none, none]) rfl ?_
  unfold F_freed_by
  refine p_asgL (xs := []) (by simp) ?_
  have hb := boxes_eq (g := g) h hw
  have hlen : ∀ (w : List Nat) (p : Int), (Fr.bs w p).length = w.length := by
    intro w
    induction w with
    | nil => intro p; rfl
    | cons c w ih => intro p; simp [Fr.bs, ih]
  obtain ⟨sl', e⟩ := main (Fr.bs (Fr.wd ws s.1) s.2) [] (by rw [hlen]; simp; omega)
  exact wp_seqE (g1 := g) (ds := (Fr.bs (Fr.wd ws s.1) s.2).map bD) (by simp [hb]) e ⟨.inl rfl, rfl⟩
end
end Lw
namespace Fr
def pStep (ws : Ws) (row : List Nat) (a : List Nat × List St) (s : St) : List Nat × List St := if frBy ws row a.1 s = [] then a else (a.1 ++ frBy ws row a.1 s, a.2 ++ [s])
theorem pass_fold {ws : Ws} {row : List Nat} : ∀ (ss : List St) (f : List Nat) (d : List St), pass ws row ss f d = ss.foldl (pStep ws row) (f, d)
  | [], f, d => rfl
  | s :: ss, f, d => by
    rw [List.foldl_cons]
    unfold pass pStep
    split
    · rename_i h; rw [if_pos h]; exact pass_fold ss f d
    · rename_i h; rw [if_neg h]; exact pass_fold ss _ _
theorem frLoop_any {ws : Ws} {row : List Nat} {over : Nat} {ss : List St} (hs : ∀ s ∈ ss, On ws (-(over : Int)) ((row.length : Int) + over) s) : ∀ (n m : Nat) (f : List Nat) (d : List St), Good ws row over f → row.length < n + f.length → row.length < m + f.length → frLoop ws row ss n f d = frLoop ws row ss m f d
  | 0, m, f, d, g, hn, _ => by
    have := nd_lt g.nd fun b hb => (g.ok b hb).1
    omega
  | n + 1, 0, f, d, g, _, hm => by
    have := nd_lt g.nd fun b hb => (g.ok b hb).1
    omega
  | n + 1, m + 1, f, d, g, hn, hm => by
    unfold frLoop
    split
    · rfl
    · rename_i he
      have h1 := pass_le (ws := ws) (row := row) ss f d
      exact frLoop_any hs n m _ _ (pass_good ss f d hs g) (by omega) (by omega)
theorem pStep_good {ws : Ws} {row : List Nat} {over : Nat} {a : List Nat × List St} {s : St} (hs : On ws (-(over : Int)) ((row.length : Int) + over) s) (g : Good ws row over a.1) : Good ws row over (pStep ws row a s).1 := by
  unfold pStep
  split
  · exact g
  · exact g.step hs
theorem pStep_le {ws : Ws} {row : List Nat} {a : List Nat × List St} {s : St} (h : a.2.length ≤ a.1.length) : (pStep ws row a s).2.length ≤ (pStep ws row a s).1.length := by
  unfold pStep
  split
  · exact h
  · rename_i hn
    have : 0 < (frBy ws row a.1 s).length := List.length_pos_iff.mpr hn
    simp only [List.length_append, List.length_singleton]
    omega
theorem fold_le {ws : Ws} {row : List Nat} : ∀ (ss : List St) (a : List Nat × List St), a.2.length ≤ a.1.length → (ss.foldl (pStep ws row) a).2.length ≤ (ss.foldl (pStep ws row) a).1.length
  | [], a, h => h
  | s :: ss, a, h => fold_le ss _ (pStep_le h)
def doneL (ws : Ws) (row : List Nat) (over : Nat) : List St := (freed ws row over).2
end Fr
namespace Lw
open PySem L2 DL
section
variable {G : Type} {g : G} {ws : List (List Nat)} {row : List Nat}
theorem ne_nils (l : List Nat) : neD (.lst (l.map nD)) (.lst []) = some (.bl (!decide (l = []))) := neD_lN l []
theorem freed_in_eq {over : Nat} (ho : over ≤ 50) (hr : row.length ≤ 100) (hw : ws.length ≤ 20) (hl : ∀ w ∈ ws, w.length ≤ 100) : f_freed_in [Ww ws, .str row, .int over] g = some (.ok (.tup [.lst ((Fr.freeL ws row over).map nD), .lst ((Fr.doneL ws row over).map Sdi)]), g) := by
  have hSS : ∀ s ∈ Fr.stOn (-(over : Int)) ((row.length : Int) + over) 0 ws, Fr.On ws (-(over : Int)) ((row.length : Int) + over) s := fun s hs => Fr.stOn_on.mp hs
  -- one pass
  have one : ∀ (before : D) (f : List Nat) (d : List Fr.St) (Q : Fl → SL → G → Prop), Fr.Good ws row over f → d.length ≤ f.length →
      Q .nx [some (.d (Ww ws)), some (.d (.str row)), some (.d (.int over)), some (.d (.lst ((Fr.pass ws row (Fr.stOn (-(over : Int)) ((row.length : Int) + over) 0 ws) f d).1.map nD))), some (.oL ((Fr.pass ws row (Fr.stOn (-(over : Int)) ((row.length : Int) + over) 0 ws) f d).2.map Sdi)), some (.d (.int f.length)), none, none] g →
      WP (sSeq (sAsg 5 (xD (e1 lenD (eV 3))))
    (sFor (iL (callM f_stamps_on (aCons (eV 0) (aCons (e2 subD (eC (.int 0)) (eV 2)) (aCons (e2 addD (e1 lenD (eV 1)) (eV 2)) aNil))))) (tg1 6) [6, 7] (sSeq (sAsg 7 (xD (callM f_freed_by (aCons (eV 0) (aCons (eV 1) (aCons (eV 3) (aCons (eV 6) aNil)))))))
    (sIf (tV (e2 neD (eV 7) (eLst aNil))) (sSeq (sAsg 3 (xD (e2 addD (eV 3) (eV 7))))
    (sApp 4 (eV 6))) sSkip)))) [some (.d (Ww ws)), some (.d (.str row)), some (.d (.int over)), some (.d (.lst (f.map nD))), some (.oL (d.map Sdi)), some (.d before), none, none] g Q := by
    intro before f d Q gf hd hQ
    refine p_asg (d := .int f.length) (by simp) ?_
    have hso := stamps_on_eq (g := g) (ws := ws) (lo := -(over : Int)) (hi := (row.length : Int) + over) (by omega) (by omega) (by omega) (by omega) hw hl
    refine wp_forF Sdi (xs := Fr.stOn (-(over : Int)) ((row.length : Int) + over) 0 ws) (g1 := g) (fun a : List Nat × List Fr.St => [some (.d (Ww ws)), some (.d (.str row)), some (.d (.int over)), some (.d (.lst (a.1.map nD))), some (.oL (a.2.map Sdi)), some (.d (.int f.length)), none, none]) (Fr.pStep ws row) (fun a => Fr.Good ws row over a.1 ∧ a.2.length ≤ a.1.length) (f, d) ?_ rfl ⟨gf, hd⟩ ?_ ?_
    · have e0 : (0 : Int) - (over : Int) = -(over : Int) := by omega
      simp [e0, hso]
    · rintro a s hs ⟨ga, ha⟩
      refine ⟨_, rfl, ?_⟩
      have hon := hSS s hs
      have hb := freed_by_eq (g := g) (row := row) (x := .lst (a.1.map nD)) (.inl rfl) hon.1 (hl _ (by
        unfold Fr.wd
        rw [List.getD_eq_getElem?_getD, List.getElem?_eq_getElem hon.1]
        exact List.getElem_mem _))
      refine p_asg (d := .lst ((Fr.frBy ws row a.1 s).map nD)) (by simp [hb]) ?_
      have g2 := Fr.pStep_good (s := s) hon ga
      have l2 := Fr.pStep_le (ws := ws) (row := row) (s := s) ha
      have n2 := Fr.nd_lt g2.nd fun b hb => (g2.ok b hb).1
      have n1 := Fr.nd_lt ga.nd fun b hb => (ga.ok b hb).1
      refine p_if (k := !decide (Fr.frBy ws row a.1 s = [])) (by simp [ne_nils]) (fun ht => ?_) (fun hf => ?_)
      · have hne : Fr.frBy ws row a.1 s ≠ [] := by simpa using ht
        have es : Fr.pStep ws row a s = (a.1 ++ Fr.frBy ws row a.1 s, a.2 ++ [s]) := by unfold Fr.pStep; rw [if_neg hne]
        rw [es] at g2 l2 n2 ⊢
        have hlim : a.1.length + (Fr.frBy ws row a.1 s).length ≤ LIM := by
          simp only [List.length_append] at n2
          exact lim1 (by omega)
        refine p_asg (d := .lst ((a.1 ++ Fr.frBy ws row a.1 s).map nD)) (by simp [addD, hlim]) ?_
        refine p_app (xs := a.2.map Sdi) (d := Sdi s) rfl (by simp) (by rw [List.length_map]; exact lim2 (by omega)) ⟨.inl rfl, rfl, ?_, g2, l2⟩
        simp
      · have he : Fr.frBy ws row a.1 s = [] := by simpa using hf
        have es : Fr.pStep ws row a s = a := by unfold Fr.pStep; rw [if_pos he]
        rw [es]
        exact wp_skip ⟨.inl rfl, rfl, rfl, ga, ha⟩
    · intro hp
      rw [Fr.pass_fold] at hQ
      exact hQ
  -- the passes
  have lp : ∀ (n : Nat) (f : List Nat) (d : List Fr.St) (before : D) (Q : Fl → SL → G → Prop), Fr.Good ws row over f → d.length ≤ f.length → row.length < n + f.length → neD before (.int f.length) = some (.bl true) →
      (∀ z, Q .nx [some (.d (Ww ws)), some (.d (.str row)), some (.d (.int over)), some (.d (.lst ((Fr.frLoop ws row (Fr.stOn (-(over : Int)) ((row.length : Int) + over) 0 ws) n f d).1.map nD))), some (.oL ((Fr.frLoop ws row (Fr.stOn (-(over : Int)) ((row.length : Int) + over) 0 ws) n f d).2.map Sdi)), z, none, none] g) →
      WP (sWhile (tV (e2 neD (eV 5) (e1 lenD (eV 3)))) [6, 7] (sSeq (sAsg 5 (xD (e1 lenD (eV 3))))
    (sFor (iL (callM f_stamps_on (aCons (eV 0) (aCons (e2 subD (eC (.int 0)) (eV 2)) (aCons (e2 addD (e1 lenD (eV 1)) (eV 2)) aNil))))) (tg1 6) [6, 7] (sSeq (sAsg 7 (xD (callM f_freed_by (aCons (eV 0) (aCons (eV 1) (aCons (eV 3) (aCons (eV 6) aNil)))))))
    (sIf (tV (e2 neD (eV 7) (eLst aNil))) (sSeq (sAsg 3 (xD (e2 addD (eV 3) (eV 7))))
    (sApp 4 (eV 6))) sSkip)))) (n + 1)) [some (.d (Ww ws)), some (.d (.str row)), some (.d (.int over)), some (.d (.lst (f.map nD))), some (.oL (d.map Sdi)), some (.d before), none, none] g Q := by
    intro n
    induction n with
    | zero =>
      intro f d before Q gf hd hn
      have := Fr.nd_lt gf.nd fun b hb => (gf.ok b hb).1
      omega
    | succ n ih =>
      intro f d before Q gf hd hn hb hQ
      refine wp_while1 (g1 := g) (by simp [hb]) ?_
      refine one before f d _ gf hd ⟨rfl, ?_⟩
      simp only [wipe_cons, wipe_nil, List.set_cons_succ, List.set_cons_zero]
      unfold Fr.frLoop at hQ
      split at hQ
      · rename_i he
        refine wp_while0 (g1 := g) ?_ (hQ _)
        simp [he]
      · rename_i he
        have h1 := Fr.pass_le (ws := ws) (row := row) (Fr.stOn (-(over : Int)) ((row.length : Int) + over) 0 ws) f d
        refine ih _ _ _ Q (Fr.pass_good _ f d hSS gf) ?_ (by omega) ?_ hQ
        · rw [Fr.pass_fold]; exact Fr.fold_le _ _ hd
        · have hne : ¬ f.length = (Fr.pass ws row (Fr.stOn (-(over : Int)) ((row.length : Int) + over) 0 ws) f d).1.length := fun e => he e.symm
          rw [neD_int]
          congr 2
          have : ((f.length : Int) == ((Fr.pass ws row (Fr.stOn (-(over : Int)) ((row.length : Int) + over) 0 ws) f d).1.length : Int)) = false := by
            rw [beq_eq_false_iff_ne]
            omega
          rw [this]; rfl
  refine fn_rt (sl := [some (.d (Ww ws)), some (.d (.str row)), some (.d (.int over)), none, none, none, none, none]) rfl ?_
  unfold F_freed_in
  refine wp_seq ⟨.nx, [some (.d (Ww ws)), some (.d (.str row)), some (.d (.int over)), some (.d (.lst (([] : List Nat).map nD))), some (.oL (([] : List Fr.St).map Sdi)), some (.d .non), none, none], g, by simp, rfl, ?_⟩
  refine wp_seq (lp 999 [] [] .non _ ⟨List.nodup_nil, by simp⟩ (by simp) (by simp; omega) rfl fun z => ⟨rfl, ?_⟩)
  have e := Fr.frLoop_any (ws := ws) (row := row) (over := over) hSS 999 (row.length + 1) [] [] ⟨List.nodup_nil, by simp⟩ (by simp; omega) (by simp)
  rw [e]
  have l2 : (2 : Nat) ≤ LIM := lim1 (by omega)
  exact wp_frz (p_ret (d := .tup [.lst ((Fr.freeL ws row over).map nD), .lst ((Fr.doneL ws row over).map Sdi)]) (by simp [frz1, l2, Fr.freeL, Fr.doneL, Fr.freed]) ⟨.inl rfl, rfl⟩)
end
end Lw
namespace DL
open PySem L2
section
variable {G : Type} {sl : SL} {g g1 : G} {Q : Fl → SL → G → Prop}
theorem p_unp {f : M G D} {t : Tg} {f2 : SM G} {d : D} {sl' : SL} (e : f sl g = some (.ok d, g1)) (e2 : t d sl = some sl') (k : WP f2 sl' g1 Q) : WP (sSeq (sUnp f t) f2) sl g Q := by
  refine wp_seq ⟨.nx, sl', g1, ?_, rfl, k⟩
  unfold sUnp
  rw [do_ap, e, doK_ok]
  simp only [e2]
end
end DL
namespace Lw
open PySem L2 DL
section
variable {G : Type} {g : G} {ws : List (List Nat)} {row : List Nat}
def L4 : List Nat := [97, 98, 99, 100]
abbrev WsOk (ws : List (List Nat)) : Prop := WordsOk L4 ws
theorem lets4 : LetsOk L4 := by intro c hc; simp [L4] at hc; omega
theorem mem4 {c : Nat} : c ∈ L4 ↔ 97 ≤ c ∧ c ≤ 100 := by simp [L4]; omega
theorem WordsOk.ok {letters : List Nat} (hL : LetsOk letters) (h : WordsOk letters ws) : WsOk ws :=
  ⟨h.l0, h.l1, fun w hw => ⟨(h.each w hw).1, (h.each w hw).2.1, fun c hc => mem4.mpr (hL c ((h.each w hw).2.2 c hc))⟩, h.ord⟩
structure RowOk (row : List Nat) : Prop where
  h1 : 1 ≤ row.length
  h8 : row.length ≤ 8
  ab : ∀ c ∈ row, c ∈ L4
theorem WsOk.w4 (h : WsOk ws) : ∀ w ∈ ws, w.length ≤ 4 := fun w hw => (h.each w hw).2.1
theorem WsOk.pos (h : WsOk ws) : ∀ w ∈ ws, 1 ≤ w.length := fun w hw => (h.each w hw).1
theorem WsOk.rowOk (h : WsOk ws) {w : List Nat} (hw : w ∈ ws) : RowOk w := ⟨(h.each w hw).1, by have := (h.each w hw).2.1; omega, (h.each w hw).2.2⟩
/-! ### strings -/
def strB (most : Nat) (s : List Nat) : Bool := decide (1 ≤ s.length) && decide (s.length ≤ most) && s.all fun c => decide (c ∈ L4)
theorem strB_iff {most : Nat} {s : List Nat} : strB most s = true ↔ 1 ≤ s.length ∧ s.length ≤ most ∧ ∀ c ∈ s, c ∈ L4 := by
  unfold strB
  rw [Bool.and_eq_true, Bool.and_eq_true, decide_eq_true_eq, decide_eq_true_eq, List.all_eq_true, and_assoc]
  simp only [decide_eq_true_eq]
theorem in_L4 (c : Nat) : inD (.str [c]) (.str [97, 98, 99, 100]) = some (.bl (decide (c ∈ L4))) := by
  show some (D.bl (isSub [c] L4)) = _
  congr 2
  rw [Bool.eq_iff_iff]
  simp [isSub, isPre, L4]
theorem asBs_map {α : Type} (l : List α) (p : α → Bool) : asBs (l.map fun x => .bl (p x)) = some (l.map p) := by
  induction l with
  | nil => rfl
  | cons x l ih => simp [asBs, ih]
theorem allD_map {α : Type} (l : List α) (p : α → Bool) : allD (.lst (l.map fun x => .bl (p x))) = some (.bl (l.all p)) := by
  simp [allD, asBs_map]
theorem string_eq {s : List Nat} {most : Nat} (hs : s.length ≤ 50000) : f_is_string_of [.str s, .int most] g = some (.ok (.bl (strB most s)), g) := by
  refine fn_rt (sl := [some (.d (.str s)), some (.d (.int most)), none]) rfl ?_
  unfold F_is_string_of
  have c : eComp (iS (eV 0)) [2] (tg1 2) tYesM (e2 inD (eV 2) (eC (.str [97, 98, 99, 100]))) [some (.d (.str s)), some (.d (.int most)), none] g = some (.ok (.lst (s.map fun c => .bl (decide (c ∈ L4)))), g) := by
    have := comp_map (it := iS (eV 0)) (vs := [2]) (tg := tg1 2) (elt := e2 inD (eV 2) (eC (.str [97, 98, 99, 100]))) (sl := [some (.d (.str s)), some (.d (.int most)), none]) (g := g) (g1 := g) (ds := s.map fun c => D.str [c]) (fun d => match d with | .str [c] => .bl (decide (c ∈ L4)) | _ => .non) (by simp) (by rw [List.length_map]; exact lim1 (by omega)) fun d hd => ⟨_, rfl, ?_⟩
    · rw [List.map_map] at this
      exact this
    · obtain ⟨x, hx, rfl⟩ := List.mem_map.mp hd
      simp [in_L4 x]
  refine p_ret (d := .bl (strB most s)) ?_ ⟨.inl rfl, rfl⟩
  have a := allD_map s fun c => decide (c ∈ L4)
  unfold strB
  by_cases h1 : 1 ≤ s.length
  · by_cases h2 : s.length ≤ most
    · have h2' : (s.length : Int) ≤ most := by omega
      have h1' : (1 : Int) ≤ s.length := by omega
      simp [h1, h2, h2', h1', c, a]
    · have h2' : ¬ (s.length : Int) ≤ most := by omega
      have h1' : (1 : Int) ≤ s.length := by omega
      simp [h1, h2, h2', h1']
  · have h1' : ¬ (1 : Int) ≤ s.length := by omega
    simp [h1, h1']
theorem RowOk.strB (h : RowOk row) : strB 8 row = true := strB_iff.mpr ⟨h.h1, h.h8, h.ab⟩
theorem check_row_eq (h : WsOk ws) (hr : RowOk row) : f_check_row [Ww ws, .str row] g = some (.ok .non, g) := by
  refine fn_rt (sl := [some (.d (Ww ws)), some (.d (.str row))]) rfl ?_
  unfold F_check_row
  have e1 : f_is_row [.str row] g = some (.ok (.bl true), g) := by
    refine fn_rt (sl := [some (.d (.str row))]) rfl ?_
    unfold F_is_row
    have := string_eq (g := g) (s := row) (most := 8) (by have := hr.h8; omega)
    rw [hr.strB] at this
    exact p_ret (d := .bl true) (by simpa using this) ⟨.inl rfl, rfl⟩
  refine p_drop (d := .non) (by simp [check_words_ok lets4 h]) ?_
  exact p_not1 (by simp [e1]) ⟨.inr ⟨rfl, rfl⟩, rfl⟩
/-! ### rows that can be stamped -/
theorem is_stamped_eq (hr : row.length ≤ 100) (hw : ws.length ≤ 20) (hl : ∀ w ∈ ws, w.length ≤ 100) : f_is_stamped [Ww ws, .str row] g = some (.ok (.bl (Fr.stB ws row)), g) := by
  refine fn_rt (sl := [some (.d (Ww ws)), some (.d (.str row))]) rfl ?_
  unfold F_is_stamped
  have e : f_freed_in [Ww ws, .str row, .int 0] g = _ := freed_in_eq (g := g) (over := 0) (by omega) hr hw hl
  refine p_ret (d := .bl (Fr.stB ws row)) ?_ ⟨.inl rfl, rfl⟩
  have ix : ∀ a b : D, ixD (.tup [a, b]) (.int 0) = some a := fun a b => rfl
  have eb : (((Fr.freeL ws row 0).length : Int) == (row.length : Int)) = Fr.stB ws row := by
    rw [Bool.eq_iff_iff, beq_iff_eq, Fr.stB, decide_eq_true_eq]
    omega
  simp [e, ix, eb]
theorem WsOk.len (h : WsOk ws) : ws.length ≤ 20 := by have := h.l1; omega
theorem WsOk.w100 (h : WsOk ws) : ∀ w ∈ ws, w.length ≤ 100 := fun w hw => by have := h.w4 w hw; omega
theorem can_stamp_eq (h : WsOk ws) (hr : RowOk row) : f_can_stamp [Ww ws, .str row] g = some (.ok (.bl (Fr.stB ws row)), g) := by
  refine fn_rt (sl := [some (.d (Ww ws)), some (.d (.str row))]) rfl ?_
  unfold F_can_stamp
  refine p_drop (d := .non) (by simp [check_row_eq h hr]) ?_
  exact p_ret (d := .bl (Fr.stB ws row)) (by simp [is_stamped_eq (g := g) (row := row) (by have := hr.h8; omega) h.len h.w100]) ⟨.inl rfl, rfl⟩
def stuckL (ws : List (List Nat)) (row : List Nat) : List Nat := (List.range row.length).filter fun b => !decide (b ∈ Fr.freeL ws row 0)
theorem stuck_eq (h : WsOk ws) (hr : RowOk row) : f_stuck_boxes [Ww ws, .str row] g = some (.ok (.tup ((stuckL ws row).map nD)), g) := by
  refine fn_rt (sl := [some (.d (Ww ws)), some (.d (.str row)), none, none]) rfl ?_
  unfold F_stuck_boxes
  have e : f_freed_in [Ww ws, .str row, .int 0] g = _ := freed_in_eq (g := g) (over := 0) (by omega) (by have := hr.h8; omega) h.len h.w100
  have ix : ∀ a b : D, ixD (.tup [a, b]) (.int 0) = some a := fun a b => rfl
  have h8 := hr.h8
  refine p_drop (d := .non) (by simp [check_row_eq h hr]) ?_
  refine p_asg (d := .lst ((Fr.freeL ws row 0).map nD)) (by simp [e, ix]) ?_
  have c : eComp (iR1 (e1 lenD (eV 1))) [3] (tg1 3) (tV (e2 ninD (eV 3) (eV 2))) (eV 3) [some (.d (Ww ws)), some (.d (.str row)), some (.d (.lst ((Fr.freeL ws row 0).map nD))), none] g = some (.ok (.lst ((stuckL ws row).map nD)), g) := by
    have := comp_pure (it := iR1 (e1 lenD (eV 1))) (vs := [3]) (tg := tg1 3) (cnd := tV (e2 ninD (eV 3) (eV 2))) (elt := eV 3) (sl := [some (.d (Ww ws)), some (.d (.str row)), some (.d (.lst ((Fr.freeL ws row 0).map nD))), none]) (g := g) (g1 := g) (ds := rgD 0 row.length) (fun d => match d with | .int z => !decide (z.toNat ∈ Fr.freeL ws row 0) | _ => false) id (iR1_ap (by simp) (by omega) (by omega)) (by rw [rgD_len]; exact lim1 (by omega)) fun d hd => ?_
    · have er : rgD 0 (row.length : Int) = (List.range row.length).map nD := by simp [rgD]
      have ef : ((fun d : D => match d with | .int z => !decide (z.toNat ∈ Fr.freeL ws row 0) | _ => false) ∘ nD) = fun b => !decide (b ∈ Fr.freeL ws row 0) := by
        funext b
        simp [nD]
      rw [er, List.map_id, List.filter_map, ef] at this
      exact this
    · obtain ⟨z, rfl, z0, z1⟩ := rgD_mem hd
      refine ⟨_, rfl, ?_, fun _ => by simp⟩
      have := nin_free (x := .lst ((Fr.freeL ws row 0).map nD)) (.inl rfl) z z0
      simp [this]
  refine p_ret (d := .tup ((stuckL ws row).map nD)) ?_ ⟨.inl rfl, rfl⟩
  simp only [List.set_cons_succ, List.set_cons_zero]
  rw [e1_ap, c, bindK_ok, lift_ap, tupD_lst, liftK_some]
theorem stuck_mem {b : Nat} : b ∈ stuckL ws row ↔ b < row.length ∧ ¬ Fr.Free ws row 0 b := by
  unfold stuckL
  rw [List.mem_filter, List.mem_range, Bool.not_eq_true', decide_eq_false_iff_not, Fr.mem_freeL]
theorem stuck_nil : stuckL ws row = [] ↔ Fr.stB ws row = true := by
  rw [Fr.stB, decide_eq_true_eq, Fr.freeL_all]
  constructor
  · intro e b hb
    refine Classical.byContradiction fun hn => ?_
    have : b ∈ stuckL ws row := stuck_mem.mpr ⟨hb, hn⟩
    rw [e] at this; cases this
  · intro h
    refine List.eq_nil_iff_forall_not_mem.mpr fun b hb => ?_
    obtain ⟨h1, h2⟩ := stuck_mem.mp hb
    exact h2 (h b h1)
/-! ### parts -/
theorem shown_eq (h : WsOk ws) (hr : row.length ≤ 100) : f_shown [Ww ws, .str row] g = some (.ok (if Fr.shB ws row = true then .lst ((Fr.doneL ws row 3).map Sdi) else .non), g) := by
  refine fn_rt (sl := [some (.d (Ww ws)), some (.d (.str row)), none, none]) rfl ?_
  unfold F_shown
  have e : f_freed_in [Ww ws, .str row, .int 3] g = _ := freed_in_eq (g := g) (over := 3) (by omega) hr h.len h.w100
  refine p_unp (g1 := g) (d := .tup [.lst ((Fr.freeL ws row 3).map nD), .lst ((Fr.doneL ws row 3).map Sdi)]) (by simp [e]) rfl ?_
  refine p_ret (d := if Fr.shB ws row = true then .lst ((Fr.doneL ws row 3).map Sdi) else .non) ?_ ⟨.inl rfl, rfl⟩
  unfold Fr.shB
  by_cases hh : (Fr.freeL ws row 3).length = row.length
  · simp [hh]
  · have : ¬ ((Fr.freeL ws row 3).length : Int) = (row.length : Int) := by omega
    simp [hh, this]
theorem can_show_eq (h : WsOk ws) (hr : RowOk row) : f_can_show [Ww ws, .str row] g = some (.ok (.bl (Fr.shB ws row)), g) := by
  refine fn_rt (sl := [some (.d (Ww ws)), some (.d (.str row))]) rfl ?_
  unfold F_can_show
  refine p_drop (d := .non) (by simp [check_row_eq h hr]) ?_
  refine p_ret (d := .bl (Fr.shB ws row)) ?_ ⟨.inl rfl, rfl⟩
  have e := shown_eq (g := g) (row := row) h (by have := hr.h8; omega)
  cases hb : Fr.shB ws row with
  | true => rw [hb] at e; simp [e, notN]
  | false => rw [hb] at e; simp [e]
theorem is_row_with_eq {v : List Nat} (h : WsOk ws) (hr : RowOk row) (hv : v.length ≤ 50000) : f_is_row_with [Ww ws, .str row, .str v] g = some (.ok (.bl (strB 16 v && (isSub row v && Fr.stB ws v))), g) := by
  refine fn_rt (sl := [some (.d (Ww ws)), some (.d (.str row)), some (.d (.str v))]) rfl ?_
  unfold F_is_row_with
  refine p_drop (d := .non) (by simp [check_row_eq h hr]) ?_
  have e1 : f_is_string_of [.str v, .int 16] g = _ := string_eq (g := g) (s := v) (most := 16) hv
  refine p_ret (d := .bl (strB 16 v && (isSub row v && Fr.stB ws v))) ?_ ⟨.inl rfl, rfl⟩
  have e2 : inD (.str row) (.str v) = some (.bl (isSub row v)) := rfl
  cases hs : strB 16 v with
  | false => rw [hs] at e1; simp [e1]
  | true =>
    rw [hs] at e1
    have e3 := is_stamped_eq (g := g) (ws := ws) (row := v) (by have := (strB_iff.mp hs).2.1; omega) h.len h.w100
    cases hi : isSub row v with
    | false => rw [hi] at e2; simp [e1, e2]
    | true => rw [hi] at e2; simp [e1, e2, e3]
end
end Lw
namespace Fr
/-! ### all strings of so many letters -/
def stL (ls : List (List Nat)) : Nat → List (List Nat)
  | 0 => [[]]
  | n + 1 => (stL ls n).flatMap fun r => ls.map fun l => r ++ l
def Ones (ls : List (List Nat)) : Prop := ∀ l ∈ ls, ∃ c, l = [c]
theorem stL_mem {ls : List (List Nat)} (h1 : Ones ls) : ∀ (n : Nat) (s : List Nat), s ∈ stL ls n ↔ s.length = n ∧ ∀ c ∈ s, [c] ∈ ls
  | 0, s => by
    simp [stL]
    intro h; subst h; simp
  | n + 1, s => by
    rw [stL, List.mem_flatMap]
    constructor
    · rintro ⟨r, hr, hs⟩
      obtain ⟨l, hl, rfl⟩ := List.mem_map.mp hs
      obtain ⟨c, rfl⟩ := h1 l hl
      obtain ⟨e1, e2⟩ := (stL_mem h1 n r).mp hr
      refine ⟨by simp [e1], fun c' hc' => ?_⟩
      rcases List.mem_append.mp hc' with z | z
      · exact e2 c' z
      · rw [List.mem_singleton.mp z]; exact hl
    · rintro ⟨e1, e2⟩
      have hne : s ≠ [] := by intro e; subst e; simp at e1
      refine ⟨s.dropLast, (stL_mem h1 n _).mpr ⟨by rw [List.length_dropLast]; omega, fun c hc => e2 c (List.dropLast_subset _ hc)⟩, List.mem_map.mpr ⟨[s.getLast hne], e2 _ (List.getLast_mem hne), List.dropLast_concat_getLast hne⟩⟩
theorem lt_app : ∀ {a b : List Nat}, a.length = b.length → a < b → ∀ (u v : List Nat), a ++ u < b ++ v
  | [], [], _, h, _, _ => absurd h (by simp)
  | x :: a, y :: b, hl, h, u, v => by
    rw [List.cons_lt_cons_iff] at h
    show x :: (a ++ u) < y :: (b ++ v)
    rw [List.cons_lt_cons_iff]
    rcases h with h | ⟨e, h⟩
    · exact .inl h
    · exact .inr ⟨e, lt_app (by simpa using hl) h u v⟩
theorem app_lt : ∀ (a : List Nat) {u v : List Nat}, u < v → a ++ u < a ++ v
  | [], _, _, h => h
  | x :: a, u, v, h => by
    show x :: (a ++ u) < x :: (a ++ v)
    rw [List.cons_lt_cons_iff]
    exact .inr ⟨rfl, app_lt a h⟩
theorem stL_len {ls : List (List Nat)} (h1 : Ones ls) {n : Nat} {s : List Nat} (h : s ∈ stL ls n) : s.length = n := ((stL_mem h1 n s).mp h).1
theorem pw_flat {α β : Type} {R : β → β → Prop} (f : α → List β) : ∀ {l : List α}, (∀ x ∈ l, (f x).Pairwise R) → l.Pairwise (fun x y => ∀ u ∈ f x, ∀ v ∈ f y, R u v) → (l.flatMap f).Pairwise R
  | [], _, _ => .nil
  | x :: l, h1, h2 => by
    obtain ⟨h3, h4⟩ := List.pairwise_cons.mp h2
    rw [List.flatMap_cons]
    refine List.pairwise_append.mpr ⟨h1 x (by simp), pw_flat f (fun y hy => h1 y (by simp [hy])) h4, fun u hu v hv => ?_⟩
    obtain ⟨y, hy, hv⟩ := List.mem_flatMap.mp hv
    exact h3 y hy u hu v hv
theorem stL_ord {ls : List (List Nat)} (h1 : Ones ls) (ho : ls.Pairwise (· < ·)) : ∀ n, (stL ls n).Pairwise (· < ·)
  | 0 => List.pairwise_singleton _ _
  | n + 1 => by
    rw [stL]
    refine pw_flat _ (fun r _ => List.pairwise_map.mpr (ho.imp fun {a b} h => app_lt r h)) ?_
    refine List.Pairwise.imp_of_mem (fun {r r'} hr hr' hlt u hu v hv => ?_) (stL_ord h1 ho n)
    obtain ⟨l, _, rfl⟩ := List.mem_map.mp hu
    obtain ⟨l', _, rfl⟩ := List.mem_map.mp hv
    exact lt_app ((stL_len h1 hr).trans (stL_len h1 hr').symm) hlt _ _
theorem stL_num (ls : List (List Nat)) : ∀ n, (stL ls n).length = ls.length ^ n
  | 0 => rfl
  | n + 1 => by
    rw [stL, List.length_flatMap]
    simp only [List.length_map]
    rw [List.map_const', List.sum_replicate_nat, stL_num ls n, Nat.pow_succ]
/-! ### the letters of words -/
def lets (ws : Ws) : List (List Nat) := DL.sortU (ws.flatten.map fun c => [c])
theorem lets_mem {ws : Ws} {l : List Nat} : l ∈ lets ws ↔ ∃ c, l = [c] ∧ ∃ w ∈ ws, c ∈ w := by
  unfold lets
  rw [DL.sortU_mem, List.mem_map]
  constructor
  · rintro ⟨c, hc, rfl⟩
    exact ⟨c, rfl, List.mem_flatten.mp hc⟩
  · rintro ⟨c, rfl, h⟩
    exact ⟨c, List.mem_flatten.mpr h, rfl⟩
theorem lets_mem1 {ws : Ws} {c : Nat} : [c] ∈ lets ws ↔ ∃ w ∈ ws, c ∈ w := by
  rw [lets_mem]
  constructor
  · rintro ⟨d, e, h⟩
    simp at e
    subst e; exact h
  · exact fun h => ⟨c, rfl, h⟩
theorem lets_ones (ws : Ws) : Ones (lets ws) := fun l hl => let ⟨c, e, _⟩ := lets_mem.mp hl; ⟨c, e⟩
theorem lets_ord (ws : Ws) : (lets ws).Pairwise (· < ·) := DL.sortU_ord _
/-- all rows of a length -/
def rowsL (ws : Ws) (n : Nat) : List (List Nat) := (stL (lets ws) n).filter (stB ws)
theorem rowsL_ord (ws : Ws) (n : Nat) : (rowsL ws n).Pairwise (· < ·) := (stL_ord (lets_ones ws) (lets_ord ws) n).filter _
theorem rowsL_mem {ws : Ws} {n : Nat} {s : List Nat} : s ∈ rowsL ws n ↔ s.length = n ∧ (∀ c ∈ s, ∃ w ∈ ws, c ∈ w) ∧ stB ws s = true := by
  unfold rowsL
  rw [List.mem_filter, stL_mem (lets_ones ws), and_assoc]
  simp only [lets_mem1]
/-- the letters of a row that can be stamped are those of words -/
theorem FreeG.letter {S : List Nat → Prop} {row : List Nat} {lo hi : Int} {b : Nat} (h : FreeG S row lo hi b) : True := trivial
end Fr
namespace Lw
open PySem L2 DL
section
variable {G : Type} {g : G} {ws : List (List Nat)} {row : List Nat}
theorem check_length_eq (h : WsOk ws) {n : Nat} (h1 : 1 ≤ n) (h5 : n ≤ 5) : f_check_length [Ww ws, .int n] g = some (.ok .non, g) := by
  refine fn_rt (sl := [some (.d (Ww ws)), some (.d (.int n))]) rfl ?_
  unfold F_check_length
  refine p_drop (d := .non) (by simp [check_words_ok lets4 h]) ?_
  have a : (1 : Int) ≤ n := by omega
  have b : (n : Int) ≤ 5 := by omega
  exact p_not1 (by simp [between_eq, a, b]) ⟨.inr ⟨rfl, rfl⟩, rfl⟩
theorem flat_le : ∀ (ws : List (List Nat)) (m : Nat), (∀ w ∈ ws, w.length ≤ m) → ws.flatten.length ≤ ws.length * m
  | [], m, _ => by simp
  | w :: ws, m, h => by
    have h1 := h w (by simp)
    have h2 := flat_le ws m fun x hx => h x (by simp [hx])
    rw [List.flatten_cons, List.length_append, List.length_cons, Nat.succ_mul]
    omega
theorem join_words {s : List (List Nat)} (h : s.flatten.length ≤ 1000) : joinD [] (.tup (s.map D.str)) = some (.str s.flatten) := by
  simp only [joinD, asSs_map, Option.bind_some, joinS_nil]
  rw [if_pos]
  refine ⟨lim1 (by omega), ?_⟩
  rw [← List.length_flatten]
  simp only [List.length_nil, Nat.mul_zero, Nat.add_zero]
  exact lim1 (by omega)
theorem WsOk.flat (h : WsOk ws) : ws.flatten.length ≤ 16 := by
  have := flat_le ws 4 h.w4
  have := h.l1
  omega
theorem letters_eq (h : ws.flatten.length ≤ 900) : f_letters_of [Ww ws] g = some (.ok (.lst ((Fr.lets ws).map D.str)), g) := by
  refine fn_rt (sl := [some (.d (Ww ws))]) rfl ?_
  unfold F_letters_of eJoin
  have e : joinD [] (Ww ws) = some (.str ws.flatten) := join_words (by omega)
  have hl : ws.flatten.length < 1000 := by omega
  have e2 : sortSetD (.str ws.flatten) = some (.lst ((Fr.lets ws).map D.str)) := by
    show (if _ then _ else _) = _
    rw [if_pos hl]; rfl
  exact p_ret (d := .lst ((Fr.lets ws).map D.str)) (by simp [e, e2]) ⟨.inl rfl, rfl⟩
theorem foldl_app {α β : Type} (f : α → List β) : ∀ (l : List α) (acc : List β), l.foldl (fun acc x => acc ++ f x) acc = acc ++ l.flatMap f
  | [], acc => by simp
  | x :: l, acc => by rw [List.foldl_cons, foldl_app f l, List.flatMap_cons, List.append_assoc]
theorem strings_eq {ls : List (List Nat)} (h1 : Fr.Ones ls) (h4 : ls.length ≤ 4) {n : Nat} (hn : n ≤ 5) : f_strings_of [.lst (ls.map D.str), .int n] g = some (.ok (.lst ((Fr.stL ls n).map D.str)), g) := by
  refine fn_rt (sl := [some (.d (.lst (ls.map D.str))), some (.d (.int n)), none, none, none, none, none]) rfl ?_
  unfold F_strings_of
  have l1 : (1 : Nat) ≤ LIM := lim1 (by omega)
  refine p_asg (d := .lst ((Fr.stL ls 0).map D.str)) (by simp [l1, Fr.stL]) ?_
  have num : ∀ k, k ≤ 5 → (Fr.stL ls k).length ≤ 1024 := by
    intro k hk
    rw [Fr.stL_num]
    exact Nat.le_trans (Nat.pow_le_pow_left h4 k) (Nat.le_trans (Nat.pow_le_pow_right (by omega) hk) (by decide))
  have er : rgD 0 (n : Int) = (List.range n).map nD := by simp [rgD]
  refine wp_seq (wp_forI (g1 := g) (ds := (List.range n).map nD) (fun pre sl g' => g' = g ∧ sl = [some (.d (.lst (ls.map D.str))), some (.d (.int n)), some (.d (.lst ((Fr.stL ls pre.length).map D.str))), none, none, none, none]) ?_ ⟨rfl, rfl⟩ ?_ ?_)
  · rw [← er]
    exact iR1_ap (by simp) (by omega) (by omega)
  · rintro pre d post sl g' hd ⟨rfl, rfl⟩
    have hk : pre.length < n := by
      have := congrArg List.length hd
      simp at this
      omega
    refine ⟨_, rfl, ?_⟩
    refine p_asgL (xs := []) (by simp) ?_
    have hnum := num pre.length (by omega)
    refine wp_seq (wp_forI (g1 := g') (ds := (Fr.stL ls pre.length).map D.str) (fun pre2 sl g2 => g2 = g' ∧ ∃ rs : List (List Nat), pre2 = rs.map D.str ∧ sl = [some (.d (.lst (ls.map D.str))), some (.d (.int n)), some (.d (.lst ((Fr.stL ls pre.length).map D.str))), some (.d d), some (.oL ((rs.flatMap fun r => ls.map fun l => r ++ l).map D.str)), none, none]) (by simp) ⟨rfl, [], rfl, rfl⟩ ?_ ?_)
    · rintro pre2 d2 post2 sl g2 hd2 ⟨rfl, rs, rfl, rfl⟩
      obtain ⟨l1', l2', q1, q2, q3⟩ := List.map_eq_append_iff.mp hd2
      obtain ⟨r, l3, rfl, rfl, q5⟩ := List.map_eq_cons_iff.mp q3
      have hrs : rs.length + 1 ≤ 1024 := by
        have h2 := congrArg List.length hd2
        simp at h2
        omega
      have hrl : r.length = pre.length := Fr.stL_len h1 (by rw [q1]; simp)
      refine ⟨_, rfl, ?_⟩
      have c : eComp (iL (eV 0)) [6] (tg1 6) tYesM (e2 addD (eV 5) (eV 6)) [some (.d (.lst (ls.map D.str))), some (.d (.int n)), some (.d (.lst ((Fr.stL ls pre.length).map D.str))), some (.d d), some (.oL ((rs.flatMap fun r => ls.map fun l => r ++ l).map D.str)), some (.d (.str r)), none] g2 = some (.ok (.lst ((ls.map fun l => r ++ l).map D.str)), g2) := by
        have := comp_map (it := iL (eV 0)) (vs := [6]) (tg := tg1 6) (elt := e2 addD (eV 5) (eV 6)) (sl := [some (.d (.lst (ls.map D.str))), some (.d (.int n)), some (.d (.lst ((Fr.stL ls pre.length).map D.str))), some (.d d), some (.oL ((rs.flatMap fun r => ls.map fun l => r ++ l).map D.str)), some (.d (.str r)), none]) (g := g2) (g1 := g2) (ds := ls.map D.str) (fun x => match x with | .str l => .str (r ++ l) | _ => .non) (by simp) (by rw [List.length_map]; exact lim1 (by omega)) fun x hx => ?_
        · rw [this, List.map_map, List.map_map]
          rfl
        · obtain ⟨l, hl, rfl⟩ := List.mem_map.mp hx
          obtain ⟨c, rfl⟩ := h1 l hl
          refine ⟨_, rfl, ?_⟩
          have : r.length + 1 ≤ LIM := lim1 (by omega)
          simp [addD, this]
      have hfl : (rs.flatMap fun r => ls.map fun l => r ++ l).length = rs.length * ls.length := by
        rw [List.length_flatMap]
        simp only [List.length_map]
        rw [List.map_const', List.sum_replicate_nat]
      have hm : rs.length * ls.length ≤ 1024 * 4 := Nat.mul_le_mul (by omega) h4
      refine p_ext (xs := (rs.flatMap fun r => ls.map fun l => r ++ l).map D.str) rfl c (by rw [List.length_map, hfl, List.length_map, List.length_map]; exact lim1 (by omega)) ⟨.inl rfl, rfl, rs ++ [r], by simp, ?_⟩
      simp
    · rintro sl g2 ⟨rfl, rs, ers, rfl⟩
      have ers' : Fr.stL ls pre.length = rs := (List.map_inj_right fun _ _ h => by cases h; rfl).mp ers
      subst ers'
      refine ⟨rfl, ?_⟩
      refine wp_frz (wp_asg (g1 := g2) (d := .lst ((Fr.stL ls (pre.length + 1)).map D.str)) (by simp [frz1, Fr.stL]) ⟨.inl rfl, rfl, ?_⟩)
      simp [frz1]
  · rintro sl g' ⟨rfl, rfl⟩
    refine ⟨rfl, ?_⟩
    rw [List.length_map, List.length_range]
    exact p_ret (d := .lst ((Fr.stL ls n).map D.str)) (by simp) ⟨.inl rfl, rfl⟩
theorem lets_len (h : WsOk ws) : (Fr.lets ws).length ≤ 4 := by
  have hnd : (Fr.lets ws).Nodup := (Fr.lets_ord ws).imp fun {a b} hab e => by subst e; exact lt_irr a hab
  have hsub : ∀ l ∈ Fr.lets ws, l ∈ ([[97], [98], [99], [100]] : List (List Nat)) := by
    intro l hl
    obtain ⟨c, rfl, w, hw, hc⟩ := Fr.lets_mem.mp hl
    have := mem4.mp ((h.each w hw).2.2 c hc)
    have : c = 97 ∨ c = 98 ∨ c = 99 ∨ c = 100 := by omega
    rcases this with rfl | rfl | rfl | rfl <;> simp
  have main : ∀ (l D : List (List Nat)), l.Nodup → (∀ x ∈ l, x ∈ D) → l.length ≤ D.length := by
    intro l
    induction l with
    | nil => intro D _ _; exact Nat.zero_le _
    | cons x l ih =>
      intro D h hs
      obtain ⟨h1, h2⟩ := List.nodup_cons.mp h
      have hx := hs x (by simp)
      have ih := ih (D.erase x) h2 fun y hy => (List.mem_erase_of_ne (fun e => h1 (by rw [← e]; exact hy))).mpr (hs y (by simp [hy]))
      rw [List.length_erase_of_mem hx] at ih
      have := List.length_pos_of_mem hx
      simp only [List.length_cons]
      omega
  exact main _ _ hnd hsub
theorem stamped_of_eq (h : WsOk ws) {n : Nat} (h1 : 1 ≤ n) (h5 : n ≤ 5) : f_stamped_of [Ww ws, .int n] g = some (.ok (.lst ((Fr.rowsL ws n).map D.str)), g) := by
  refine fn_rt (sl := [some (.d (Ww ws)), some (.d (.int n)), none]) rfl ?_
  unfold F_stamped_of
  refine p_drop (d := .non) (by simp [check_length_eq h h1 h5]) ?_
  have y1 := letters_eq (g := g) (ws := ws) (by have := h.flat; omega)
  have y2 := strings_eq (g := g) (Fr.lets_ones ws) (lets_len h) h5
  have num : (Fr.stL (Fr.lets ws) n).length ≤ 1024 := by
    rw [Fr.stL_num]
    exact Nat.le_trans (Nat.pow_le_pow_left (lets_len h) n) (Nat.le_trans (Nat.pow_le_pow_right (by omega) h5) (by decide))
  refine p_ret (d := .lst ((Fr.rowsL ws n).map D.str)) ?_ ⟨.inl rfl, rfl⟩
  have := comp_pure (it := iL (callM f_strings_of (aCons (callM f_letters_of (aCons (eV 0) aNil)) (aCons (eV 1) aNil)))) (vs := [2]) (tg := tg1 2) (cnd := tV (callM f_is_stamped (aCons (eV 0) (aCons (eV 2) aNil)))) (elt := eV 2) (sl := [some (.d (Ww ws)), some (.d (.int n)), none]) (g := g) (g1 := g) (ds := (Fr.stL (Fr.lets ws) n).map D.str) (fun d => match d with | .str r => Fr.stB ws r | _ => false) id (by simp [y1, y2]) (by rw [List.length_map]; exact lim1 (by omega)) fun d hd => ?_
  · rw [List.map_id, List.filter_map] at this
    exact this
  · obtain ⟨r, hr, rfl⟩ := List.mem_map.mp hd
    have hrl := Fr.stL_len (Fr.lets_ones ws) hr
    refine ⟨_, rfl, ?_, fun _ => by simp⟩
    have := is_stamped_eq (g := g) (ws := ws) (row := r) (by omega) h.len h.w100
    simp [this]
theorem rows_of_eq (h : WsOk ws) {n : Nat} (h1 : 1 ≤ n) (h5 : n ≤ 5) : f_rows_of [Ww ws, .int n] g = some (.ok (.tup ((Fr.rowsL ws n).map D.str)), g) := by
  refine fn_rt (sl := [some (.d (Ww ws)), some (.d (.int n))]) rfl ?_
  unfold F_rows_of
  exact p_ret (d := .tup ((Fr.rowsL ws n).map D.str)) (by simp [stamped_of_eq h h1 h5]) ⟨.inl rfl, rfl⟩
theorem count_rows_eq (h : WsOk ws) {n : Nat} (h1 : 1 ≤ n) (h5 : n ≤ 5) : f_count_rows [Ww ws, .int n] g = some (.ok (.int (Fr.rowsL ws n).length), g) := by
  refine fn_rt (sl := [some (.d (Ww ws)), some (.d (.int n))]) rfl ?_
  unfold F_count_rows
  exact p_ret (d := .int (Fr.rowsL ws n).length) (by simp [stamped_of_eq h h1 h5]) ⟨.inl rfl, rfl⟩
def missL (ws : List (List Nat)) (n : Nat) : Option (List Nat) := (Fr.stL (Fr.lets ws) n).find? fun r => !Fr.stB ws r
def optS : Option (List Nat) → D
  | none => .non
  | some s => .str s
theorem missing_eq (h : WsOk ws) {n : Nat} (h1 : 1 ≤ n) (h5 : n ≤ 5) : f_first_missing [Ww ws, .int n] g = some (.ok (optS (missL ws n)), g) := by
  refine fn_rt (sl := [some (.d (Ww ws)), some (.d (.int n)), none]) rfl ?_
  unfold F_first_missing
  refine p_drop (d := .non) (by simp [check_length_eq h h1 h5]) ?_
  have y1 := letters_eq (g := g) (ws := ws) (by have := h.flat; omega)
  have y2 := strings_eq (g := g) (Fr.lets_ones ws) (lets_len h) h5
  refine wp_seq2 (wp_find (g1 := g) D.str (xs := Fr.stL (Fr.lets ws) n) (fun r => !Fr.stB ws r) (fun r => .str r) (by simp [y1, y2]) ?_ ?_)
  · intro r hr
    have hrl := Fr.stL_len (Fr.lets_ones ws) hr
    refine ⟨_, rfl, ?_⟩
    have := is_stamped_eq (g := g) (ws := ws) (row := r) (by omega) h.len h.w100
    refine p_if (k := !Fr.stB ws r) (by simp [this]) (fun ht => ?_) (fun hf => ?_)
    · exact p_ret (d := .str r) (by simp) ⟨rfl, by rw [if_pos ht]⟩
    · exact wp_skip ⟨rfl, by rw [if_neg (by rw [hf]; decide)]; exact ⟨rfl, rfl⟩⟩
  · unfold missL
    cases (Fr.stL (Fr.lets ws) n).find? fun r => !Fr.stB ws r with
    | some r => exact fun sl' => .inr ⟨_, rfl, .inl rfl, rfl⟩
    | none => exact .inl ⟨rfl, p_ret (d := .non) (by simp) ⟨.inl rfl, rfl⟩⟩
end
end Lw
namespace DL
open PySem L2
theorem asIs_map {α : Type} (f : α → Int) (l : List α) : asIs (l.map fun x => .int (f x)) = some (l.map f) := by
  induction l with
  | nil => rfl
  | cons x l ih => simp [asIs, ih]
theorem sortedD_S (ss : List (List Nat)) : sortedD (.lst (ss.map D.str)) = some (.lst ((sortG leS ss).map D.str)) := by
  cases ss with
  | nil => rfl
  | cons s ss =>
    have e : asIs ((s :: ss).map D.str) = none := rfl
    simp only [sortedD, e, asSs_map, Option.map_some]
theorem sortG_mem {l : List (List Nat)} {s : List Nat} : s ∈ sortG leS l ↔ s ∈ l := (sortG_perm leS l).mem_iff
theorem sortG_strict {l : List (List Nat)} (h : l.Nodup) : (sortG leS l).Pairwise (· < ·) := by
  have h1 := sortG_ord leS_tot leS_tr l
  have h2 : (sortG leS l).Nodup := (sortG_perm leS l).symm.nodup h
  have := h1.and h2
  refine this.imp fun {a b} ⟨p, q⟩ => ?_
  rw [leS_iff] at p
  rcases lt_tri a b with z | z | z
  · exact z
  · exact absurd z q
  · exact absurd z p
theorem nodup_of_lt {l : List (List Nat)} (h : l.Pairwise (· < ·)) : l.Nodup := h.imp fun {a b} hab e => by subst e; exact lt_irr a hab
theorem sortU_self {l : List (List Nat)} (h : l.Pairwise (· < ·)) : sortU l = l := ord_uniq (sortU_ord l) h fun k => sortU_mem l k
theorem nodup_rev {l : List (List Nat)} (h : l.Nodup) : (l.map List.reverse).Nodup :=
  List.pairwise_map.mpr (h.imp fun {a b} hab e => hab (List.reverse_inj.mp e))
end DL
namespace Lw
open PySem L2 DL
/-! ### the law's loop -/
theorem law_turns {n : Int} {G : Type} {body : SM (Tw × G)} {vs : List Nat} {i : Nat} {sl0 : SL} {g : Tw × G} {a t q : Addr} (hn : -1000 ≤ n ∧ n ≤ 1000) (h0 : GOk a t q g.1)
    (H : ∀ (d : D) (g : Tw × G), GOk a t q g.1 → WP body (sl0.set i (some (.d d))) g fun fl sl2 g2 => (fl = .nx ∨ fl = .ct) ∧ wipeS sl2 vs = sl0 ∧ GOk a t q g2.1) :
    ∃ sl' g', (sSeq (sFor (iR1 (eC (.int n))) (tg1 i) vs body) (sRet (eC (.bl true)))) sl0 g = some (.rt (.bl true), sl', g') := by
  have : WP (sSeq (sFor (iR1 (eC (.int n))) (tg1 i) vs body) (sRet (eC (.bl true)))) sl0 g fun fl _ _ => fl = .rt (.bl true) := by
    refine wp_seq (wp_forI (g1 := g) (ds := rgD 0 n) (fun _ sl g => sl = sl0 ∧ GOk a t q g.1) (iR1_ap rfl hn.1 hn.2) ⟨rfl, h0⟩ ?_ ?_)
    · rintro pre d post sl g' _ ⟨rfl, ok⟩
      exact ⟨_, rfl, (H d g' ok).mono fun fl sl2 g2 h => h⟩
    · rintro sl g' ⟨rfl, ok⟩
      exact ⟨rfl, p_ret (d := .bl true) (by simp) rfl⟩
  obtain ⟨fl, sl', g', e, rfl⟩ := this
  exact ⟨sl', g', e⟩
theorem GOk.init (inn : Bool) (a : Addr) (ns : List Int) (t q : Addr) (hn : ns.length ≤ 63) : GOk a t q (lawG () inn a ns t q).1 := ⟨rfl, rfl, Int.le_refl _, hn, by simp [lawG], by simp [lawG]⟩
section
variable {G : Type} {g : G} {ws : List (List Nat)} {row : List Nat}
theorem letsABC : LetsOk [97, 98, 99] := by intro c hc; simp at hc; omega
theorem letsAB : LetsOk [97, 98] := by intro c hc; simp at hc; omega
/-! ### words and rows, plainly -/
theorem rows_nil (h : WsOk ws) {n : Nat} (h1 : 1 ≤ n) : Fr.rowsL ws n = [] ↔ ∀ w ∈ ws, n < w.length := by
  constructor
  · intro e w hw
    refine Classical.byContradiction fun hn => ?_
    have hp := h.pos w hw
    have : List.replicate (n - w.length) (w[0]'(by omega)) ++ w ∈ Fr.rowsL ws n := by
      refine Fr.rowsL_mem.mpr ⟨by rw [List.length_append, List.length_replicate]; omega, fun c hc => ⟨w, hw, ?_⟩, Fr.stB_iff.mpr (Fr.Stp.ex (S := (· ∈ ws)) hw (by omega) (by omega))⟩
      rcases List.mem_append.mp hc with z | z
      · rw [(List.mem_replicate.mp z).2]; exact List.getElem_mem _
      · exact z
    rw [e] at this
    cases this
  · intro hall
    refine List.eq_nil_iff_forall_not_mem.mpr fun s hs => ?_
    obtain ⟨e1, _, e2⟩ := Fr.rowsL_mem.mp hs
    obtain ⟨w, hw, hl⟩ := (Fr.stB_iff.mp e2).some_word (by omega)
    have := hall w hw
    omega
theorem rows_row (h : WsOk ws) {n : Nat} (h1 : 1 ≤ n) (h8 : n ≤ 8) {s : List Nat} (hs : s ∈ Fr.rowsL ws n) : RowOk s := by
  obtain ⟨e1, e2, _⟩ := Fr.rowsL_mem.mp hs
  refine ⟨by omega, by omega, fun c hc => ?_⟩
  obtain ⟨w, hw, hcw⟩ := e2 c hc
  exact (h.each w hw).2.2 c hcw
theorem strs_row (h : WsOk ws) {n : Nat} (h1 : 1 ≤ n) (h8 : n ≤ 8) {s : List Nat} (hs : s ∈ Fr.stL (Fr.lets ws) n) : RowOk s := by
  obtain ⟨e1, e2⟩ := (Fr.stL_mem (Fr.lets_ones ws) n s).mp hs
  refine ⟨by omega, by omega, fun c hc => ?_⟩
  obtain ⟨w, hw, hcw⟩ := Fr.lets_mem1.mp (e2 c hc)
  exact (h.each w hw).2.2 c hcw
theorem miss_none {n : Nat} : missL ws n = none ↔ (Fr.rowsL ws n).length = (Fr.lets ws).length ^ n := by
  unfold missL Fr.rowsL
  rw [List.find?_eq_none, ← Fr.stL_num, List.length_filter_eq_length_iff]
  constructor
  · intro h s hs
    have := h s hs
    simpa using this
  · intro h s hs
    rw [h s hs]; simp
theorem miss_some {n : Nat} {s : List Nat} (h : missL ws n = some s) : s ∈ Fr.stL (Fr.lets ws) n ∧ Fr.stB ws s = false := by
  unfold missL at h
  refine ⟨List.mem_of_find?_eq_some h, ?_⟩
  have := List.find?_some h
  simpa using this
theorem lets_words (h : WsOk ws) : WsOk (Fr.lets ws) := by
  refine ⟨?_, lets_len h, fun l hl => ?_, Fr.lets_ord ws⟩
  · obtain ⟨w, hw⟩ := List.exists_mem_of_length_pos (show 0 < ws.length by have := h.l0; omega)
    have hp := h.pos w hw
    have : [w[0]'(by omega)] ∈ Fr.lets ws := Fr.lets_mem1.mpr ⟨w, hw, List.getElem_mem _⟩
    exact List.length_pos_of_mem this
  · obtain ⟨c, rfl, w, hw, hc⟩ := Fr.lets_mem.mp hl
    refine ⟨by simp, by simp, fun d hd => ?_⟩
    rw [List.mem_singleton.mp hd]
    exact (h.each w hw).2.2 c hc
theorem miss_lets {n : Nat} : missL (Fr.lets ws) n = none := by
  unfold missL
  rw [List.find?_eq_none]
  intro s hs
  have h2 := ((Fr.stL_mem (Fr.lets_ones (Fr.lets ws)) n s).mp hs).2
  have : Fr.stB (Fr.lets ws) s = true := Fr.stB_iff.mpr (Fr.Stp.letters fun c hc => by
    obtain ⟨w, hw, hcw⟩ := Fr.lets_mem1.mp (h2 c hc)
    obtain ⟨d, rfl⟩ := Fr.lets_ones ws w hw
    rw [List.mem_singleton.mp hcw]
    exact hw)
  simp [this]
theorem rows_app {n m : Nat} {s t : List Nat} (hs : s ∈ Fr.rowsL ws n) (ht : t ∈ Fr.rowsL ws m) : s ++ t ∈ Fr.rowsL ws (n + m) := by
  obtain ⟨a1, a2, a3⟩ := Fr.rowsL_mem.mp hs
  obtain ⟨b1, b2, b3⟩ := Fr.rowsL_mem.mp ht
  refine Fr.rowsL_mem.mpr ⟨by rw [List.length_append]; omega, fun c hc => ?_, Fr.stB_iff.mpr ((Fr.stB_iff.mp a3).append (Fr.stB_iff.mp b3))⟩
  rcases List.mem_append.mp hc with z | z
  · exact a2 c z
  · exact b2 c z
theorem rows_more {ws' : List (List Nat)} (hs : ∀ w ∈ ws, w ∈ ws') {n : Nat} {s : List Nat} (h : s ∈ Fr.rowsL ws n) : s ∈ Fr.rowsL ws' n := by
  obtain ⟨a1, a2, a3⟩ := Fr.rowsL_mem.mp h
  exact Fr.rowsL_mem.mpr ⟨a1, fun c hc => let ⟨w, hw, q⟩ := a2 c hc; ⟨w, hs w hw, q⟩, Fr.stB_iff.mpr ((Fr.stB_iff.mp a3).mono fun w hw => hs w hw)⟩
/-- more words -/
def moreL (ws : List (List Nat)) (us : List (List Nat)) : List (List Nat) := sortU (ws ++ us)
theorem more_ok (h : WsOk ws) {u : List Nat} (hu : WordOk L4 4 u) (hl : (moreL ws [u]).length < 5) : WsOk (moreL ws [u]) := by
  refine ⟨?_, by omega, fun w hw => ?_, sortU_ord _⟩
  · exact sortU_pos _ (by simp)
  · rcases List.mem_append.mp ((sortU_mem _ _).mp hw) with z | z
    · exact h.each w z
    · rw [List.mem_singleton.mp z]; exact hu
theorem more_sub {us : List (List Nat)} {w : List Nat} (hw : w ∈ ws) : w ∈ moreL ws us := (sortU_mem _ _).mpr (List.mem_append_left _ hw)
theorem more_new {u : List Nat} : u ∈ moreL ws [u] := (sortU_mem _ _).mpr (by simp)
/-- turned words -/
def turnL (ws : List (List Nat)) : List (List Nat) := sortG leS (ws.map List.reverse)
theorem turn_mem {w : List Nat} : w ∈ turnL ws ↔ w.reverse ∈ ws := by
  unfold turnL
  rw [sortG_mem, List.mem_map]
  constructor
  · rintro ⟨v, hv, rfl⟩; rwa [List.reverse_reverse]
  · exact fun h => ⟨_, h, List.reverse_reverse w⟩
theorem turn_ok (h : WsOk ws) : WsOk (turnL ws) := by
  have hl : (turnL ws).length = ws.length := by rw [turnL, (sortG_perm leS _).length_eq, List.length_map]
  refine ⟨by rw [hl]; exact h.l0, by rw [hl]; exact h.l1, fun w hw => ?_, sortG_strict (nodup_rev (nodup_of_lt h.ord))⟩
  have := h.each _ (turn_mem.mp hw)
  refine ⟨by have := this.1; rwa [List.length_reverse] at this, by have := this.2.1; rwa [List.length_reverse] at this, fun c hc => this.2.2 c (List.mem_reverse.mpr hc)⟩
theorem turn_stB {s : List Nat} : Fr.stB (turnL ws) s = Fr.stB ws s.reverse := by
  rw [Bool.eq_iff_iff, Fr.stB_iff, Fr.stB_iff]
  constructor
  · intro h
    exact h.rev fun w hw => turn_mem.mp hw
  · intro h
    have := h.rev (S' := (· ∈ turnL ws)) fun w hw => turn_mem.mpr (by rwa [List.reverse_reverse])
    rwa [List.reverse_reverse] at this
theorem turn_shB {s : List Nat} : Fr.shB (turnL ws) s = Fr.shB ws s.reverse := by
  rw [Bool.eq_iff_iff, Fr.shB_iff, Fr.shB_iff]
  constructor
  · intro h
    exact h.rev fun w hw => turn_mem.mp hw
  · intro h
    have := h.rev (S' := (· ∈ turnL ws)) fun w hw => turn_mem.mpr (by rwa [List.reverse_reverse])
    rwa [List.reverse_reverse] at this
theorem turn_rows {n : Nat} : Fr.rowsL (turnL ws) n = sortG leS ((Fr.rowsL ws n).map List.reverse) := by
  refine ord_uniq (Fr.rowsL_ord _ _) (sortG_strict (nodup_rev (nodup_of_lt (Fr.rowsL_ord _ _)))) fun s => ?_
  rw [sortG_mem, List.mem_map, Fr.rowsL_mem, turn_stB]
  constructor
  · rintro ⟨a1, a2, a3⟩
    refine ⟨s.reverse, Fr.rowsL_mem.mpr ⟨by rw [List.length_reverse]; exact a1, fun c hc => ?_, a3⟩, List.reverse_reverse s⟩
    obtain ⟨w, hw, q⟩ := a2 c (List.mem_reverse.mp hc)
    exact ⟨w.reverse, turn_mem.mp hw, List.mem_reverse.mpr q⟩
  · rintro ⟨r, hr, rfl⟩
    obtain ⟨a1, a2, a3⟩ := Fr.rowsL_mem.mp hr
    refine ⟨by rw [List.length_reverse]; exact a1, fun c hc => ?_, by rw [List.reverse_reverse]; exact a3⟩
    obtain ⟨w, hw, q⟩ := a2 c (List.mem_reverse.mp hc)
    exact ⟨w.reverse, turn_mem.mpr (by rwa [List.reverse_reverse]), List.mem_reverse.mpr q⟩
theorem rows_num (h : WsOk ws) {n : Nat} (hn : n ≤ 4) : (Fr.rowsL ws n).length ≤ 256 := by
  refine Nat.le_trans (List.length_filter_le _ _) ?_
  rw [Fr.stL_num]
  exact Nat.le_trans (Nat.pow_le_pow_left (lets_len h) n) (Nat.le_trans (Nat.pow_le_pow_right (by omega) hn) (by decide))
theorem rows_num5 (h : WsOk ws) {n : Nat} (hn : n ≤ 5) : (Fr.rowsL ws n).length ≤ 1024 := by
  refine Nat.le_trans (List.length_filter_le _ _) ?_
  rw [Fr.stL_num]
  exact Nat.le_trans (Nat.pow_le_pow_left (lets_len h) n) (Nat.le_trans (Nat.pow_le_pow_right (by omega) hn) (by decide))
/-! ### lengths -/
def minLen (ws : List (List Nat)) : Int := match ws with
  | [] => 0
  | w :: r => minI (w.length : Int) (r.map fun w => (w.length : Int))
def maxLen (ws : List (List Nat)) : Int := match ws with
  | [] => 0
  | w :: r => maxI (w.length : Int) (r.map fun w => (w.length : Int))
theorem minLen_eq (h : ws ≠ []) : minD (.lst (ws.map fun w => .int (w.length : Int))) = some (.int (minLen ws)) := by
  obtain ⟨w, r, rfl⟩ := List.exists_cons_of_ne_nil h
  simp only [minD, asIs_map, Option.bind_some]
  rfl
theorem maxLen_eq (h : ws ≠ []) : maxD (.lst (ws.map fun w => .int (w.length : Int))) = some (.int (maxLen ws)) := by
  obtain ⟨w, r, rfl⟩ := List.exists_cons_of_ne_nil h
  simp only [maxD, asIs_map, Option.bind_some]
  rfl
theorem minLen_lt (h : ws ≠ []) (n : Nat) : (n : Int) < minLen ws ↔ ∀ w ∈ ws, n < w.length := by
  obtain ⟨w, r, rfl⟩ := List.exists_cons_of_ne_nil h
  obtain ⟨q1, q2, q3⟩ := minI_spec (r.map fun w => (w.length : Int)) (w.length : Int)
  show (n : Int) < minI _ _ ↔ _
  constructor
  · intro hn v hv
    rcases List.mem_cons.mp hv with rfl | hv
    · omega
    · have := q3 _ (List.mem_map.mpr ⟨v, hv, rfl⟩)
      omega
  · intro hall
    rcases q1 with q | q
    · rw [q]; have := hall w (by simp); omega
    · obtain ⟨v, hv, e⟩ := List.mem_map.mp q
      have := hall v (by simp [hv])
      omega
theorem maxLen_spec (h : ws ≠ []) : (∃ w ∈ ws, maxLen ws = (w.length : Int)) ∧ ∀ w ∈ ws, (w.length : Int) ≤ maxLen ws := by
  obtain ⟨w, r, rfl⟩ := List.exists_cons_of_ne_nil h
  obtain ⟨q1, q2, q3⟩ := maxI_spec (r.map fun w => (w.length : Int)) (w.length : Int)
  show (∃ v ∈ w :: r, maxI _ _ = _) ∧ ∀ v ∈ w :: r, _ ≤ maxI _ _
  refine ⟨?_, fun v hv => ?_⟩
  · rcases q1 with q | q
    · exact ⟨w, by simp, q⟩
    · obtain ⟨v, hv, e⟩ := List.mem_map.mp q
      exact ⟨v, by simp [hv], e.symm⟩
  · rcases List.mem_cons.mp hv with rfl | hv
    · exact q2
    · exact q3 _ (List.mem_map.mpr ⟨v, hv, rfl⟩)
theorem lens_comp {sl : SL} {i j : Nat} (h1 : sl[i]? = some (some (.d (Ww ws)))) (hj : j < sl.length) (hij : i ≠ j) (hw : ws.length ≤ 1000) : eComp (iT (eV i)) [j] (tg1 j) tYesM (e1 lenD (eV j)) sl g = some (.ok (.lst (ws.map fun w => .int (w.length : Int))), g) := by
  have := comp_map (it := iT (eV i)) (vs := [j]) (tg := tg1 j) (elt := e1 lenD (eV j)) (sl := sl) (g := g) (g1 := g) (ds := ws.map D.str) (fun d => match d with | .str w => .int (w.length : Int) | _ => .non) (by simp [h1, Ww]) (by rw [List.length_map]; exact lim1 (by omega)) fun d hd => ?_
  · rw [List.map_map] at this
    exact this
  · obtain ⟨w, hw, rfl⟩ := List.mem_map.mp hd
    refine ⟨_, rfl, ?_⟩
    simp [hj]
/-! ### words made of words -/
theorem more_ev {sl : SL} {i : Nat} {f : M G D} {u : List Nat} (h1 : sl[i]? = some (some (.d (Ww ws)))) (h2 : f sl g = some (.ok (.str u), g)) (hl : ws.length ≤ 100) : e1 tupD (e1 sortSetD (e2 addD (eV i) (eTup (aCons f aNil)))) sl g = some (.ok (Ww (moreL ws [u])), g) := by
  have am : addD (Ww ws) (.tup [.str u]) = some (.tup ((ws ++ [u]).map D.str)) := by
    have : ws.length + 1 ≤ LIM := lim1 (by omega)
    simp [addD, Ww, this]
  have sm : sortSetD (.tup ((ws ++ [u]).map D.str)) = some (.lst ((moreL ws [u]).map D.str)) := by
    have : (ws ++ [u]).length < 1000 := by rw [List.length_append]; simp; omega
    simp only [sortSetD, asSs_map, Option.bind_some, if_pos this]
    rfl
  have L1 : (1 : Nat) ≤ LIM := lim1 (by omega)
  simp only [e1_ap, e2_ap, eV_ap, h1, slotK_d, bindK_ok, bind_ap, eTup_ap, aCons_ap, h2, aNil_ap, pure_ap, lift_ap, List.length_cons, List.length_nil, Nat.zero_add, if_pos L1, liftK_some, am, sm, tupD_lst]
  rfl
theorem revs_ev {sl : SL} {i j : Nat} {l : List (List Nat)} (h1 : sl[i]? = some (some (.d (.tup (l.map D.str))))) (hj : j < sl.length) (hl : l.length ≤ 2000) : e1 tupD (e1 sortedD (eComp (iT (eV i)) [j] (tg1 j) tYesM (e1 revSD (eV j)))) sl g = some (.ok (.tup ((sortG leS (l.map List.reverse)).map D.str)), g) := by
  have cr := comp_map (it := iT (eV i)) (vs := [j]) (tg := tg1 j) (elt := e1 revSD (eV j)) (sl := sl) (g := g) (g1 := g) (ds := l.map D.str) (fun d => match d with | .str w => .str w.reverse | _ => .non) (by simp [h1]) (by rw [List.length_map]; exact lim1 (by omega)) (fun x hx => by
    obtain ⟨w, hw, rfl⟩ := List.mem_map.mp hx
    exact ⟨_, rfl, by simp [revSD, hj]⟩)
  have er : (l.map D.str).map (fun d => match d with | .str w => .str w.reverse | _ => .non) = (l.map List.reverse).map D.str := by
    rw [List.map_map, List.map_map]; rfl
  rw [er] at cr
  simp only [e1_ap, cr, bindK_ok, lift_ap, sortedD_S, liftK_some, tupD_lst]
theorem turn_ev {sl : SL} {i j : Nat} (h1 : sl[i]? = some (some (.d (Ww ws)))) (hj : j < sl.length) (hl : ws.length ≤ 2000) : e1 tupD (e1 sortedD (eComp (iT (eV i)) [j] (tg1 j) tYesM (e1 revSD (eV j)))) sl g = some (.ok (Ww (turnL ws)), g) := revs_ev h1 hj hl
end
end Lw
namespace DL
open PySem L2
theorem sortG_map {α β : Type} (f : α → β) (le : α → α → Bool) (le' : β → β → Bool) (h : ∀ a b, le' (f a) (f b) = le a b) (l : List α) : sortG le' (l.map f) = (sortG le l).map f := by
  induction l with
  | nil => rfl
  | cons x l ih =>
    show insG le' (f x) (sortG le' (l.map f)) = (insG le x (sortG le l)).map f
    rw [ih]
    generalize sortG le l = r
    induction r with
    | nil => rfl
    | cons y r ih2 =>
      show (if le' (f x) (f y) = true then _ else _) = List.map f (if le x y = true then _ else _)
      rw [h]
      split
      · rfl
      · rw [List.map_cons, ← ih2]
theorem sortedD_N (l : List Nat) : sortedD (.tup (l.map fun i => D.int (i : Nat))) = some (.lst ((Fr.sortN l).map fun i => D.int (i : Nat))) := by
  show (asIs (l.map fun i => D.int (i : Nat))).map _ = _
  rw [asIs_map (fun i : Nat => (i : Int)) l]
  show some (D.lst ((sortG leI (l.map fun i : Nat => (i : Int))).map D.int)) = _
  rw [sortG_map (fun i : Nat => (i : Int)) Fr.leN leI (fun a b => by simp [leI, Fr.leN]) l, List.map_map]; rfl
section
variable {G : Type} {sl : SL} {g g1 : G} {Q : Fl → SL → G → Prop} {i j : Nat}
theorem p_pop0 {f2 : SM G} {d : D} {xs : List D} (h : sl[i]? = some (some (.oL (d :: xs)))) (k : WP f2 ((sl.set i (some (.oL xs))).set j (some (.d d))) g Q) : WP (sSeq (sPop0 j i) f2) sl g Q := by
  refine wp_seq ⟨.nx, _, _, ?_, rfl, k⟩
  unfold sPop0
  rw [h]
theorem mT_ap {kvs : List (List DKey × D)} (h : sl[i]? = some (some (.oT kvs))) : mT i sl g = some (.ok kvs, g) := by unfold mT; rw [h]
@[simp] theorem eTGet_ap {f : M G D} : eTGet i f sl g = bindK (mT i sl g) (fun kvs => M.bind f fun k => M.lift ((keyT k).bind (dGet kvs))) sl := rfl
@[simp] theorem eTNin_ap {f : M G D} : eTNin i f sl g = bindK (f sl g) (fun k => M.bind (mT i) fun kvs => M.lift ((keyT k).map fun k => .bl (!(dGet kvs k).isSome))) sl := rfl
theorem wp_whileR {c : M G Bool} {vs : List Nat} {b : SM G} {n : Nat} (e : c sl g = some (.ok true, g1)) (k : WP b sl g1 fun fl sl2 g2 => (fl = .nx ∧ WP (sWhile c vs b n) (wipeS sl2 vs) g2 Q) ∨ ∃ d, fl = .rt d ∧ Q (.rt d) sl2 g2) : WP (sWhile c vs b (n + 1)) sl g Q := by
  obtain ⟨fl, sl2, g2, h1, h⟩ := k
  rcases h with ⟨rfl, x, y, z, h2, q⟩ | ⟨d, rfl, q⟩
  · refine ⟨x, y, z, ?_, q⟩
    unfold sWhile
    rw [do_ap, e, doK_ok, if_pos rfl]
    simp only [h1]
    exact h2
  · refine ⟨.rt d, sl2, g2, ?_, q⟩
    unfold sWhile
    rw [do_ap, e, doK_ok, if_pos rfl]
    simp only [h1]
theorem p_tput {fk fv : M G D} {f2 : SM G} {kvs : List (List DKey × D)} {k v : D} {ks : List DKey} (h : sl[i]? = some (some (.oT kvs))) (e1 : fv sl g = some (.ok v, g)) (e2 : fk sl g = some (.ok k, g)) (e3 : keyT k = some ks) (hl : kvs.length < LIM) (c : WP f2 (sl.set i (some (.oT (dPut kvs ks v)))) g Q) : WP (sSeq (sTPut i fk fv) f2) sl g Q := by
  refine wp_seq ⟨.nx, _, _, ?_, rfl, c⟩
  unfold sTPut sOwnT
  rw [h]
  simp only
  rw [do_ap, e1, doK_ok, do_ap, e2, doK_ok]
  unfold sMutT
  rw [h]
  simp only [e3, Option.bind_some, hl, if_true]
end
end DL
namespace Lw
open PySem L2 DL
def kyD (k : Fr.Key) : D := .tup (k.map nD)
def kyO (k : Fr.Key) : List DKey := k.map fun b : Nat => (.inl (b : Int) : DKey)
def kvD (e : Fr.Key × List Fr.St) : List DKey × D := (kyO e.1, .tup (e.2.map Sdi))
theorem kyO_inj {a b : Fr.Key} (h : kyO a = kyO b) : a = b := by
  unfold kyO at h
  refine (List.map_inj_right fun x y hxy => ?_).mp h
  have : (x : Int) = (y : Int) := by injection hxy
  omega
theorem keyT_ky (k : Fr.Key) : keyT (kyD k) = some (kyO k) := by
  show keysD (k.map nD) = some (kyO k)
  induction k with
  | nil => rfl
  | cons b k ih =>
    show (keyD (nD b)).bind (fun x => (keysD (k.map nD)).map (x :: ·)) = _
    rw [ih]; rfl
theorem dGet_kn {k : Fr.Key} {p : List Fr.St} : ∀ {kn : Fr.Kn}, (kn.map (·.1)).Nodup → (k, p) ∈ kn → dGet (kn.map kvD) (kyO k) = some (.tup (p.map Sdi))
  | e :: kn, nd, h => by
    rw [List.map_cons, List.nodup_cons] at nd
    show (((kvD e :: kn.map kvD).find? fun q => decide (q.1 = kyO k)).map (·.2)) = _
    rcases List.mem_cons.mp h with rfl | h
    · rw [List.find?_cons]
      simp [kvD]
    · have hne : e.1 ≠ k := fun z => nd.1 (List.mem_map.mpr ⟨(k, p), h, z.symm⟩)
      have : decide ((kvD e).1 = kyO k) = false := decide_eq_false fun z => hne (kyO_inj z)
      rw [List.find?_cons, this]
      exact dGet_kn nd.2 h
theorem dGet_no {k : Fr.Key} : ∀ {kn : Fr.Kn}, k ∉ kn.map (·.1) → dGet (kn.map kvD) (kyO k) = none
  | [], _ => rfl
  | e :: kn, h => by
    rw [List.map_cons, List.mem_cons, not_or] at h
    show (((kvD e :: kn.map kvD).find? fun q => decide (q.1 = kyO k)).map (·.2)) = _
    have : decide ((kvD e).1 = kyO k) = false := decide_eq_false fun z => h.1 (kyO_inj z).symm
    rw [List.find?_cons, this]
    exact dGet_no h.2
theorem dPut_no {k : Fr.Key} {p : List Fr.St} {kn : Fr.Kn} (h : k ∉ kn.map (·.1)) : dPut (kn.map kvD) (kyO k) (.tup (p.map Sdi)) = (kn ++ [(k, p)]).map kvD := by
  unfold dPut
  rw [if_neg, List.map_append]
  · rfl
  · rw [Bool.not_eq_true, List.any_eq_false]
    intro q hq
    obtain ⟨e, he, rfl⟩ := List.mem_map.mp hq
    simp only [decide_eq_true_eq]
    exact fun z => h (List.mem_map.mpr ⟨e, he, kyO_inj z⟩)
section
variable {G : Type} {g : G} {ws : List (List Nat)} {row : List Nat}
/-- what is found: nothing, where nothing leads to all boxes; else a shortest run -/
def Found (ws : List (List Nat)) (row : List Nat) (d : D) : Prop :=
  (d = .non ∧ ∀ ss : List Fr.St, (∀ s ∈ ss, Fr.On ws 0 row.length s) → (Fr.runP ws row [] ss).length ≠ row.length) ∨
  ∃ (p : List Fr.St) (k : Fr.Key), d = .tup (p.reverse.map Sdi) ∧ Fr.Pth ws row p k ∧ k.length = row.length ∧ ∀ ss : List Fr.St, (∀ s ∈ ss, Fr.On ws 0 row.length s) → (Fr.runP ws row [] ss).length = row.length → p.length ≤ ss.length
theorem found_way_ex (h1 : 1 ≤ row.length) (h8 : row.length ≤ 8) (hw : ws.length ≤ 20) (hl : ∀ w ∈ ws, w.length ≤ 100) (g : G) : ∃ d, Found ws row d ∧ f_found_way [Ww ws, .str row] g = some (.ok d, g) := by
  have hSS : ∀ s, s ∈ Fr.stOn 0 (row.length : Int) 0 ws ↔ Fr.On ws 0 row.length s := fun s => Fr.stOn_on
  have h256 : 2 ^ row.length ≤ 256 := Nat.le_trans (Nat.pow_le_pow_right (by omega) h8) (by decide)
  have L1 : (1 : Nat) ≤ LIM := lim1 (by omega)
  have hso := stamps_on_eq (g := g) (ws := ws) (lo := 0) (hi := row.length) (by omega) (by omega) (by omega) (by omega) hw hl
  have main : ∀ (N : Nat) (kn : Fr.Kn) (wt : List Fr.Key), Fr.BInv ws row (Fr.stOn 0 (row.length : Int) 0 ws) kn wt → 2 ^ row.length + wt.length < N + kn.length →
      WP (sWhile (tV (e2 neD (eR 3) (eLst aNil))) [4, 5, 6, 7] (sSeq (sPop0 4 3)
    (sSeq (sIf (tV (e2 eqD (e1 lenD (eV 4)) (e1 lenD (eV 1)))) (sRet (e1 revTD (eTGet 2 (eV 4)))) sSkip)
    (sFor (iL (callM f_stamps_on (aCons (eV 0) (aCons (eC (.int 0)) (aCons (e1 lenD (eV 1)) aNil))))) (tg1 5) [5, 6, 7] (sSeq (sAsg 6 (xD (callM f_freed_by (aCons (eV 0) (aCons (eV 1) (aCons (eV 4) (aCons (eV 5) aNil)))))))
    (sSeq (sAsg 7 (xD (e1 tupD (e1 sortedD (e2 addD (eV 4) (e1 tupD (eV 6)))))))
    (sIf (tV (eTNin 2 (eV 7))) (sSeq (sTPut 2 (eV 7) (e2 addD (eTGet 2 (eV 4)) (eTup (aCons (eV 5) aNil))))
    (sApp 3 (eV 7))) sSkip)))))) N) [some (.d (Ww ws)), some (.d (.str row)), some (.oT (kn.map kvD)), some (.oL (wt.map kyD)), none, none, none, none] g (fun fl _ g' => g' = g ∧ ((fl = .nx ∧ Found ws row .non) ∨ ∃ d, fl = .rt d ∧ Found ws row d)) := by
    intro N
    induction N with
    | zero =>
      intro kn wt B hN
      have := B.few
      omega
    | succ N ih =>
      intro kn wt B hN
      have few := B.few
      cases wt with
      | nil =>
        exact wp_while0 (g1 := g) (by simp) ⟨rfl, .inl ⟨rfl, .inl ⟨rfl, fun ss hs => B.none ss fun s h => (hSS s).mpr (hs s h)⟩⟩⟩
      | cons k wt =>
        obtain ⟨p, hp⟩ := B.wk k (by simp)
        have hkl : lenD (kyD k) = some (.int k.length) := by simp [kyD]
        have htest : neD (.lst ((k :: wt).map kyD)) (.lst []) = some (.bl true) := by
          show (if _ then _ else _) = _
          rw [if_pos]
          · rfl
          · rw [Bool.and_eq_true]
            refine ⟨flats_all2 fun x hx => ?_, rfl⟩
            obtain ⟨y, _, rfl⟩ := List.mem_map.mp hx
            exact flats_nat y
        simp only [List.map_cons] at htest
        by_cases hfull : k.length = row.length
        · have hget := dGet_kn B.nd hp
          refine wp_whileR (g1 := g) (by simp [htest]) (p_pop0 rfl (wp_seq2 (p_if (k := true) (by simp [hkl, hfull]) (fun _ => ?_) (by intro h; cases h))))
          refine p_ret (d := .tup (p.reverse.map Sdi)) ?_ (.inr ⟨_, rfl, .inr ⟨_, rfl, rfl, .inr ⟨_, rfl, .inr ⟨p, k, rfl, B.path _ hp, hfull, fun ss hs hf => B.least hp ss (fun s h => (hSS s).mpr (hs s h)) hf⟩⟩⟩⟩)
          have e1 : mT 2 ([some (.d (Ww ws)), some (.d (.str row)), some (.oT (kn.map kvD)), some (.oL (wt.map kyD)), some (.d (kyD k)), none, none, none] : SL) g = some (.ok (kn.map kvD), g) := mT_ap rfl
          have hrev : revTD (.tup (p.map Sdi)) = some (.tup (p.reverse.map Sdi)) := by simp [revTD]
          simp [e1, keyT_ky, hget, hrev]
        · have M0 := B.pop hp hfull
          refine wp_whileR (g1 := g) (by simp [htest]) (p_pop0 rfl (p_not (by simp [hkl]; omega) ?_))
          refine wp_forI (g1 := g) (ds := (Fr.stOn 0 (row.length : Int) 0 ws).map Sdi) (fun pre sl g' => g' = g ∧ ∃ S kn' wt', pre = S.map Sdi ∧ Fr.MInv ws row (Fr.stOn 0 (row.length : Int) 0 ws) k p S kn' wt' ∧ kn'.length + wt.length = kn.length + wt'.length ∧ sl = [some (.d (Ww ws)), some (.d (.str row)), some (.oT (kn'.map kvD)), some (.oL (wt'.map kyD)), some (.d (kyD k)), none, none, none]) (by simp [hso]) ⟨rfl, [], kn, wt, rfl, M0, rfl, rfl⟩ ?_ ?_
          · rintro pre x post sl g' hx ⟨rfl, S, kn', wt', rfl, M, hc, rfl⟩
            obtain ⟨l1', l2', q1, q2, q3⟩ := List.map_eq_append_iff.mp hx
            obtain ⟨s, l3, rfl, rfl, q5⟩ := List.map_eq_cons_iff.mp q3
            have hs : Fr.On ws 0 row.length s := (hSS s).mp (by rw [q1]; simp)
            have Mk : Fr.KeyOk row.length k := (M.path _ M.kin).key
            have hb := freed_by_eq (g := g') (row := row) (x := kyD k) (free := k) (.inr rfl) hs.1 (hl _ (by
              unfold Fr.wd
              rw [List.getD_eq_getElem?_getD, List.getElem?_eq_getElem hs.1]
              exact List.getElem_mem _))
            refine ⟨_, rfl, ?_⟩
            refine p_asg (d := .lst ((Fr.frBy ws row k s).map nD)) (by simp [hb]) ?_
            have hlen : k.length + (Fr.frBy ws row k s).length ≤ LIM := by
              have := Fr.nd_lt (Fr.lt_nodup (Fr.nxt_ok (ws := ws) (s := s) Mk).ord) (Fr.nxt_ok (ws := ws) (s := s) Mk).lt
              rw [Fr.nxt_len Mk] at this
              exact lim1 (by omega)
            have ea : addD (kyD k) (.tup ((Fr.frBy ws row k s).map nD)) = some (.tup ((k ++ Fr.frBy ws row k s).map nD)) := by
              show (if _ then _ else _) = _
              rw [if_pos (by rw [List.length_map, List.length_map]; exact hlen), List.map_append]
            have es : sortedD (.tup ((k ++ Fr.frBy ws row k s).map nD)) = some (.lst ((Fr.nxt ws row k s).map nD)) := sortedD_N (k ++ Fr.frBy ws row k s)
            refine p_asg (d := kyD (Fr.nxt ws row k s)) (by simp only [e1_ap, e2_ap, eV_ap, bind_ap, bindK_ok, lift_ap, liftK_some, slotK_d, List.set_cons_succ, List.set_cons_zero, List.getElem?_cons_succ, List.getElem?_cons_zero, tupD_lst, ea, es]; rfl) ?_
            simp only [List.set_cons_succ, List.set_cons_zero]
            have emT : ∀ x5 x6 x7 : Option Slot, mT 2 ([some (.d (Ww ws)), some (.d (.str row)), some (.oT (kn'.map kvD)), some (.oL (wt'.map kyD)), some (.d (kyD k)), x5, x6, x7] : SL) g' = some (.ok (kn'.map kvD), g') := fun _ _ _ => mT_ap rfl
            by_cases hin : Fr.nxt ws row k s ∈ kn'.map (·.1)
            · obtain ⟨e, he, ee⟩ := List.mem_map.mp hin
              have he' : (Fr.nxt ws row k s, e.2) ∈ kn' := by rw [← ee]; exact he
              have hg := dGet_kn M.nd he'
              refine p_not1 (by simp [keyT_ky, emT, hg]) ⟨.inl rfl, rfl, S ++ [s], kn', wt', by simp, M.old he', hc, rfl⟩
            · have hg := dGet_no hin
              have hgk := dGet_kn M.nd M.kin
              have Mn := M.new hs hin
              have hp8 : p.length ≤ 8 := by
                have := (M.path _ M.kin).len
                have := Fr.nd_lt (Fr.lt_nodup Mk.ord) Mk.lt
                simp only at *
                omega
              have hkn : kn'.length ≤ 256 := by
                have := Fr.nd_le2 (kn'.map (·.1)) (Fr.subs row.length) M.nd fun k hk => by
                  obtain ⟨e, he, rfl⟩ := List.mem_map.mp hk
                  exact Fr.subs_mem _ (M.path e he).key
                rw [List.length_map, Fr.subs_len] at this
                omega
              have hwt : wt'.length ≤ 256 := by
                have := Fr.nd_le2 wt' (kn'.map (·.1)) M.wnd fun k hk => by
                  obtain ⟨p, hp⟩ := M.wk k hk
                  exact List.mem_map.mpr ⟨_, hp, rfl⟩
                rw [List.length_map] at this
                omega
              have ep : addD (.tup (p.map Sdi)) (.tup [Sdi s]) = some (.tup ((p ++ [s]).map Sdi)) := by
                show (if _ then _ else _) = _
                rw [if_pos (by rw [List.length_map]; exact lim1 (by simp; omega)), List.map_append]; rfl
              refine p_if (k := true) (by simp [keyT_ky, emT, hg]) (fun _ => ?_) (by intro h; cases h)
              refine p_tput (kvs := kn'.map kvD) (k := kyD (Fr.nxt ws row k s)) (v := .tup ((p ++ [s]).map Sdi)) rfl (by simp [emT, keyT_ky, hgk, L1, ep]) (by simp) (keyT_ky _) (by rw [List.length_map]; exact lim2 (by omega)) ?_
              rw [dPut_no hin]
              refine p_app (xs := wt'.map kyD) (d := kyD (Fr.nxt ws row k s)) rfl (by simp) (by rw [List.length_map]; exact lim2 (by omega)) ⟨.inl rfl, rfl, S ++ [s], _, _, by simp, Mn, by simp; omega, by simp⟩
          · rintro sl g' ⟨rfl, S, kn', wt', hS, M, hc, rfl⟩
            have hS' : Fr.stOn 0 (row.length : Int) 0 ws = S := by
              refine (List.map_inj_right fun a b h => ?_).mp hS
              unfold Sdi at h
              simp at h
              exact Prod.ext (by omega) h.2
            subst hS'
            have r := ih kn' wt' M.fin (by simp only [List.length_cons] at hN; omega)
            refine .inl ⟨rfl, ?_⟩
            simp only [wipe_cons, wipe_nil, List.set_cons_succ, List.set_cons_zero]
            exact r
  have hne : row ≠ [] := fun e => by rw [e] at h1; simp at h1
  have m0 := main 1000 [([], [])] [[]] (Fr.binv0 _ hne) (by simp; omega)
  have : WP F_found_way [some (.d (Ww ws)), some (.d (.str row)), none, none, none, none, none, none] g (fun fl _ g' => g' = g ∧ ∃ d, fl = .rt d ∧ Found ws row d) := by
    unfold F_found_way
    refine wp_seq ⟨.nx, [some (.d (Ww ws)), some (.d (.str row)), some (.oT [([], .tup [])]), some (.oL [.tup []]), none, none, none, none], g, ?_, rfl, ?_⟩
    · simp [xTnew, L1, keyT, keysD]
    · refine wp_seq2 (m0.mono fun fl sl' g' h => ?_)
      obtain ⟨rfl, h⟩ := h
      rcases h with ⟨rfl, h⟩ | ⟨d, rfl, h⟩
      · exact .inl ⟨rfl, p_ret (d := .non) (by simp) ⟨rfl, _, rfl, h⟩⟩
      · exact .inr ⟨d, rfl, rfl, d, rfl, h⟩
  obtain ⟨fl, sl', g', e, rfl, d, rfl, h⟩ := this
  exact ⟨d, h, fn_rt (sl := [some (.d (Ww ws)), some (.d (.str row)), none, none, none, none, none, none]) rfl ⟨_, _, _, e, .inl rfl, rfl⟩⟩
end
end Lw
namespace Fr
theorem run_free {ws : Ws} {row : List Nat} : ∀ (p : List St) (k : Key), (∀ s ∈ p, On ws 0 row.length s) → (∀ b ∈ k, Free ws row 0 b) → ∀ b ∈ runP ws row k p, Free ws row 0 b
  | [], k, _, h => h
  | s :: p, k, hs, h => by
    refine run_free p (nxt ws row k s) (fun t ht => hs t (by simp [ht])) fun b hb => ?_
    rcases nxt_mem.mp hb with z | z
    · exact h b z
    · obtain ⟨h1, h2, ⟨c, h3⟩, h4⟩ := frBy_mem z
      exact .mk s (by simpa using hs s (by simp)) h3 h1 fun b' c' q1 q2 q3 => h b' (h4 b' c' q1 q2 q3)
end Fr
namespace Lw
open PySem L2 DL
section
variable {G : Type} {g : G} {ws : List (List Nat)} {row : List Nat} {B : Nat}
def toI (s : Nat × Nat) : Fr.St := (s.1, (s.2 : Int))
def toN (s : Fr.St) : Nat × Nat := (s.1, s.2.toNat)
theorem wd_at (n : Nat) : Fr.wd ws n = wordAt ws n := rfl
theorem cv_toI (s : Nat × Nat) (b : Nat) : Fr.cv ws (toI s) b = cov ws s b := by
  unfold Fr.cv cov toI
  simp only [wd_at]
  by_cases h : s.2 ≤ b
  · rw [if_pos (by omega), if_pos h]; congr 1; omega
  · rw [if_neg (by omega), if_neg h]
theorem toI_toN {s : Fr.St} (h : 0 ≤ s.2) : toI (toN s) = s := by
  unfold toI toN
  obtain ⟨a, b⟩ := s
  simp only at h ⊢
  congr 1
  omega
theorem on_st {s : Nat × Nat} : Fr.On ws 0 B (toI s) ↔ StOk ws B s := by
  unfold Fr.On StOk toI
  simp only [wd_at]
  constructor
  · rintro ⟨h1, h2, h3⟩; exact ⟨h1, by omega⟩
  · rintro ⟨h1, h2⟩; exact ⟨h1, by omega, by omega⟩
theorem Sdi_toN {s : Fr.St} (h : 0 ≤ s.2) : Sdi s = Sd (toN s) := by
  show D.tup [.int s.1, .int s.2] = D.tup [.int s.1, .int ((s.2.toNat : Nat) : Int)]
  rw [Int.toNat_of_nonneg h]
/-- a way: stamps after which the row is seen -/
def Way (ws : List (List Nat)) (row : List Nat) (ss : Sts) : Prop := (∀ s ∈ ss, StOk ws row.length s) ∧ seenL ws row.length ss = row
theorem way_at {ss : Sts} (h : Way ws row ss) {b : Nat} (hb : b < row.length) : row[b]? = some (seenAt ws ss b) := by
  have := seen_get h.1 hb
  rwa [h.2] at this
theorem way_cov {ss : Sts} (h : Way ws row ss) (hr : ∀ c ∈ row, c ≠ 46) {b : Nat} (hb : b < row.length) : ss.reverse.findSome? (cov ws · b) = row[b]? := by
  have h1 := way_at h hb
  have h2 := hr row[b] (List.getElem_mem hb)
  rw [List.getElem?_eq_getElem hb] at h1
  have h3 : row[b] = seenAt ws ss b := Option.some.inj h1
  rw [List.getElem?_eq_getElem hb, h3]
  unfold seenAt at h3 ⊢
  cases e : ss.reverse.findSome? (cov ws · b) with
  | none => rw [e] at h3; exact absurd h3 h2
  | some c => rfl
theorem way_run {ss : Sts} (h : Way ws row ss) (hr : ∀ c ∈ row, c ≠ 46) : (Fr.runP ws row [] (ss.reverse.map toI)).length = row.length := by
  have hk0 : Fr.KeyOk row.length [] := ⟨.nil, by simp⟩
  rw [Fr.key_full (Fr.runP_ok _ hk0)]
  -- what the stamps from the last one on cover is freed
  have main : ∀ (q p : Sts), ss.reverse = p ++ q → ∀ s ∈ p, ∀ b c, cov ws s b = some c → b ∈ Fr.runP ws row [] (p.map toI) := by
    have : ∀ (n : Nat) (p q : Sts), p.length = n → ss.reverse = p ++ q → ∀ s ∈ p, ∀ b c, cov ws s b = some c → b ∈ Fr.runP ws row [] (p.map toI) := by
      intro n
      induction n with
      | zero =>
        intro p q hl _ s hs
        rw [List.length_eq_zero_iff.mp hl] at hs
        cases hs
      | succ n ih =>
        intro p q hl hp s hs b c hc
        have hne : p ≠ [] := by intro e; subst e; simp at hl
        obtain ⟨p', t, rfl⟩ : ∃ p' t, p = p' ++ [t] := ⟨p.dropLast, p.getLast hne, (List.dropLast_concat_getLast hne).symm⟩
        rw [List.map_append, Fr.runP_app]
        rcases List.mem_append.mp hs with z | z
        · exact Fr.runP_sub _ (ih p' ([t] ++ q) (by simpa using hl) (by rw [hp, List.append_assoc]) s z b c hc)
        · have e := List.mem_singleton.mp z
          subst e
          show b ∈ Fr.nxt ws row _ (toI s)
          have hin : s ∈ ss := List.mem_reverse.mp (by rw [hp]; simp)
          have hb := cov_lt (h.1 s hin) hc
          by_cases hk : b ∈ Fr.runP ws row [] (p'.map toI)
          · exact Fr.nxt_mem.mpr (.inl hk)
          · refine Fr.nxt_mem.mpr (.inr (Fr.frBy_all (fun b' c' hb' hc' hn' => ?_) hb (by rw [cv_toI]; exact hc) hk))
            rw [cv_toI] at hc'
            -- another sign is seen there: by a later stamp
            have hf := way_cov h hr hb'
            rw [hp, List.append_assoc, List.findSome?_append] at hf
            cases e : p'.findSome? (cov ws · b') with
            | none =>
              rw [e] at hf
              have : (List.findSome? (cov ws · b') ([s] ++ q)) = some c' := by
                rw [List.singleton_append, List.findSome?_cons, hc']
              rw [this] at hf
              exact absurd hf.symm hn'
            | some d =>
              obtain ⟨t, ht, htd⟩ := List.exists_of_findSome?_eq_some e
              exact ih p' ([s] ++ q) (by simpa using hl) (by rw [hp, List.append_assoc]) t ht b' d htd
    exact fun q p hp => this p.length p q rfl hp
  intro b hb
  have hf := way_cov h hr hb
  rw [List.getElem?_eq_getElem hb] at hf
  obtain ⟨t, ht, htd⟩ := List.exists_of_findSome?_eq_some hf
  exact main [] ss.reverse (by simp) t ht b _ htd
theorem way_of_pth {p : List Fr.St} {k : Fr.Key} (h : Fr.Pth ws row p k) (hk : k.length = row.length) : Way ws row (p.reverse.map toN) := by
  have hon : ∀ s ∈ p, Fr.On ws 0 row.length s := h.on
  have hst : ∀ s ∈ p.reverse.map toN, StOk ws row.length s := by
    intro s hs
    obtain ⟨t, ht, rfl⟩ := List.mem_map.mp hs
    have := hon t (List.mem_reverse.mp ht)
    rw [← on_st, toI_toN this.2.1]
    exact this
  refine ⟨hst, List.ext_getElem? fun b => ?_⟩
  by_cases hb : b < row.length
  · rw [seen_get hst hb]
    have hm := (Fr.key_full h.key).mp hk b hb
    have hf := (h.first b hm).1
    unfold seenAt
    rw [← List.map_reverse, List.reverse_reverse, List.findSome?_map]
    have e : ∀ l : List Fr.St, (∀ s ∈ l, 0 ≤ s.2) → List.findSome? ((cov ws · b) ∘ toN) l = List.findSome? (Fr.cv ws · b) l := by
      intro l
      induction l with
      | nil => intro _; rfl
      | cons s l ih =>
        intro hl
        rw [List.findSome?_cons, List.findSome?_cons, ih fun t ht => hl t (by simp [ht])]
        have : ((cov ws · b) ∘ toN) s = Fr.cv ws s b := by
          show cov ws (toN s) b = _
          rw [← cv_toI, toI_toN (hl s (by simp))]
        rw [this]
    rw [e p fun s hs => (hon s hs).2.1, hf, List.getElem?_eq_getElem hb]
    rfl
  · rw [List.getElem?_eq_none (by rw [seenL_len]; omega), List.getElem?_eq_none (by omega)]
theorem way_stp {ss : Sts} (h : Way ws row ss) (hr : ∀ c ∈ row, c ≠ 46) : Fr.stB ws row = true := by
  unfold Fr.stB
  rw [decide_eq_true_eq, Fr.freeL_all]
  have hrun := way_run h hr
  have hk0 : Fr.KeyOk row.length [] := ⟨.nil, by simp⟩
  intro b hb
  refine Fr.run_free (ss.reverse.map toI) [] (fun s hs => ?_) (by simp) b ((Fr.key_full (Fr.runP_ok _ hk0)).mp hrun b hb)
  obtain ⟨t, ht, rfl⟩ := List.mem_map.mp hs
  exact on_st.mpr (h.1 t (List.mem_reverse.mp ht))
/-- what is found, by ways -/
def FoundW (ws : List (List Nat)) (row : List Nat) : Option Sts → Prop
  | none => Fr.stB ws row = false ∧ ∀ ss, ¬ Way ws row ss
  | some w => Way ws row w ∧ w.length ≤ row.length ∧ Fr.stB ws row = true ∧ ∀ ss, Way ws row ss → w.length ≤ ss.length
def wyD : Option Sts → D
  | none => .non
  | some w => Ss w
def fwD : Option Sts → D
  | none => .non
  | some w => .int w.length
theorem found_w {d : D} (hr : ∀ c ∈ row, c ≠ 46) (h : Found ws row d) : ∃ o, d = wyD o ∧ FoundW ws row o := by
  have hw : ∀ ss, Way ws row ss → ∀ s ∈ ss.reverse.map toI, Fr.On ws 0 row.length s := fun ss hss s hs => by
    obtain ⟨t, ht, rfl⟩ := List.mem_map.mp hs
    exact on_st.mpr (hss.1 t (List.mem_reverse.mp ht))
  rcases h with ⟨rfl, h⟩ | ⟨p, k, rfl, h1, h2, h3⟩
  · refine ⟨none, rfl, ?_, fun ss hss => h _ (hw ss hss) (way_run hss hr)⟩
    rw [← Bool.not_eq_true]
    intro hs
    unfold Fr.stB at hs
    rw [decide_eq_true_eq, Fr.freeL_all] at hs
    obtain ⟨p, q1, q2⟩ := Fr.run_ex hs row.length [] ⟨.nil, by simp⟩ (by simp)
    exact h p q1 q2
  · have hway := way_of_pth h1 h2
    refine ⟨some (p.reverse.map toN), ?_, hway, ?_, way_stp hway hr, fun ss hss => ?_⟩
    · show D.tup _ = D.tup _
      rw [List.map_map]
      congr 1
      refine List.map_congr_left fun s hs => Sdi_toN (h1.on s (List.mem_reverse.mp hs)).2.1
    · rw [List.length_map, List.length_reverse]
      have := h1.len
      omega
    · rw [List.length_map, List.length_reverse]
      have := h3 _ (hw ss hss) (way_run hss hr)
      simpa using this
theorem RowOk.dot (h : RowOk row) : ∀ c ∈ row, c ≠ 46 := fun c hc e => by
  have := mem4.mp (h.ab c hc)
  omega
theorem way_ex (h : WsOk ws) (hr : RowOk row) (g : G) : ∃ o, FoundW ws row o ∧ f_way [Ww ws, .str row] g = some (.ok (wyD o), g) ∧ f_fewest_stamps [Ww ws, .str row] g = some (.ok (fwD o), g) := by
  obtain ⟨d, hd, e⟩ := found_way_ex (ws := ws) (row := row) hr.h1 hr.h8 h.len h.w100 g
  obtain ⟨o, rfl, ho⟩ := found_w hr.dot hd
  refine ⟨o, ho, ?_, ?_⟩
  · refine fn_rt (sl := [some (.d (Ww ws)), some (.d (.str row))]) rfl ?_
    unfold F_way
    refine p_drop (d := .non) (by simp [check_row_eq h hr]) ?_
    exact p_ret (d := wyD o) (by simp [e]) ⟨.inl rfl, rfl⟩
  · refine fn_rt (sl := [some (.d (Ww ws)), some (.d (.str row)), none]) rfl ?_
    unfold F_fewest_stamps
    refine p_drop (d := .non) (by simp [check_row_eq h hr]) ?_
    refine p_asg (d := wyD o) (by simp [e]) ?_
    refine p_ret (d := fwD o) ?_ ⟨.inl rfl, rfl⟩
    cases o with
    | none => simp [wyD, fwD]
    | some w => simp [wyD, fwD, Ss, notN]
theorem is_way_eq {ss : Sts} (h : WsOk ws) (hr : RowOk row) (hs : StsOk ws row.length ss) : f_is_way [Ww ws, .str row, Ss ss] g = some (.ok (.bl (decide (seenL ws row.length ss = row))), g) := by
  refine fn_rt (sl := [some (.d (Ww ws)), some (.d (.str row)), some (.d (Ss ss))]) rfl ?_
  unfold F_is_way
  refine p_drop (d := .non) (by simp [check_row_eq h hr]) ?_
  have e1 := stamps_on_ok (g := g) hs
  have e2 := seen_after_ok (g := g) (ws := ws) (B := row.length) (ss := ss) (by have := hr.h8; omega) hs.each (by have := hs.few; omega)
  refine p_ret (d := .bl (decide (seenL ws row.length ss = row))) ?_ ⟨.inl rfl, rfl⟩
  have eb : (seenL ws row.length ss == row) = decide (seenL ws row.length ss = row) := by rw [Bool.eq_iff_iff]; simp
  simp [e1, e2, eb]
theorem way_iff {ss : Sts} (hs : ∀ s ∈ ss, StOk ws row.length s) : Way ws row ss ↔ seenL ws row.length ss = row := ⟨fun h => h.2, fun h => ⟨hs, h⟩⟩
/-- nothing of a shortest way is hidden -/
theorem hid_nil {w : Sts} (hw : Way ws row w) (hl : ∀ ss, Way ws row ss → w.length ≤ ss.length) : hidL ws row.length w = [] := by
  unfold hidL
  rw [List.filter_eq_nil_iff]
  intro i hi
  have hi' := List.mem_range.mp hi
  simp only [beq_iff_eq]
  intro e
  have : Way ws row (without w i) := ⟨fun s hs => hw.1 s (by
    unfold without at hs
    rcases List.mem_append.mp hs with z | z
    · exact List.mem_of_mem_take z
    · exact List.mem_of_mem_drop z), by rw [e]; exact hw.2⟩
  have := hl _ this
  unfold without at this
  rw [List.length_append, List.length_take, List.length_drop] at this
  omega
/-- other words with the same signs -/
theorem seen_map {ws' : List (List Nat)} (f : Nat × Nat → Nat × Nat) : ∀ (ss : Sts) (acc : List Nat), (∀ s ∈ ss, wordAt ws' (f s).1 = wordAt ws s.1 ∧ (f s).2 = s.2) → (ss.map f).foldl (fun acc s => setOn acc (wordAt ws' s.1) s.2) acc = ss.foldl (fun acc s => setOn acc (wordAt ws s.1) s.2) acc
  | [], acc, _ => rfl
  | s :: ss, acc, h => by
    obtain ⟨h1, h2⟩ := h s (by simp)
    rw [List.map_cons, List.foldl_cons, List.foldl_cons, h1, h2]
    exact seen_map f ss _ fun t ht => h t (by simp [ht])
theorem at_mem {n : Nat} (h : n < ws.length) : wordAt ws n ∈ ws := by
  unfold wordAt
  rw [List.getD_eq_getElem?_getD, List.getElem?_eq_getElem h]
  exact List.getElem_mem h
theorem at_idx {w : List Nat} (h : w ∈ ws) : ws.idxOf w < ws.length ∧ wordAt ws (ws.idxOf w) = w := by
  have h1 := List.idxOf_lt_length_iff.mpr h
  refine ⟨h1, ?_⟩
  unfold wordAt
  rw [List.getD_eq_getElem?_getD, List.getElem?_eq_getElem h1]
  simp
theorem Way.more {ws' : List (List Nat)} {ss : Sts} (hsub : ∀ w ∈ ws, w ∈ ws') (h : Way ws row ss) : ∃ ss', Way ws' row ss' ∧ ss'.length = ss.length := by
  refine ⟨ss.map fun s => (ws'.idxOf (wordAt ws s.1), s.2), ⟨fun s hs => ?_, ?_⟩, by simp⟩
  · obtain ⟨t, ht, rfl⟩ := List.mem_map.mp hs
    have h1 := h.1 t ht
    obtain ⟨a, b⟩ := at_idx (hsub _ (at_mem h1.1))
    refine ⟨a, ?_⟩
    simp only [b]
    exact h1.2
  · rw [← h.2]
    show List.foldl _ _ _ = List.foldl _ _ _
    rw [seenL_len]
    exact seen_map (ws := ws) (ws' := ws') (fun s => (ws'.idxOf (wordAt ws s.1), s.2)) ss _ fun s hs => ⟨(at_idx (hsub _ (at_mem (h.1 s hs).1))).2, rfl⟩
/-- turned round -/
theorem Way.turn {ss : Sts} (h : Way ws row ss) : ∃ ss', Way (turnL ws) row.reverse ss' ∧ ss'.length = ss.length := by
  have hm : ∀ s ∈ ss, (turnL ws).idxOf (wordAt ws s.1).reverse < (turnL ws).length ∧ wordAt (turnL ws) ((turnL ws).idxOf (wordAt ws s.1).reverse) = (wordAt ws s.1).reverse := fun s hs =>
    at_idx (turn_mem.mpr (by rw [List.reverse_reverse]; exact at_mem (h.1 s hs).1))
  have hst : ∀ s ∈ ss.map fun s => ((turnL ws).idxOf (wordAt ws s.1).reverse, row.length - s.2 - (wordAt ws s.1).length), StOk (turnL ws) row.reverse.length s := by
    intro s hs
    obtain ⟨t, ht, rfl⟩ := List.mem_map.mp hs
    obtain ⟨a, b⟩ := hm t ht
    refine ⟨a, ?_⟩
    simp only [b, List.length_reverse]
    have := (h.1 t ht).2
    omega
  refine ⟨_, ⟨hst, ?_⟩, by simp⟩
  refine List.ext_getElem? fun b => ?_
  by_cases hb : b < row.length
  · rw [seen_get hst (by rw [List.length_reverse]; exact hb), List.getElem?_reverse hb, way_at h (by omega)]
    congr 1
    unfold seenAt
    congr 1
    rw [← List.map_reverse, List.findSome?_map]
    have e : ∀ l : Sts, (∀ s ∈ l, s ∈ ss) → List.findSome? ((cov (turnL ws) · b) ∘ fun s => ((turnL ws).idxOf (wordAt ws s.1).reverse, row.length - s.2 - (wordAt ws s.1).length)) l = List.findSome? (cov ws · (row.length - 1 - b)) l := by
      intro l
      induction l with
      | nil => intro _; rfl
      | cons s l ih =>
        intro hl
        rw [List.findSome?_cons, List.findSome?_cons, ih fun t ht => hl t (by simp [ht])]
        have hs := hl s (by simp)
        obtain ⟨a, bb⟩ := hm s hs
        have hst := (h.1 s hs).2
        have : cov (turnL ws) ((turnL ws).idxOf (wordAt ws s.1).reverse, row.length - s.2 - (wordAt ws s.1).length) b = cov ws s (row.length - 1 - b) := by
          unfold cov
          simp only [bb]
          by_cases h1 : row.length - s.2 - (wordAt ws s.1).length ≤ b
          · rw [if_pos h1]
            by_cases h2 : s.2 ≤ row.length - 1 - b
            · rw [if_pos h2, List.getElem?_reverse (by omega)]
              congr 1
              omega
            · rw [if_neg h2]
              exact List.getElem?_eq_none (by rw [List.length_reverse]; omega)
          · rw [if_neg h1]
            by_cases h2 : s.2 ≤ row.length - 1 - b
            · rw [if_pos h2]
              exact (List.getElem?_eq_none (by omega)).symm
            · rw [if_neg h2]
        have this2 : ((cov (turnL ws) · b) ∘ fun s => ((turnL ws).idxOf (wordAt ws s.1).reverse, row.length - s.2 - (wordAt ws s.1).length)) s = cov ws s (row.length - 1 - b) := this
        rw [this2]
    exact e _ fun s hs => List.mem_reverse.mp hs
  · rw [List.getElem?_eq_none (by rw [seenL_len, List.length_reverse]; omega), List.getElem?_eq_none (by rw [List.length_reverse]; omega)]
theorem turn_turn (h : WsOk ws) : turnL (turnL ws) = ws := by
  refine ord_uniq (turn_ok (turn_ok h)).ord h.ord fun w => ?_
  rw [turn_mem, turn_mem, List.reverse_reverse]
/-- a word alone -/
theorem way_word {w : List Nat} (hw : w ∈ ws) : Way ws w [(ws.idxOf w, 0)] := by
  obtain ⟨a, b⟩ := at_idx hw
  refine ⟨fun s hs => ?_, ?_⟩
  · rw [List.mem_singleton.mp hs]
    exact ⟨a, by simp only [b]; omega⟩
  · show setOn (List.replicate w.length 46) (wordAt ws (ws.idxOf w)) 0 = w
    rw [b]
    refine List.ext_getElem? fun i => ?_
    rw [setOn_get _ _ _ _ (by simp)]
    by_cases hi : i < w.length
    · rw [if_pos (by omega), Nat.sub_zero]
    · rw [if_neg (by omega), List.getElem?_eq_none (by simp; omega), List.getElem?_eq_none (by omega)]
/-- all boxes are covered -/
theorem way_many {ss : Sts} (h : Way ws row ss) (hr : ∀ c ∈ row, c ≠ 46) {m : Nat} (hm : ∀ w ∈ ws, w.length ≤ m) : row.length ≤ ss.length * m := by
  have h1 := Fr.nd_le (List.range row.length) (ss.flatMap fun s => (List.range (wordAt ws s.1).length).map (s.2 + ·)) List.nodup_range fun b hb => by
    have hb := List.mem_range.mp hb
    have hf := way_cov h hr hb
    rw [List.getElem?_eq_getElem hb] at hf
    obtain ⟨t, ht, htd⟩ := List.exists_of_findSome?_eq_some hf
    refine List.mem_flatMap.mpr ⟨t, List.mem_reverse.mp ht, List.mem_map.mpr ⟨b - t.2, ?_, ?_⟩⟩
    · unfold cov at htd
      split at htd
      · exact List.mem_range.mpr (List.getElem?_eq_some_iff.mp htd).1
      · cases htd
    · unfold cov at htd
      split at htd
      · omega
      · cases htd
  rw [List.length_range] at h1
  refine Nat.le_trans h1 ?_
  have : ∀ l : Sts, (∀ s ∈ l, s ∈ ss) → (l.flatMap fun s => (List.range (wordAt ws s.1).length).map (s.2 + ·)).length ≤ l.length * m := by
    intro l
    induction l with
    | nil => intro _; simp
    | cons s l ih =>
      intro hl
      have := ih fun t ht => hl t (by simp [ht])
      have h2 := hm _ (at_mem (h.1 s (hl s (by simp))).1)
      rw [List.flatMap_cons, List.length_append, List.length_map, List.length_range, List.length_cons, Nat.succ_mul]
      omega
  exact this ss fun _ h => h
/-- the signs of a way are those of words -/
theorem way_sign {ss : Sts} (h : Way ws row ss) (hr : ∀ c ∈ row, c ≠ 46) {c : Nat} (hc : c ∈ row) : ∃ w ∈ ws, c ∈ w := by
  obtain ⟨b, hb, e⟩ := List.mem_iff_getElem.mp hc
  have hf := way_cov h hr hb
  rw [List.getElem?_eq_getElem hb] at hf
  obtain ⟨t, ht, htd⟩ := List.exists_of_findSome?_eq_some hf
  refine ⟨wordAt ws t.1, at_mem (h.1 t (List.mem_reverse.mp ht)).1, ?_⟩
  unfold cov at htd
  split at htd
  · rw [← e]; exact List.mem_of_getElem? htd
  · cases htd
end
end Lw
namespace DL
open PySem L2
section
variable {G : Type} {sl : SL} {g g1 : G} {Q : Fl → SL → G → Prop}
theorem st_ct {c : M G Bool} {f2 : SM G} {k : Bool} (e : c sl g = some (.ok k, g1)) (h1 : k = true → Q .ct sl g1) (h2 : k = false → WP f2 sl g1 Q) : WP (sSeq (sIf c sCt sSkip) f2) sl g Q := by
  cases k with
  | true => exact ⟨.ct, sl, g1, by rw [seq_ap, if_ap, e, ifK_ok, if_pos rfl]; rfl, h1 rfl⟩
  | false => exact st_not e (h2 rfl)
end
theorem isSub1 (c : Nat) : ∀ l : List Nat, isSub [c] l = decide (c ∈ l)
  | [] => by simp [isSub]
  | d :: l => by
    show (isPre [c] (d :: l) || isSub [c] l) = _
    rw [isSub1 c l, Bool.eq_iff_iff]
    simp [isPre]
theorem inD_sS (c : Nat) (l : List Nat) : inD (.str [c]) (.str l) = some (.bl (decide (c ∈ l))) := by
  show some (D.bl (isSub [c] l)) = _
  rw [isSub1]
theorem ninD_sS (c : Nat) (l : List Nat) : ninD (.str [c]) (.str l) = some (.bl (!decide (c ∈ l))) := by
  show some (D.bl (!isSub [c] l)) = _
  rw [isSub1]
end DL
namespace Lw
open PySem L2 DL
section
variable {G : Type} {g : G} {ws : List (List Nat)} {row : List Nat} {B : Nat}
theorem few_word (h : WsOk ws) {w : List Nat} (hw : w ∈ ws) {o : Option Sts} (ho : FoundW ws w o) : fwD o = .int 1 := by
  have hway := way_word hw
  match o, ho with
  | none, ho => exact absurd hway (ho.2 _)
  | some v, ho =>
    have h1 := ho.2.2.2 _ hway
    have h2 : v ≠ [] := by
      intro e
      have := ho.1.2
      rw [e] at this
      have h3 := h.pos w hw
      have h4 : w[0]? = some 46 := by
        rw [← this]
        show (List.replicate w.length 46)[0]? = some 46
        rw [List.getElem?_replicate, if_pos (by omega)]
      have := (h.rowOk hw).dot 46 (List.mem_of_getElem? h4)
      exact this rfl
    have h3 := List.length_pos_iff.mpr h2
    simp at h1
    have : v.length = 1 := by omega
    show D.int v.length = _
    rw [this]; rfl
theorem found_some {o : Option Sts} {ss : Sts} (ho : FoundW ws row o) (hs : Way ws row ss) : ∃ w, o = some w ∧ Way ws row w ∧ w.length ≤ row.length ∧ w.length ≤ ss.length ∧ ∀ ss, Way ws row ss → w.length ≤ ss.length := by
  match o, ho with
  | none, ho => exact absurd hs (ho.2 _)
  | some w, ho => exact ⟨w, rfl, ho.1, ho.2.1, ho.2.2.2 _ hs, ho.2.2.2⟩
theorem without_ev {sl : SL} {i j n : Nat} {w : Sts} (h1 : sl[i]? = some (some (.d (Ss w)))) (h2 : sl[j]? = some (some (.d (.int n)))) (hw : w.length ≤ 1000) :
    e2 addD (eSl (eV i) oN (oS (eV j))) (eSl (eV i) (oS (e2 addD (eV j) (eC (.int 1)))) oN) sl g = some (.ok (Ss (without w n)), g) := by
  have t1 : slD (Ss w) none (some (n : Int)) = some (Ss (w.take n)) := by
    show some (D.tup (cut (w.map Sd) none (some (n : Int)))) = _
    rw [cut_to, ← List.map_take]
    rfl
  have t2 : slD (Ss w) (some ((n : Int) + 1)) none = some (Ss (w.drop (n + 1))) := by
    show some (D.tup (cut (w.map Sd) (some (((n + 1 : Nat)) : Int)) none)) = _
    rw [cut_from, ← List.map_drop]
    rfl
  have t3 : addD (Ss (w.take n)) (Ss (w.drop (n + 1))) = some (Ss (without w n)) := by
    have : ((w.take n).map Sd).length + ((w.drop (n + 1)).map Sd).length ≤ LIM := by
      rw [List.length_map, List.length_map, List.length_take, List.length_drop]; exact lim1 (by omega)
    show (if _ then _ else _) = _
    rw [if_pos this, ← List.map_append]
    rfl
  simp [h1, h2, t1, t2, t3]
/-- what is seen, where nothing is blank -/
theorem seen_row (h : WsOk ws) {ss : Sts} (hs : ∀ s ∈ ss, StOk ws B s) (h1 : 1 ≤ B) (h8 : B ≤ 8) (hd : 46 ∉ seenL ws B ss) : Way ws (seenL ws B ss) ss ∧ RowOk (seenL ws B ss) := by
  have hl := seenL_len ws B ss
  have hw : Way ws (seenL ws B ss) ss := ⟨by rw [hl]; exact hs, by rw [hl]⟩
  refine ⟨hw, by omega, by omega, fun c hc => ?_⟩
  obtain ⟨w, hw', hcw⟩ := way_sign hw (fun c hc e => hd (e ▸ hc)) hc
  exact (h.each w hw').2.2 c hcw
theorem way_sts {ss : Sts} (h : Way ws row ss) (hl : ss.length ≤ 12) : StsOk ws row.length ss := ⟨hl, h.1⟩
end
end Lw
namespace DL
open PySem L2
theorem minPS_spec : ∀ (ps : List (Int × List Nat)) (p : Int × List Nat), minPS p ps ∈ p :: ps ∧ ∀ q ∈ p :: ps, (minPS p ps).1 ≤ q.1
  | [], p => ⟨by simp [minPS], fun q hq => by simp [minPS] at hq ⊢; rw [hq]; exact Int.le_refl _⟩
  | y :: ps, p => by
    have ih := minPS_spec ps (if ltPS y p = true then y else p)
    have e : minPS p (y :: ps) = minPS (if ltPS y p = true then y else p) ps := rfl
    rw [e]
    have hle : ∀ q ∈ [p, y], (if ltPS y p = true then y else p).1 ≤ q.1 := by
      intro q hq
      unfold ltPS
      simp at hq
      by_cases h1 : y.1 = p.1
      · rw [if_pos h1]
        rcases hq with rfl | rfl <;> split <;> omega
      · rw [if_neg h1]
        rcases hq with rfl | rfl <;> split <;> simp_all <;> omega
    refine ⟨?_, fun q hq => ?_⟩
    · rcases List.mem_cons.mp ih.1 with z | z
      · rw [z]; split <;> simp
      · simp [z]
    · have h0 := ih.2 _ (List.mem_cons_self)
      rcases List.mem_cons.mp hq with rfl | hq
      · exact Int.le_trans h0 (hle _ (by simp))
      · rcases List.mem_cons.mp hq with rfl | hq
        · exact Int.le_trans h0 (hle _ (by simp))
        · exact ih.2 q (by simp [hq])
theorem maxPI_mem : ∀ (ps : List (Int × Int)) (p : Int × Int), maxPI p ps ∈ p :: ps
  | [], p => by simp [maxPI]
  | y :: ps, p => by
    have ih := maxPI_mem ps (if ltPI p y = true then y else p)
    have e : maxPI p (y :: ps) = maxPI (if ltPI p y = true then y else p) ps := rfl
    rw [e]
    rcases List.mem_cons.mp ih with z | z
    · rw [z]; split <;> simp
    · simp [z]
end DL
namespace Lw
open PySem L2 DL
section
variable {G : Type} {g : G} {ws one other : List (List Nat)} {row : List Nat}
theorem check_two_eq (h : WsOk one) (h2 : WsOk other) : f_check_two [Ww one, Ww other] g = some (.ok .non, g) := by
  refine fn_rt (sl := [some (.d (Ww one)), some (.d (Ww other))]) rfl ?_
  unfold F_check_two
  refine p_drop (d := .non) (by simp [check_words_ok lets4 h]) ?_
  exact ⟨.nx, [some (.d (Ww one)), some (.d (Ww other))], g, by simp [check_words_ok lets4 h2], .inr ⟨rfl, rfl⟩, rfl⟩
/-! ### words that others can not stamp -/
def outL (one other : List (List Nat)) : List (List Nat) := other.filter fun w => !Fr.stB one w
def lnW (w : List Nat) : Int × List Nat := ((w.length : Int), w)
theorem left_out_eq (h : WsOk one) (h2 : WsOk other) : f_left_out [Ww one, Ww other] g = some (.ok (.lst (((outL one other).map lnW).map pSD)), g) := by
  refine fn_rt (sl := [some (.d (Ww one)), some (.d (Ww other)), none]) rfl ?_
  unfold F_left_out
  have L2 : (2 : Nat) ≤ LIM := lim1 (by omega)
  refine p_ret (d := .lst (((outL one other).map lnW).map pSD)) ?_ ⟨.inl rfl, rfl⟩
  have := comp_pure (it := iT (eV 1)) (vs := [2]) (tg := tg1 2) (cnd := tNotM (tV (callM f_is_stamped (aCons (eV 0) (aCons (eV 2) aNil))))) (elt := eTup (aCons (e1 lenD (eV 2)) (aCons (eV 2) aNil))) (sl := [some (.d (Ww one)), some (.d (Ww other)), none]) (g := g) (g1 := g) (ds := other.map D.str) (fun d => match d with | .str w => !Fr.stB one w | _ => false) (fun d => match d with | .str w => pSD (lnW w) | _ => .non) (by simp [Ww]) (by rw [List.length_map]; exact lim1 (by have := h2.l1; omega)) fun d hd => ?_
  · rw [List.filter_map, List.map_map] at this
    rw [this, List.map_map]
    rfl
  · obtain ⟨w, hw, rfl⟩ := List.mem_map.mp hd
    have e := is_stamped_eq (g := g) (ws := one) (row := w) (by have := h2.w4 w hw; omega) h.len h.w100
    exact ⟨_, rfl, by simp [e], fun _ => by simp [L2, lnW]⟩
theorem out_nil (one other : List (List Nat)) : outL one other = [] ↔ ∀ w ∈ other, Fr.Stp (· ∈ one) w := by
  unfold outL
  rw [List.filter_eq_nil_iff]
  constructor
  · intro h w hw
    have := h w hw
    simp at this
    exact Fr.stB_iff.mp this
  · intro h w hw
    rw [Fr.stB_iff.mpr (h w hw)]
    simp
theorem eq_nilP (l : List (Int × List Nat)) : eqD (.lst (l.map pSD)) (.lst []) = some (.bl (decide (l = []))) := by
  show (if _ then _ else _) = _
  rw [if_pos]
  · cases l <;> simp [eqB, eqBs]
  · rw [Bool.and_eq_true]
    refine ⟨flats_all2 fun x hx => ?_, rfl⟩
    obtain ⟨y, _, rfl⟩ := List.mem_map.mp hx
    rfl
theorem ne_nilP (l : List (Int × List Nat)) : neD (.lst (l.map pSD)) (.lst []) = some (.bl (!decide (l = []))) := by
  show (if _ then _ else _) = _
  rw [if_pos]
  · cases l <;> simp [eqB, eqBs]
  · rw [Bool.and_eq_true]
    refine ⟨flats_all2 fun x hx => ?_, rfl⟩
    obtain ⟨y, _, rfl⟩ := List.mem_map.mp hx
    rfl
def bothL (one other : List (List Nat)) : List (List Nat) := outL one other ++ outL other one
theorem out_len (h2 : WsOk other) : (outL one other).length ≤ 4 := Nat.le_trans (List.length_filter_le _ _) h2.l1
theorem both_add (h : WsOk one) (h2 : WsOk other) : addD (.lst (((outL one other).map lnW).map pSD)) (.lst (((outL other one).map lnW).map pSD)) = some (.lst (((bothL one other).map lnW).map pSD)) := by
  have a := out_len (one := one) h2
  have b := out_len (one := other) h
  show (if _ then _ else _) = _
  rw [if_pos (by simp only [List.length_map]; exact lim1 (by omega))]
  simp [bothL]
def sameB (one other : List (List Nat)) : Bool := decide (bothL one other = [])
theorem same_iff : sameB one other = true ↔ (∀ w ∈ other, Fr.Stp (· ∈ one) w) ∧ ∀ w ∈ one, Fr.Stp (· ∈ other) w := by
  unfold sameB bothL
  rw [decide_eq_true_eq, List.append_eq_nil_iff, out_nil, out_nil]
theorem are_same_eq (h : WsOk one) (h2 : WsOk other) : f_are_same [Ww one, Ww other] g = some (.ok (.bl (sameB one other)), g) := by
  refine fn_rt (sl := [some (.d (Ww one)), some (.d (Ww other))]) rfl ?_
  unfold F_are_same
  refine p_drop (d := .non) (by simp [check_two_eq h h2]) ?_
  refine p_ret (d := .bl (sameB one other)) ?_ ⟨.inl rfl, rfl⟩
  have e1 := left_out_eq (g := g) h h2
  have e2' := left_out_eq (g := g) h2 h
  have e3 := eq_nilP ((bothL one other).map lnW)
  have e4 : decide ((bothL one other).map lnW = []) = sameB one other := by unfold sameB; rw [decide_eq_decide]; exact List.map_eq_nil_iff
  rw [e4] at e3
  have ba := both_add h h2
  simp only [e2_ap, call_ap, aCons_ap, eV_ap, bind_ap, bindK_ok, slotK_d, List.getElem?_cons_succ, List.getElem?_cons_zero, aNil_ap, pure_ap, callK_ok, e1, e2', lift_ap, ba, liftK_some, eLst_ap, List.length_nil, Nat.zero_le, if_true, e3]
theorem stamps_all_eq (h : WsOk one) (h2 : WsOk other) : f_stamps_all_of [Ww one, Ww other] g = some (.ok (.bl (decide (outL one other = []))), g) := by
  refine fn_rt (sl := [some (.d (Ww one)), some (.d (Ww other))]) rfl ?_
  unfold F_stamps_all_of
  refine p_drop (d := .non) (by simp [check_two_eq h h2]) ?_
  refine p_ret (d := .bl (decide (outL one other = []))) ?_ ⟨.inl rfl, rfl⟩
  have e1 := left_out_eq (g := g) h h2
  have e3 := eq_nilP ((outL one other).map lnW)
  have e4 : decide ((outL one other).map lnW = []) = decide (outL one other = []) := by rw [decide_eq_decide]; exact List.map_eq_nil_iff
  rw [e4] at e3
  simp only [e2_ap, call_ap, aCons_ap, eV_ap, bind_ap, bindK_ok, slotK_d, List.getElem?_cons_succ, List.getElem?_cons_zero, aNil_ap, pure_ap, callK_ok, e1, lift_ap, liftK_some, eLst_ap, List.length_nil, Nat.zero_le, if_true, e3]
/-- a shortest parting row -/
def partL (one other : List (List Nat)) : Option (List Nat) := match (bothL one other).map lnW with
  | [] => none
  | p :: ps => some (minPS p ps).2
theorem part_none : partL one other = none ↔ sameB one other = true := by
  unfold partL sameB
  cases e : bothL one other with
  | nil => simp
  | cons w l => simp
theorem part_some {r : List Nat} (h : partL one other = some r) : r ∈ bothL one other ∧ ∀ w ∈ bothL one other, r.length ≤ w.length := by
  unfold partL at h
  cases e : bothL one other with
  | nil => rw [e] at h; cases h
  | cons w l =>
    rw [e] at h
    simp only [List.map_cons, Option.some.injEq] at h
    obtain ⟨h1, h2⟩ := minPS_spec (l.map lnW) (lnW w)
    have h3 : minPS (lnW w) (l.map lnW) ∈ (w :: l).map lnW := h1
    obtain ⟨v, hv, ev⟩ := List.mem_map.mp h3
    rw [← ev] at h h2
    have : v = r := h
    subst this
    refine ⟨hv, fun u hu => ?_⟩
    have := h2 (lnW u) (by
      show lnW u ∈ (w :: l).map lnW
      exact List.mem_map.mpr ⟨u, hu, rfl⟩)
    simp only [lnW] at this
    omega
theorem parting_eq (h : WsOk one) (h2 : WsOk other) : f_parting_row [Ww one, Ww other] g = some (.ok (optS (partL one other)), g) := by
  refine fn_rt (sl := [some (.d (Ww one)), some (.d (Ww other)), none]) rfl ?_
  unfold F_parting_row
  refine p_drop (d := .non) (by simp [check_two_eq h h2]) ?_
  have e1 := left_out_eq (g := g) h h2
  have e2' := left_out_eq (g := g) h2 h
  have ba := both_add h h2
  refine p_asg (d := .lst (((bothL one other).map lnW).map pSD)) (by simp only [e2_ap, call_ap, aCons_ap, eV_ap, bind_ap, bindK_ok, slotK_d, List.getElem?_cons_succ, List.getElem?_cons_zero, aNil_ap, pure_ap, callK_ok, e1, e2', lift_ap, ba, liftK_some]) ?_
  simp only [List.set_cons_succ, List.set_cons_zero]
  refine p_ret (d := optS (partL one other)) ?_ ⟨.inl rfl, rfl⟩
  have e3 := ne_nilP ((bothL one other).map lnW)
  unfold partL
  generalize (bothL one other).map lnW = l at e3
  cases l with
  | nil => simp [optS]
  | cons p ps =>
    have em : minPD (.lst ((p :: ps).map pSD)) = some (pSD (minPS p ps)) := by
      simp only [minPD, asPS_map, Option.bind_some]
    have ix : ixD (pSD (minPS p ps)) (.int 1) = some (.str (minPS p ps).2) := rfl
    simp only [eIf_ap, tV_ap, e2_ap, e1_ap, eV_ap, eC_ap, bind_ap, bindK_ok, slotK_d, List.getElem?_cons_succ, List.getElem?_cons_zero, eLst_ap, aNil_ap, lift_ap, List.length_nil, Nat.zero_le, if_true, liftK_some, e3, asB_bl, itK_ok, em, ix, optS]
    simp
theorem is_parting_eq (h : WsOk one) (h2 : WsOk other) {v : List Nat} (hv : v.length ≤ 50000) : f_is_parting [Ww one, Ww other, .str v] g = some (.ok (.bl (strB 8 v && (Fr.stB one v != Fr.stB other v))), g) := by
  refine fn_rt (sl := [some (.d (Ww one)), some (.d (Ww other)), some (.d (.str v))]) rfl ?_
  unfold F_is_parting
  refine p_drop (d := .non) (by simp [check_two_eq h h2]) ?_
  have e1 : f_is_row [.str v] g = some (.ok (.bl (strB 8 v)), g) := by
    refine fn_rt (sl := [some (.d (.str v))]) rfl ?_
    unfold F_is_row
    have : f_is_string_of [.str v, .int 8] g = _ := string_eq (g := g) (s := v) (most := 8) hv
    exact p_ret (d := .bl (strB 8 v)) (by simp [this]) ⟨.inl rfl, rfl⟩
  refine p_ret (d := .bl (strB 8 v && (Fr.stB one v != Fr.stB other v))) ?_ ⟨.inl rfl, rfl⟩
  cases hs : strB 8 v with
  | false => rw [hs] at e1; simp [e1]
  | true =>
    rw [hs] at e1
    have hl := (strB_iff.mp hs).2.1
    have e2' := is_stamped_eq (g := g) (ws := one) (row := v) (by omega) h.len h.w100
    have e3 := is_stamped_eq (g := g) (ws := other) (row := v) (by omega) h2.len h2.w100
    simp [e1, e2', e3, bne]
/-! ### needless words -/
def dropA (ws : List (List Nat)) (i : Nat) : List (List Nat) := ws.take i ++ ws.drop (i + 1)
def needL (ws : List (List Nat)) : List Nat := (List.range ws.length).filter fun i => Fr.stB (dropA ws i) (wordAt ws i)
theorem dropA_mem {i : Nat} {w : List Nat} (h : w ∈ dropA ws i) : w ∈ ws := by
  unfold dropA at h
  rcases List.mem_append.mp h with z | z
  · exact List.mem_of_mem_take z
  · exact List.mem_of_mem_drop z
theorem dropA_cov {i : Nat} (hi : i < ws.length) {w : List Nat} (h : w ∈ ws) : w ∈ dropA ws i ∨ w = wordAt ws i := by
  obtain ⟨j, hj, e⟩ := List.mem_iff_getElem.mp h
  unfold dropA
  by_cases h1 : j < i
  · left
    refine List.mem_append_left _ (List.mem_iff_getElem.mpr ⟨j, by rw [List.length_take]; omega, ?_⟩)
    rw [List.getElem_take]; exact e
  · by_cases h2 : j = i
    · right
      subst h2
      unfold wordAt
      rw [List.getD_eq_getElem?_getD, List.getElem?_eq_getElem hj]
      exact e.symm
    · left
      refine List.mem_append_right _ (List.mem_iff_getElem.mpr ⟨j - (i + 1), by rw [List.length_drop]; omega, ?_⟩)
      rw [List.getElem_drop]
      have : i + 1 + (j - (i + 1)) = j := by omega
      simp only [this]
      exact e
theorem dropA_len {i : Nat} (hi : i < ws.length) : (dropA ws i).length + 1 = ws.length := by
  unfold dropA
  rw [List.length_append, List.length_take, List.length_drop]
  omega
theorem dropA_sub (i : Nat) : List.Sublist (dropA ws i) ws := by
  unfold dropA
  conv => rhs; rw [← List.take_append_drop i ws]
  refine List.Sublist.append (List.Sublist.refl _) ?_
  rw [← List.drop_drop]
  exact List.drop_sublist 1 (List.drop i ws)
theorem stB_nil {w : List Nat} (h : 1 ≤ w.length) : Fr.stB [] w = false := by
  rw [← Bool.not_eq_true]
  intro hs
  obtain ⟨v, hv, _⟩ := (Fr.stB_iff.mp hs).some_word (by omega)
  cases hv
theorem dropA_ok (h : WsOk ws) {i : Nat} (hi : i < ws.length) (hne : dropA ws i ≠ []) : WsOk (dropA ws i) := by
  have := dropA_len hi
  refine ⟨List.length_pos_iff.mpr hne, by have := h.l1; omega, fun w hw => h.each w (dropA_mem hw), h.ord.sublist (dropA_sub i)⟩
theorem dropW_ev {sl : SL} {i j n : Nat} (h1 : sl[i]? = some (some (.d (Ww ws)))) (h2 : sl[j]? = some (some (.d (.int n)))) (hw : ws.length ≤ 1000) :
    e2 addD (eSl (eV i) oN (oS (eV j))) (eSl (eV i) (oS (e2 addD (eV j) (eC (.int 1)))) oN) sl g = some (.ok (Ww (dropA ws n)), g) := by
  have t1 : slD (Ww ws) none (some (n : Int)) = some (Ww (ws.take n)) := by
    show some (D.tup (cut (ws.map D.str) none (some (n : Int)))) = _
    rw [cut_to, ← List.map_take]
    rfl
  have t2 : slD (Ww ws) (some ((n : Int) + 1)) none = some (Ww (ws.drop (n + 1))) := by
    show some (D.tup (cut (ws.map D.str) (some (((n + 1 : Nat)) : Int)) none)) = _
    rw [cut_from, ← List.map_drop]
    rfl
  have t3 : addD (Ww (ws.take n)) (Ww (ws.drop (n + 1))) = some (Ww (dropA ws n)) := by
    have : ((ws.take n).map D.str).length + ((ws.drop (n + 1)).map D.str).length ≤ LIM := by
      rw [List.length_map, List.length_map, List.length_take, List.length_drop]; exact lim1 (by omega)
    show (if _ then _ else _) = _
    rw [if_pos this, ← List.map_append]
    rfl
  simp [h1, h2, t1, t2, t3]
theorem needless_in_eq (h : WsOk ws) : f_needless_in [Ww ws] g = some (.ok (.lst ((needL ws).map nD)), g) := by
  have hl := h.l1
  have main : ∀ (us : List (List Nat)) (k : Nat) (acc : List Nat), k + us.length = ws.length → (∀ i w, us[i]? = some w → ws[k + i]? = some w) → acc.length ≤ k →
      forL (tg2 2 3) (sIf (tV (callM f_is_stamped (aCons (e2 addD (eSl (eV 0) oN (oS (eV 2))) (eSl (eV 0) (oS (e2 addD (eV 2) (eC (.int 1)))) oN)) (aCons (eV 3) aNil)))) (sApp 1 (eV 2)) sSkip) [2, 3] (enumD k (us.map D.str)) [some (.d (Ww ws)), some (.oL (acc.map nD)), none, none] g
      = some (.nx, [some (.d (Ww ws)), some (.oL ((acc ++ ((List.range us.length).map (k + ·)).filter fun i => Fr.stB (dropA ws i) (wordAt ws i)).map nD)), none, none], g) := by
    intro us
    induction us with
    | nil => intro k acc _ _ _; simp [forL, enumD]
    | cons w us ih =>
      intro k acc hk hu ha
      simp only [List.length_cons] at hk
      have hw0 := hu 0 w rfl
      rw [Nat.add_zero] at hw0
      have hwat : wordAt ws k = w := by
        unfold wordAt
        rw [List.getD_eq_getElem?_getD, hw0]; rfl
      have hwm : w ∈ ws := List.mem_of_getElem? hw0
      have es := is_stamped_eq (g := g) (ws := dropA ws k) (row := w) (by have := h.w4 w hwm; omega) (by have := dropA_len (ws := ws) (i := k) (by omega); omega) (fun v hv => h.w100 v (dropA_mem hv))
      have er : ((List.range (us.length + 1)).map (k + ·)) = k :: (List.range us.length).map (k + 1 + ·) := by
        rw [List.range_succ_eq_map, List.map_cons, List.map_map]
        congr 1
        refine List.map_congr_left fun i _ => ?_
        show k + (i + 1) = k + 1 + i
        omega
      have ev := dropW_ev (g := g) (ws := ws) (i := 0) (j := 2) (n := k) (sl := [some (.d (Ww ws)), some (.oL (acc.map nD)), some (.d (.int k)), some (.d (.str w))]) rfl rfl (by omega)
      have tst : tV (callM f_is_stamped (aCons (e2 addD (eSl (eV 0) oN (oS (eV 2))) (eSl (eV 0) (oS (e2 addD (eV 2) (eC (.int 1)))) oN)) (aCons (eV 3) aNil))) [some (.d (Ww ws)), some (.oL (acc.map nD)), some (.d (.int k)), some (.d (.str w))] g = some (.ok (Fr.stB (dropA ws k) w), g) := by
        simp only [tV_ap, call_ap, aCons_ap, ev, bindK_ok, bind_ap, eV_ap, slotK_d, List.getElem?_cons_succ, List.getElem?_cons_zero, aNil_ap, pure_ap, callK_ok, es, lift_ap, asB_bl, liftK_some]
      show forL _ _ _ (.tup [.int k, .str w] :: enumD (k + 1) (us.map D.str)) _ _ = _
      rw [List.length_cons, er, List.filter_cons, hwat]
      cases hb : Fr.stB (dropA ws k) w with
      | true =>
        have hx : WP (sApp 1 (eV 2)) [some (.d (Ww ws)), some (.oL (acc.map nD)), some (.d (.int k)), some (.d (.str w))] g fun fl sl2 g2 => fl = .nx ∧ g2 = g ∧ sl2 = [some (.d (Ww ws)), some (.oL ((acc ++ [k]).map nD)), some (.d (.int k)), some (.d (.str w))] := by
          refine p_app (xs := acc.map nD) (d := .int k) rfl (by simp) (by rw [List.length_map]; exact lim2 (by omega)) ⟨rfl, rfl, ?_⟩
          simp
        obtain ⟨fl, sl2, g2, e1, rfl, rfl, rfl⟩ := hx
        rw [forL_nx (sl1 := [some (.d (Ww ws)), some (.oL (acc.map nD)), some (.d (.int k)), some (.d (.str w))]) rfl (by rw [if_ap, tst, hb, ifK_ok, if_pos rfl]; exact e1)]
        have := ih (k + 1) (acc ++ [k]) (by omega) (fun i v hv => by have := hu (i + 1) v (by simpa using hv); rw [show k + 1 + i = k + (i + 1) by omega]; exact this) (by simp; omega)
        simp only [if_true]
        rw [← List.append_cons] at *
        exact this
      | false =>
        rw [forL_nx (sl1 := [some (.d (Ww ws)), some (.oL (acc.map nD)), some (.d (.int k)), some (.d (.str w))]) (sl2 := [some (.d (Ww ws)), some (.oL (acc.map nD)), some (.d (.int k)), some (.d (.str w))]) (g2 := g) rfl (by rw [if_ap, tst, hb, ifK_ok, if_neg (by decide)]; rfl)]
        have := ih (k + 1) acc (by omega) (fun i v hv => by have := hu (i + 1) v (by simpa using hv); rw [show k + 1 + i = k + (i + 1) by omega]; exact this) (by omega)
        simpa using this
  refine fn_rt (sl := [some (.d (Ww ws)), none, none, none]) rfl ?_
  unfold F_needless_in
  refine p_asgL (xs := []) (by simp) ?_
  have m := main ws 0 [] (by omega) (fun i w hw => by simpa using hw) (by simp)
  simp only [List.nil_append, Nat.zero_add, List.map_id', List.map_nil] at m
  refine wp_seq (wp_forE (g1 := g) (ds := enumD 0 (ws.map D.str)) (by simp [Ww]) m ⟨rfl, ?_⟩)
  exact wp_frz (p_ret (d := .lst ((needL ws).map nD)) (by simp [frz1, needL]) ⟨.inl rfl, rfl⟩)
theorem needless_words_eq (h : WsOk ws) : f_needless_words [Ww ws] g = some (.ok (.tup ((needL ws).map nD)), g) := by
  refine fn_rt (sl := [some (.d (Ww ws))]) rfl ?_
  unfold F_needless_words
  refine p_drop (d := .non) (by simp [check_words_ok lets4 h]) ?_
  exact p_ret (d := .tup ((needL ws).map nD)) (by simp [needless_in_eq h]) ⟨.inl rfl, rfl⟩
end
end Lw
namespace Lw
open PySem L2 DL
section
variable {G : Type} {g : G} {ws : List (List Nat)} {row : List Nat}
structure BaseOf (ws bs : List (List Nat)) : Prop where
  sub : ∀ w ∈ bs, w ∈ ws
  ok : WsOk bs
  cov : ∀ w ∈ ws, Fr.Stp (· ∈ bs) w
  nn : needL bs = []
theorem need_mem {i : Nat} : i ∈ needL ws ↔ i < ws.length ∧ Fr.stB (dropA ws i) (wordAt ws i) = true := by
  unfold needL
  rw [List.mem_filter, List.mem_range]
theorem need_drop (h : WsOk ws) {i : Nat} (hi : i ∈ needL ws) : WsOk (dropA ws i) ∧ ∀ w ∈ ws, Fr.Stp (· ∈ dropA ws i) w := by
  obtain ⟨h1, h2⟩ := need_mem.mp hi
  have hne : dropA ws i ≠ [] := fun e => by
    rw [e, stB_nil (h.pos _ (at_mem h1))] at h2
    cases h2
  refine ⟨dropA_ok h h1 hne, fun w hw => ?_⟩
  rcases dropA_cov h1 hw with z | rfl
  · exact Fr.Stp.word z
  · exact Fr.stB_iff.mp h2
def lnP (ws : List (List Nat)) (i : Nat) : Int × Int := (((wordAt ws i).length : Int), (i : Int))
theorem base_ex (h : WsOk ws) (g : G) : ∃ bs, BaseOf ws bs ∧ (needL ws = [] → bs = ws) ∧ f_base [Ww ws] g = some (.ok (Ww bs), g) := by
  have L2' : (2 : Nat) ≤ LIM := lim1 (by omega)
  have main : ∀ (n : Nat) (us : List (List Nat)), us.length < n → WsOk us → (∀ w ∈ us, w ∈ ws) → (∀ w ∈ ws, Fr.Stp (· ∈ us) w) → (needL ws = [] → us = ws) →
      WP (sWhile (tV (e2 neD (eV 1) (eLst aNil))) [2] (sSeq (sAsg 2 (xD (e2 ixD (e1 maxPD (eComp (iL (eV 1)) [3] (tg1 3) tYesM (eTup (aCons (e1 lenD (e2 ixD (eV 0) (eV 3))) (aCons (eV 3) aNil))))) (eC (.int 1)))))
    (sSeq (sAsg 0 (xD (e2 addD (eSl (eV 0) oN (oS (eV 2))) (eSl (eV 0) (oS (e2 addD (eV 2) (eC (.int 1)))) oN))))
    (sAsg 1 (xD (callM f_needless_in (aCons (eV 0) aNil)))))) n) [some (.d (Ww us)), some (.d (.lst ((needL us).map nD))), none, none] g
      (fun fl sl g' => fl = .nx ∧ g' = g ∧ ∃ bs x, BaseOf ws bs ∧ (needL ws = [] → bs = ws) ∧ sl = [some (.d (Ww bs)), x, none, none]) := by
    intro n
    induction n with
    | zero => intro us hn; omega
    | succ n ih =>
      intro us hn W hsub hcov hno
      by_cases hz : needL us = []
      · refine wp_while0 (g1 := g) (by simp [ne_nils, hz]) ⟨rfl, rfl, us, _, ⟨hsub, W, hcov, hz⟩, hno, rfl⟩
      · refine wp_while1 (g1 := g) (by
          have := ne_nils (needL us)
          simp [this, hz]) ?_
        have cm : eComp (iL (eV 1)) [3] (tg1 3) tYesM (eTup (aCons (e1 lenD (e2 ixD (eV 0) (eV 3))) (aCons (eV 3) aNil))) [some (.d (Ww us)), some (.d (.lst ((needL us).map nD))), none, none] g = some (.ok (.lst (((needL us).map (lnP us)).map pID)), g) := by
          have := comp_map (it := iL (eV 1)) (vs := [3]) (tg := tg1 3) (elt := eTup (aCons (e1 lenD (e2 ixD (eV 0) (eV 3))) (aCons (eV 3) aNil))) (sl := [some (.d (Ww us)), some (.d (.lst ((needL us).map nD))), none, none]) (g := g) (g1 := g) (ds := (needL us).map nD) (fun d => match d with | .int z => pID (lnP us z.toNat) | _ => .non) (by simp) (by
            rw [List.length_map]
            have : (needL us).length ≤ us.length := by
              have := List.length_filter_le (fun i => Fr.stB (dropA us i) (wordAt us i)) (List.range us.length)
              rw [List.length_range] at this
              exact this
            exact lim1 (by have := W.l1; omega)) fun d hd => ?_
          · rw [this, List.map_map, List.map_map]
            congr 3
          · obtain ⟨i, hi, rfl⟩ := List.mem_map.mp hd
            have hil := (need_mem.mp hi).1
            refine ⟨_, rfl, ?_⟩
            have ix : ixD (Ww us) (.int i) = some (.str (wordAt us i)) := ix_wd hil
            simp [ix, L2', lnP]
        obtain ⟨q, qs, eq⟩ := List.exists_cons_of_ne_nil (show (needL us).map (lnP us) ≠ [] by simpa using hz)
        have hmx := maxPI_mem qs q
        rw [← eq] at hmx
        obtain ⟨i, hi, ei⟩ := List.mem_map.mp hmx
        have em : maxPD (.lst (((needL us).map (lnP us)).map pID)) = some (pID (lnP us i)) := by
          rw [eq]
          simp only [maxPD, asPI_map, Option.bind_some]
          rw [ei]
        have ix : ixD (pID (lnP us i)) (.int 1) = some (.int i) := rfl
        obtain ⟨hil, _⟩ := need_mem.mp hi
        obtain ⟨DW, Dc⟩ := need_drop W hi
        refine p_asg (d := .int i) (by simp only [e2_ap, e1_ap, cm, bindK_ok, bind_ap, lift_ap, em, liftK_some, eC_ap, ix]) ?_
        simp only [List.set_cons_succ, List.set_cons_zero]
        refine p_asg (d := Ww (dropA us i)) (dropW_ev rfl rfl (by have := W.l1; omega)) ?_
        simp only [List.set_cons_succ, List.set_cons_zero]
        refine wp_asg (g1 := g) (d := .lst ((needL (dropA us i)).map nD)) (by simp [needless_in_eq DW]) ⟨rfl, ?_⟩
        simp only [List.set_cons_succ, List.set_cons_zero, wipe_cons, wipe_nil]
        refine ih (dropA us i) (by have := dropA_len hil; omega) DW (fun w hw => hsub w (dropA_mem hw)) (fun w hw => (hcov w hw).via fun u hu => Dc u hu) fun hn0 => ?_
        rw [hno hn0] at hz
        exact absurd hn0 hz
  have m := main 1000 ws (by have := h.l1; omega) h (fun _ h => h) (fun w hw => Fr.Stp.word hw) (fun _ => rfl)
  have : WP F_base [some (.d (Ww ws)), none, none, none] g (fun fl _ g' => g' = g ∧ ∃ bs, fl = .rt (Ww bs) ∧ BaseOf ws bs ∧ (needL ws = [] → bs = ws)) := by
    unfold F_base
    refine p_drop (d := .non) (by simp [check_words_ok lets4 h]) ?_
    refine p_asg (d := .lst ((needL ws).map nD)) (by simp [needless_in_eq h]) ?_
    simp only [List.set_cons_succ, List.set_cons_zero]
    refine wp_seq (m.mono fun fl sl g' hh => ?_)
    obtain ⟨rfl, rfl, bs, x, h1, h2, rfl⟩ := hh
    exact ⟨rfl, p_ret (d := Ww bs) (by simp) ⟨rfl, bs, rfl, h1, h2⟩⟩
  obtain ⟨fl, sl', g', e, rfl, bs, rfl, h1, h2⟩ := this
  exact ⟨bs, h1, h2, fn_rt (sl := [some (.d (Ww ws)), none, none, none]) rfl ⟨_, _, _, e, .inl rfl, rfl⟩⟩
end
end Lw
namespace Lw
open PySem L2 DL
/-! ### words turned round, or with other letters -/
def symL (φ : List Nat → List Nat) (ws : List (List Nat)) : List (List Nat) := sortG leS (ws.map φ)
structure Sym (φ : List Nat → List Nat) (β : Nat → Nat → Nat) (γ : Nat → Nat) : Prop where
  inv : ∀ w, φ (φ w) = w
  len : ∀ w, (φ w).length = w.length
  bin : ∀ n b, b < n → β n b < n ∧ β n (β n b) = b
  lin : ∀ c, γ (γ c) = c
  let' : ∀ c w, c ∈ w → γ c ∈ φ w
  l4 : ∀ c, c ∈ L4 → γ c ∈ L4
  free : ∀ {S S' : List Nat → Prop} {row : List Nat} {b : Nat}, (∀ w, S w → S' (φ w)) → Fr.FreeG S row 0 row.length b → Fr.FreeG S' (φ row) 0 (φ row).length (β row.length b)
  shw : ∀ {S S' : List Nat → Prop} {row : List Nat}, (∀ w, S w → S' (φ w)) → Fr.Shw S row → Fr.Shw S' (φ row)
  way : ∀ {ws : List (List Nat)} {row : List Nat} {ss : Sts}, Way ws row ss → ∃ ss', Way (symL φ ws) (φ row) ss' ∧ ss'.length = ss.length
section
variable {G : Type} {g : G} {ws : List (List Nat)} {row : List Nat} {φ : List Nat → List Nat} {β : Nat → Nat → Nat} {γ : Nat → Nat} (Y : Sym φ β γ)
include Y
theorem sym_inj {a b : List Nat} (h : φ a = φ b) : a = b := by rw [← Y.inv a, h, Y.inv]
theorem sym_mem {w : List Nat} : w ∈ symL φ ws ↔ φ w ∈ ws := by
  unfold symL
  rw [sortG_mem, List.mem_map]
  constructor
  · rintro ⟨v, hv, rfl⟩; rw [Y.inv]; exact hv
  · exact fun h => ⟨_, h, Y.inv w⟩
theorem sym_nd {l : List (List Nat)} (h : l.Nodup) : (l.map φ).Nodup := List.pairwise_map.mpr (h.imp fun {a b} hab e => hab (sym_inj Y e))
theorem let_iff {c : Nat} {w : List Nat} : c ∈ φ w ↔ γ c ∈ w := by
  constructor
  · intro h
    have := Y.let' c (φ w) h
    rwa [Y.inv] at this
  · intro h
    have := Y.let' _ w h
    rwa [Y.lin] at this
theorem sym_l4 {w : List Nat} (h : ∀ c ∈ w, c ∈ L4) : ∀ c ∈ φ w, c ∈ L4 := fun c hc => by
  have := Y.l4 _ (h _ ((let_iff Y).mp hc))
  rwa [Y.lin] at this
theorem sym_row (h : RowOk row) : RowOk (φ row) := ⟨by rw [Y.len]; exact h.h1, by rw [Y.len]; exact h.h8, sym_l4 Y h.ab⟩
theorem sym_ok (h : WsOk ws) : WsOk (symL φ ws) := by
  have hl : (symL φ ws).length = ws.length := by rw [symL, (sortG_perm leS _).length_eq, List.length_map]
  refine ⟨by rw [hl]; exact h.l0, by rw [hl]; exact h.l1, fun w hw => ?_, sortG_strict (sym_nd Y (nodup_of_lt h.ord))⟩
  have := h.each _ ((sym_mem Y).mp hw)
  rw [WordOk, Y.len] at this
  refine ⟨this.1, this.2.1, fun c hc => ?_⟩
  have h2 := sym_l4 Y this.2.2 c (by rw [Y.inv]; exact hc)
  exact h2
theorem sym_in {w : List Nat} (hw : w ∈ ws) : φ w ∈ symL φ ws := (sym_mem Y).mpr (by rw [Y.inv]; exact hw)
theorem sym_sym (h : WsOk ws) : symL φ (symL φ ws) = ws := by
  refine ord_uniq (sym_ok Y (sym_ok Y h)).ord h.ord fun w => ?_
  rw [sym_mem Y, sym_mem Y, Y.inv]
theorem stp_sym {S S' : List Nat → Prop} (hS : ∀ w, S w → S' (φ w)) (h : Fr.Stp S row) : Fr.Stp S' (φ row) := by
  intro b hb
  rw [Y.len] at hb
  obtain ⟨h1, h2⟩ := Y.bin row.length b hb
  have := Y.free hS (h _ h1)
  rw [h2] at this
  exact this
theorem sym_stB {s : List Nat} : Fr.stB (symL φ ws) (φ s) = Fr.stB ws s := by
  rw [Bool.eq_iff_iff, Fr.stB_iff, Fr.stB_iff]
  constructor
  · intro h
    have := stp_sym Y (S' := (· ∈ ws)) (fun w hw => (sym_mem Y).mp hw) h
    rwa [Y.inv] at this
  · intro h
    exact stp_sym Y (S' := (· ∈ symL φ ws)) (fun w hw => sym_in Y hw) h
theorem sym_shB {s : List Nat} : Fr.shB (symL φ ws) (φ s) = Fr.shB ws s := by
  rw [Bool.eq_iff_iff, Fr.shB_iff, Fr.shB_iff]
  constructor
  · intro h
    have := Y.shw (S' := (· ∈ ws)) (fun w hw => (sym_mem Y).mp hw) h
    rwa [Y.inv] at this
  · intro h
    exact Y.shw (S' := (· ∈ symL φ ws)) (fun w hw => sym_in Y hw) h
theorem sym_free {b : Nat} (hb : b < row.length) : Fr.Free (symL φ ws) (φ row) 0 (β row.length b) ↔ Fr.Free ws row 0 b := by
  rw [Fr.free0_iff, Fr.free0_iff]
  constructor
  · intro h
    have := Y.free (S' := (· ∈ ws)) (fun w hw => (sym_mem Y).mp hw) h
    rw [Y.inv, Y.len, (Y.bin _ _ hb).2] at this
    exact this
  · intro h
    exact Y.free (S' := (· ∈ symL φ ws)) (fun w hw => sym_in Y hw) h
theorem sym_stuck {b : Nat} : b ∈ stuckL (symL φ ws) (φ row) ↔ b < row.length ∧ β row.length b ∈ stuckL ws row := by
  rw [stuck_mem, stuck_mem, Y.len]
  constructor
  · rintro ⟨h1, h2⟩
    obtain ⟨q1, q2⟩ := Y.bin _ _ h1
    refine ⟨h1, q1, fun hf => h2 ?_⟩
    have := (sym_free Y (ws := ws) q1).mpr hf
    rwa [q2] at this
  · rintro ⟨h1, q1, h2⟩
    refine ⟨h1, fun hf => h2 ?_⟩
    rw [← (Y.bin _ _ h1).2] at hf
    exact (sym_free Y (ws := ws) q1).mp hf
theorem stuck_nd (ws : List (List Nat)) (row : List Nat) : (stuckL ws row).Nodup := (List.nodup_range).filter _
theorem sym_stuck_len : (stuckL (symL φ ws) (φ row)).length = (stuckL ws row).length := by
  have hm : ∀ {l : List Nat}, (∀ b ∈ l, b < row.length) → l.Nodup → (l.map (β row.length)).Nodup := fun {l} hl hn =>
    List.pairwise_map.mpr (List.Pairwise.imp_of_mem (fun {a b} ha hb hab e => hab (by rw [← (Y.bin _ _ (hl a ha)).2, e, (Y.bin _ _ (hl b hb)).2])) hn)
  refine Nat.le_antisymm ?_ ?_
  · have := Fr.nd_le ((stuckL (symL φ ws) (φ row)).map (β row.length)) (stuckL ws row) (hm (fun b hb => ((sym_stuck Y).mp hb).1) (stuck_nd Y _ _)) fun x hx => by
      obtain ⟨b, hb, rfl⟩ := List.mem_map.mp hx
      exact ((sym_stuck Y).mp hb).2
    rwa [List.length_map] at this
  · have := Fr.nd_le ((stuckL ws row).map (β row.length)) (stuckL (symL φ ws) (φ row)) (hm (fun b hb => (stuck_mem.mp hb).1) (stuck_nd Y _ _)) fun x hx => by
      obtain ⟨b, hb, rfl⟩ := List.mem_map.mp hx
      have hlt := (stuck_mem.mp hb).1
      obtain ⟨q1, q2⟩ := Y.bin _ _ hlt
      exact (sym_stuck Y).mpr ⟨q1, by rw [q2]; exact hb⟩
    rwa [List.length_map] at this
theorem sym_rows {n : Nat} : Fr.rowsL (symL φ ws) n = sortG leS ((Fr.rowsL ws n).map φ) := by
  refine ord_uniq (Fr.rowsL_ord _ _) (sortG_strict (sym_nd Y (nodup_of_lt (Fr.rowsL_ord _ _)))) fun s => ?_
  rw [sortG_mem, List.mem_map, Fr.rowsL_mem]
  constructor
  · rintro ⟨a1, a2, a3⟩
    refine ⟨φ s, Fr.rowsL_mem.mpr ⟨by rw [Y.len]; exact a1, fun c hc => ?_, ?_⟩, Y.inv s⟩
    · obtain ⟨w, hw, q⟩ := a2 _ ((let_iff Y).mp hc)
      exact ⟨φ w, (sym_mem Y).mp hw, (let_iff Y).mpr q⟩
    · rw [← sym_stB Y, Y.inv]; exact a3
  · rintro ⟨r, hr, rfl⟩
    obtain ⟨a1, a2, a3⟩ := Fr.rowsL_mem.mp hr
    refine ⟨by rw [Y.len]; exact a1, fun c hc => ?_, by rw [sym_stB Y]; exact a3⟩
    obtain ⟨w, hw, q⟩ := a2 _ ((let_iff Y).mp hc)
    exact ⟨φ w, sym_in Y hw, (let_iff Y).mpr q⟩
theorem sym_rows_len {n : Nat} : (Fr.rowsL (symL φ ws) n).length = (Fr.rowsL ws n).length := by
  rw [sym_rows Y, (sortG_perm leS _).length_eq, List.length_map]
theorem lets_nd (ws : List (List Nat)) : (Fr.lets ws).Nodup := nodup_of_lt (Fr.lets_ord ws)
theorem sym_lets_le : (Fr.lets ws).length ≤ (Fr.lets (symL φ ws)).length := by
  have := Fr.nd_le2 ((Fr.lets ws).map fun l => l.map γ) (Fr.lets (symL φ ws)) ?_ fun x hx => ?_
  · rwa [List.length_map] at this
  · refine List.pairwise_map.mpr (List.Pairwise.imp_of_mem (fun {a b} ha hb hab e => hab ?_) (lets_nd Y ws))
    have e2 := congrArg (fun l => l.map γ) e
    simp only [List.map_map] at e2
    have : (γ ∘ γ) = id := by funext c; exact Y.lin c
    rwa [this, List.map_id, List.map_id] at e2
  · obtain ⟨l, hl, rfl⟩ := List.mem_map.mp hx
    obtain ⟨c, rfl, w, hw, hc⟩ := Fr.lets_mem.mp hl
    exact Fr.lets_mem1.mpr ⟨φ w, sym_in Y hw, Y.let' c w hc⟩
theorem sym_lets (h : WsOk ws) : (Fr.lets (symL φ ws)).length = (Fr.lets ws).length := by
  refine Nat.le_antisymm ?_ (sym_lets_le Y)
  have := sym_lets_le Y (ws := symL φ ws)
  rwa [sym_sym Y h] at this
theorem sym_miss (h : WsOk ws) {n : Nat} : missL (symL φ ws) n = none ↔ missL ws n = none := by
  rw [miss_none, miss_none, sym_rows_len Y, sym_lets Y h]
omit Y in
/-- the needless words, by themselves -/
theorem need_words (h : WsOk ws) : (needL ws).length = (ws.filter fun w => Fr.stB (ws.filter fun v => decide (v ≠ w)) w).length := by
  have hset : ∀ i, i < ws.length → Fr.stB (dropA ws i) (wordAt ws i) = Fr.stB (ws.filter fun v => decide (v ≠ wordAt ws i)) (wordAt ws i) := by
    intro i hi
    have hs : ∀ v, v ∈ dropA ws i ↔ v ∈ ws.filter fun v => decide (v ≠ wordAt ws i) := by
      intro v
      rw [List.mem_filter, decide_eq_true_eq]
      constructor
      · intro hv
        refine ⟨dropA_mem hv, fun e => ?_⟩
        have hnd := nodup_of_lt h.ord
        have hat : wordAt ws i = ws[i] := by
          unfold wordAt
          rw [List.getD_eq_getElem?_getD, List.getElem?_eq_getElem hi]; rfl
        rw [e, hat] at hv
        unfold dropA at hv
        have hsp : ws = ws.take i ++ (ws[i] :: ws.drop (i + 1)) := by
          rw [← List.drop_eq_getElem_cons hi, List.take_append_drop]
        rw [hsp] at hnd
        obtain ⟨n1, n2, n3⟩ := List.nodup_append.mp hnd
        rcases List.mem_append.mp hv with z | z
        · exact n3 _ z _ (List.mem_cons_self) rfl
        · exact (List.nodup_cons.mp n2).1 z
      · rintro ⟨h1, h2⟩
        rcases dropA_cov hi h1 with z | z
        · exact z
        · exact absurd z h2
    rw [Bool.eq_iff_iff, Fr.stB_iff, Fr.stB_iff]
    exact ⟨fun q => q.mono fun v hv => (hs v).mp hv, fun q => q.mono fun v hv => (hs v).mpr hv⟩
  have e1 : needL ws = (List.range ws.length).filter fun i => Fr.stB (ws.filter fun v => decide (v ≠ wordAt ws i)) (wordAt ws i) := by
    unfold needL
    exact List.filter_congr fun i hi => hset i (List.mem_range.mp hi)
  have e2 : (List.range ws.length).map (wordAt ws) = ws := by
    refine List.ext_getElem? fun i => ?_
    rw [List.getElem?_map]
    by_cases hi : i < ws.length
    · rw [List.getElem?_range hi, List.getElem?_eq_getElem hi]
      show some (wordAt ws i) = _
      unfold wordAt
      rw [List.getD_eq_getElem?_getD, List.getElem?_eq_getElem hi]; rfl
    · rw [List.getElem?_eq_none (by simp; omega), List.getElem?_eq_none (by omega)]; rfl
  rw [e1]
  conv => rhs; rw [← e2, List.filter_map, List.length_map]
  rw [e2]
  rfl
theorem sym_need (h : WsOk ws) : (needL (symL φ ws)).length = (needL ws).length := by
  rw [need_words (sym_ok Y h), need_words h]
  have e0 : (symL φ ws).Perm (ws.map φ) := sortG_perm leS _
  rw [(e0.filter _).length_eq, List.filter_map, List.length_map]
  congr 1
  refine List.filter_congr fun w hw => ?_
  show Fr.stB ((symL φ ws).filter fun v => decide (v ≠ φ w)) (φ w) = _
  rw [Bool.eq_iff_iff, Fr.stB_iff, Fr.stB_iff]
  constructor
  · intro q
    have := stp_sym Y (S' := (· ∈ ws.filter fun v => decide (v ≠ w))) (fun v hv => by
      obtain ⟨h1, h2⟩ := List.mem_filter.mp hv
      rw [decide_eq_true_eq] at h2
      exact List.mem_filter.mpr ⟨(sym_mem Y).mp h1, decide_eq_true fun e => h2 (by rw [← e, Y.inv])⟩) q
    rwa [Y.inv] at this
  · intro q
    exact stp_sym Y (S' := (· ∈ (symL φ ws).filter fun v => decide (v ≠ φ w))) (fun v hv => by
      obtain ⟨h1, h2⟩ := List.mem_filter.mp hv
      rw [decide_eq_true_eq] at h2
      exact List.mem_filter.mpr ⟨sym_in Y h1, decide_eq_true fun e => h2 (sym_inj Y e)⟩) q
theorem sym_few (h : WsOk ws) (hr : RowOk row) {o o' : Option Sts} (ho : FoundW ws row o) (ho' : FoundW (symL φ ws) (φ row) o') : fwD o' = fwD o := by
  match o, ho with
  | none, ho =>
    match o', ho' with
    | none, _ => rfl
    | some w, ho' =>
      have h1 := ho'.2.2.1
      rw [sym_stB Y, ho.1] at h1
      cases h1
  | some w, ho =>
    obtain ⟨s1, q1, q2⟩ := Y.way ho.1
    obtain ⟨v, rfl, hv, _, lv, lm⟩ := found_some ho' q1
    obtain ⟨s2, q3, q4⟩ := Y.way hv
    rw [sym_sym Y h, Y.inv] at q3
    have := ho.2.2.2 _ q3
    show D.int v.length = D.int w.length
    have : v.length = w.length := by omega
    rw [this]
end
/-! ### the two -/
theorem symT : Sym List.reverse (fun n b => n - 1 - b) id := by
  refine ⟨List.reverse_reverse, fun w => List.length_reverse, fun n b hb => ⟨by omega, by omega⟩, fun _ => rfl, fun c w h => List.mem_reverse.mpr h, fun _ h => h, fun {S S' row b} hS h => ?_, fun {S S' row} hS h => h.rev hS, fun {ws row ss} h => h.turn⟩
  have := h.rev hS
  exact this.mono (fun _ h => h) (by omega) (by rw [List.length_reverse]; omega)
def flipC (c : Nat) : Nat := if c = 97 then 98 else if c = 98 then 97 else if c = 99 then 100 else if c = 100 then 99 else c
theorem flip_flip (c : Nat) : flipC (flipC c) = c := by
  unfold flipC
  by_cases h1 : c = 97
  · simp [h1]
  · by_cases h2 : c = 98
    · simp [h2]
    · by_cases h3 : c = 99
      · simp [h3]
      · by_cases h4 : c = 100
        · simp [h4]
        · simp [h1, h2, h3, h4]
def flipW (w : List Nat) : List Nat := w.map flipC
theorem flipW_inv (w : List Nat) : flipW (flipW w) = w := by
  unfold flipW
  rw [List.map_map]
  have : (flipC ∘ flipC) = id := by funext c; exact flip_flip c
  rw [this, List.map_id]
theorem symF : Sym flipW (fun _ b => b) flipC := by
  refine ⟨flipW_inv, fun w => List.length_map _, fun n b hb => ⟨hb, rfl⟩, flip_flip, fun c w h => List.mem_map.mpr ⟨c, h, rfl⟩, fun c h => ?_, fun {S S' row b} hS h => ?_, fun {S S' row} hS h => h.sub flipC hS, fun {ws row ss} h => ?_⟩
  · have := mem4.mp h
    refine mem4.mpr ?_
    have : c = 97 ∨ c = 98 ∨ c = 99 ∨ c = 100 := by omega
    rcases this with rfl | rfl | rfl | rfl <;> decide
  · have := h.sub (S' := S') flipC hS
    show Fr.FreeG S' (row.map flipC) 0 ((row.map flipC).length) b
    rw [List.length_map]
    exact this
  · have hm : ∀ s ∈ ss, (symL flipW ws).idxOf (flipW (wordAt ws s.1)) < (symL flipW ws).length ∧ wordAt (symL flipW ws) ((symL flipW ws).idxOf (flipW (wordAt ws s.1))) = flipW (wordAt ws s.1) := fun s hs =>
      at_idx (sortG_mem.mpr (List.mem_map.mpr ⟨_, at_mem (h.1 s hs).1, rfl⟩))
    refine ⟨ss.map fun s => ((symL flipW ws).idxOf (flipW (wordAt ws s.1)), s.2), ⟨fun s hs => ?_, ?_⟩, by simp⟩
    · obtain ⟨t, ht, rfl⟩ := List.mem_map.mp hs
      obtain ⟨a, b⟩ := hm t ht
      refine ⟨a, ?_⟩
      simp only [b]
      unfold flipW
      rw [List.length_map, List.length_map]
      exact (h.1 t ht).2
    · have key : ∀ (l : Sts) (acc : List Nat), (∀ s ∈ l, s ∈ ss) → (l.map fun s => ((symL flipW ws).idxOf (flipW (wordAt ws s.1)), s.2)).foldl (fun acc s => setOn acc (wordAt (symL flipW ws) s.1) s.2) (acc.map flipC) = (l.foldl (fun acc s => setOn acc (wordAt ws s.1) s.2) acc).map flipC := by
        intro l
        induction l with
        | nil => intro acc _; rfl
        | cons s l ih =>
          intro acc hl
          rw [List.map_cons, List.foldl_cons, List.foldl_cons, (hm s (hl s (by simp))).2, ← ih _ fun t ht => hl t (by simp [ht])]
          congr 1
          unfold flipW
          rw [setOn_map]
      have k := key ss (List.replicate row.length 46) fun _ h => h
      rw [List.map_replicate] at k
      show List.foldl _ _ _ = _
      unfold flipW
      rw [List.length_map]
      have e46 : flipC 46 = 46 := by decide
      rw [e46] at k
      exact k.trans (congrArg (List.map flipC) h.2)
end Lw
namespace DL
open PySem L2
/-! ### dicts from boxes to signs -/
theorem dGet_cons (q : DKey × D) (l : List (DKey × D)) (k : DKey) : dGet (q :: l) k = if q.1 = k then some q.2 else dGet l k := by
  unfold dGet
  rw [List.find?_cons]
  by_cases h : q.1 = k
  · simp [h]
  · simp [h]
theorem dGet_mapk (k : DKey) (v : D) (k' : DKey) : ∀ kvs : List (DKey × D), dGet (kvs.map fun q => if q.1 = k then (q.1, v) else q) k' = if k = k' then (dGet kvs k').map (fun _ => v) else dGet kvs k'
  | [] => by simp [dGet]
  | q :: l => by
    rw [List.map_cons, dGet_cons, dGet_cons, dGet_mapk k v k' l]
    by_cases hq : q.1 = k
    · rw [if_pos hq]
      by_cases hk : k = k'
      · simp [hq, hk]
      · simp [hq, hk]
    · rw [if_neg hq]
      by_cases hk : k = k'
      · have : ¬ q.1 = k' := by rw [← hk]; exact hq
        simp [hk, this]
      · simp [hk]
theorem dGet_app (l m : List (DKey × D)) (k : DKey) : dGet (l ++ m) k = (dGet l k).or (dGet m k) := by
  induction l with
  | nil => simp [dGet]
  | cons q l ih =>
    rw [List.cons_append, dGet_cons, dGet_cons, ih]
    split <;> simp
theorem dGet_any (kvs : List (DKey × D)) (k : DKey) : (kvs.any fun q => decide (q.1 = k)) = (dGet kvs k).isSome := by
  induction kvs with
  | nil => rfl
  | cons q l ih =>
    rw [List.any_cons, dGet_cons, ih]
    by_cases h : q.1 = k <;> simp [h]
theorem dGet_put (kvs : List (DKey × D)) (k : DKey) (v : D) (k' : DKey) : dGet (dPut kvs k v) k' = if k = k' then some v else dGet kvs k' := by
  unfold dPut
  rw [dGet_any]
  split
  · rename_i h
    rw [dGet_mapk]
    by_cases hk : k = k'
    · subst hk
      obtain ⟨x, hx⟩ := Option.isSome_iff_exists.mp h
      simp [hx]
    · simp [hk]
  · rename_i h
    rw [dGet_app, dGet_cons]
    by_cases hk : k = k'
    · subst hk
      have : dGet kvs k = none := by
        cases e : dGet kvs k with
        | none => rfl
        | some x => rw [e] at h; simp at h
      simp [this]
    · simp [hk, dGet]
/-- boxes by whole numbers -/
structure ZInv (kvs : List (DKey × D)) (F : Int → Option Nat) (ks : List Int) : Prop where
  get : ∀ z, dGet kvs (.inl z) = (F z).map fun c => D.str [c]
  keys : kvs.map (·.1) = ks.map Sum.inl
  nd : ks.Nodup
  mem : ∀ z, z ∈ ks ↔ (F z).isSome = true
theorem intKs_of : ∀ {kvs : List (DKey × D)} {ks : List Int}, kvs.map (·.1) = ks.map Sum.inl → intKs kvs = some ks
  | [], [], _ => rfl
  | [], _ :: _, h => by cases h
  | _ :: _, [], h => by cases h
  | (a, d) :: kvs, k :: ks, h => by
    rw [List.map_cons, List.map_cons] at h
    injection h with h1 h2
    simp only at h1
    subst h1
    show (intKs kvs).map (k :: ·) = _
    rw [intKs_of h2]; rfl
theorem ZInv.put {kvs : List (DKey × D)} {F : Int → Option Nat} {ks : List Int} (h : ZInv kvs F ks) (z : Int) (c : Nat) : ∃ ks', ZInv (dPut kvs (.inl z) (.str [c])) (fun y => if y = z then some c else F y) ks' ∧ ks'.length ≤ ks.length + 1 := by
  have hget : ∀ y, dGet (dPut kvs (.inl z) (.str [c])) (.inl y) = (if y = z then some c else F y).map fun c => D.str [c] := by
    intro y
    rw [dGet_put]
    by_cases hy : y = z
    · subst hy; simp
    · have : ¬ (Sum.inl z : DKey) = Sum.inl y := fun e => hy (by injection e with e; exact e.symm)
      rw [if_neg this, if_neg hy, h.get]
  have hany : (kvs.any fun q => decide (q.1 = (Sum.inl z : DKey))) = (F z).isSome := by
    rw [dGet_any, h.get, Option.isSome_map]
  by_cases hz : (F z).isSome = true
  · refine ⟨ks, ⟨hget, ?_, h.nd, fun y => ?_⟩, by omega⟩
    · unfold dPut
      rw [hany, if_pos hz, List.map_map, ← h.keys]
      exact List.map_congr_left fun q _ => by
        show (if q.1 = Sum.inl z then (q.1, D.str [c]) else q).1 = q.1
        split <;> rfl
    · rw [h.mem]
      by_cases hy : y = z
      · subst hy; simp [hz]
      · simp [hy]
  · refine ⟨ks ++ [z], ⟨hget, ?_, ?_, fun y => ?_⟩, by simp⟩
    · unfold dPut
      rw [hany, if_neg hz, List.map_append, h.keys, List.map_append]
      rfl
    · refine List.nodup_append.mpr ⟨h.nd, by simp, fun x hx y hy e => ?_⟩
      simp at hy
      subst hy
      subst e
      exact hz ((h.mem x).mp hx)
    · rw [List.mem_append, h.mem, List.mem_singleton]
      by_cases hy : y = z
      · subst hy; simp
      · simp [hy]
def prZ (l : List (Int × Nat)) : List (DKey × D) := l.map fun x => (.inl x.1, .str [x.2])
theorem ZInv.merge : ∀ (l : List (Int × Nat)) {kvs : List (DKey × D)} {F : Int → Option Nat} {ks : List Int}, ZInv kvs F ks → ∃ ks', ZInv (dMerge kvs (prZ l)) (fun z => (l.reverse.findSome? fun x => if x.1 = z then some x.2 else none).or (F z)) ks' ∧ ks'.length ≤ ks.length + l.length
  | [], kvs, F, ks, h => ⟨ks, by simpa [prZ, dMerge] using h, by simp⟩
  | x :: l, kvs, F, ks, h => by
    obtain ⟨k1, h1, e1⟩ := h.put x.1 x.2
    obtain ⟨k2, h2, e2⟩ := ZInv.merge l h1
    refine ⟨k2, ?_, by simp only [List.length_cons]; omega⟩
    have ef : (fun z => ((x :: l).reverse.findSome? fun x => if x.1 = z then some x.2 else none).or (F z)) = fun z => (l.reverse.findSome? fun x => if x.1 = z then some x.2 else none).or (if z = x.1 then some x.2 else F z) := by
      funext z
      rw [List.reverse_cons, List.findSome?_append]
      cases l.reverse.findSome? fun x => if x.1 = z then some x.2 else none with
      | some c => rfl
      | none =>
        by_cases hz : z = x.1
        · subst hz; simp
        · have : ¬ x.1 = z := fun e => hz e.symm
          simp [hz, this]
    rw [ef]
    exact h2
theorem merge_new : ∀ (w : List Nat) (p : Int) (acc : List (DKey × D)), (∀ q ∈ acc, ∃ z : Int, q.1 = .inl z ∧ z < p) → dMerge acc (prZ (Fr.bs w p)) = acc ++ prZ (Fr.bs w p)
  | [], _, acc, _ => by simp [prZ, Fr.bs, dMerge]
  | c :: w, p, acc, h => by
    have hn : ¬ (acc.any fun q => decide (q.1 = (Sum.inl p : DKey))) = true := by
      rw [List.any_eq_true]
      rintro ⟨q, hq, e⟩
      obtain ⟨z, ez, hz⟩ := h q hq
      rw [decide_eq_true_eq, ez] at e
      injection e with e
      omega
    show dMerge (dPut acc (.inl p) (.str [c])) (prZ (Fr.bs w (p + 1))) = acc ++ ((.inl p, .str [c]) :: prZ (Fr.bs w (p + 1)))
    unfold dPut
    rw [if_neg hn, merge_new w (p + 1) _ fun q hq => ?_, List.append_assoc]
    · rfl
    · rcases List.mem_append.mp hq with z | z
      · obtain ⟨y, ey, hy⟩ := h q z
        exact ⟨y, ey, by omega⟩
      · rw [List.mem_singleton.mp z]
        exact ⟨p, rfl, by omega⟩
theorem find_bs (z : Int) : ∀ (w : List Nat) (p : Int), ((Fr.bs w p).reverse.findSome? fun x => if x.1 = z then some x.2 else none) = if p ≤ z then w[(z - p).toNat]? else none
  | [], p => by simp [Fr.bs]
  | c :: w, p => by
    rw [Fr.bs, List.reverse_cons, List.findSome?_append, find_bs z w (p + 1)]
    by_cases h1 : p + 1 ≤ z
    · rw [if_pos h1, if_pos (by omega), show (z - p).toNat = (z - (p + 1)).toNat + 1 by omega]
      simp only [List.getElem?_cons_succ]
      have : ¬ p = z := by omega
      simp [this]
    · rw [if_neg h1]
      by_cases h2 : p = z
      · subst h2; simp
      · rw [if_neg (by omega)]
        simp [h2]
end DL
namespace Lw
open PySem L2 DL
section
variable {G : Type} {g : G} {ws : List (List Nat)} {row : List Nat}
theorem asPrs_bs : ∀ (l : List (Int × Nat)), asPrs (l.map bD) = some (prZ l)
  | [] => rfl
  | x :: l => by
    show (keyD (.int x.1)).bind (fun k => (asPrs (l.map bD)).map ((k, .str [x.2]) :: ·)) = _
    rw [asPrs_bs l]; rfl
theorem p_updK {sl : SL} {Q : Fl → SL → G → Prop} {i : Nat} {f : M G D} {kvs prs : List (DKey × D)} {ds : List D} (h : sl[i]? = some (some (.oK kvs))) (e : f sl g = some (.ok (.lst ds), g)) (e2 : asPrs ds = some prs) (hl : kvs.length + prs.length ≤ LIM) (k : Q .nx (sl.set i (some (.oK (dMerge kvs (dMerge [] prs))))) g) : WP (sUpd i f) sl g Q := by
  refine ⟨.nx, _, _, ?_, k⟩
  unfold sUpd sOwnK
  rw [h]
  simp only
  rw [do_ap, e, doK_ok]
  unfold sMutK
  rw [h]
  simp only [asL_l, Option.bind_some, e2, hl, if_true]
/-- a row that has the text -/
structure RowW (ws : List (List Nat)) (text r : List Nat) : Prop where
  str : strB 16 r = true
  sub : isSub text r = true
  st : Fr.stB ws r = true
theorem row_with_eq (h : WsOk ws) (hr : RowOk row) (g : G) : (Fr.shB ws row = false ∧ f_row_with [Ww ws, .str row] g = some (.ok .non, g)) ∨ (Fr.shB ws row = true ∧ ∃ r, RowW ws row r ∧ f_row_with [Ww ws, .str row] g = some (.ok (.str r), g)) := by
  have h8 := hr.h8
  have h1 := hr.h1
  have sh := shown_eq (g := g) (row := row) h (by omega)
  cases hb : Fr.shB ws row with
  | false =>
    refine .inl ⟨rfl, fn_rt (sl := [some (.d (Ww ws)), some (.d (.str row)), none, none, none, none]) rfl ?_⟩
    unfold F_row_with
    rw [hb] at sh
    refine p_drop (d := .non) (by simp [check_row_eq h hr]) ?_
    refine wp_seq ⟨.nx, [some (.d (Ww ws)), some (.d (.str row)), some (.d .non), some (.oK []), none, none], g, by simp [sh, xDnew], rfl, ?_⟩
    exact wp_seq2 (p_if (k := true) (by simp) (fun _ => p_ret (d := .non) (by simp) (.inr ⟨_, rfl, .inl rfl, rfl⟩)) (by intro h; cases h))
  | true =>
    refine .inr ⟨rfl, ?_⟩
    rw [hb] at sh
    have pth := Fr.freed_pth ws row 3
    have hfull : ∀ b, b < row.length → b ∈ (Fr.freed ws row 3).1 := by
      have := hb
      unfold Fr.shB at this
      rw [decide_eq_true_eq, Fr.freeL_all] at this
      exact fun b hb => Fr.mem_freeL.mpr (this b hb)
    have hdl : (Fr.doneL ws row 3).length ≤ 8 := by
      have := pth.len
      have := Fr.freeL_le ws row 3
      unfold Fr.doneL
      unfold Fr.freeL at this
      omega
    obtain ⟨lo, hi, a1, a2, a3, a4, a5⟩ := Fr.interval (Fr.doneL ws row 3) pth.on pth.touch
    generalize hdn : Fr.doneL ws row 3 = dn at *
    have pth' : Fr.PthL ws row 3 dn (Fr.freed ws row 3).1 := by rw [← hdn]; exact pth
    have hon : ∀ s ∈ dn, Fr.On ws (-3) ((row.length : Int) + 3) s := pth'.on
    have hwd : ∀ s ∈ dn, Fr.wd ws s.1 ∈ ws := fun s hs => at_mem (hon s hs).1
    have cov : ∀ z : Int, (dn.findSome? (Fr.cvZ ws · z)).isSome = true ↔ lo ≤ z ∧ z < hi := by
      intro z
      rw [a5]
      constructor
      · intro hz
        obtain ⟨c, hc⟩ := Option.isSome_iff_exists.mp hz
        obtain ⟨t, ht, htc⟩ := List.exists_of_findSome?_eq_some hc
        exact .inr ⟨t, ht, by rw [htc]; rfl⟩
      · rintro (⟨y1, y2⟩ | ⟨t, ht, htc⟩)
        · obtain ⟨b, rfl⟩ : ∃ b : Nat, z = b := ⟨z.toNat, by omega⟩
          have := (pth'.first b (hfull b (by omega))).1
          have e : dn.findSome? (Fr.cvZ ws · (b : Int)) = row[b]? := this
          rw [e, List.getElem?_eq_getElem (by omega)]; rfl
        · rw [List.findSome?_isSome_iff]
          exact ⟨t, ht, htc⟩
    -- the row
    obtain ⟨m, hm⟩ : ∃ m : Nat, (m : Int) = hi - lo := ⟨(hi - lo).toNat, by omega⟩
    let r : List Nat := (List.range m).map fun i => (dn.findSome? (Fr.cvZ ws · (lo + (i : Nat)))).getD 0
    have rlen : r.length = m := by simp [r]
    have rget : ∀ i : Nat, i < m → dn.findSome? (Fr.cvZ ws · (lo + (i : Nat))) = r[i]? := by
      intro i hi'
      have hc := (cov (lo + i)).mpr ⟨by omega, by omega⟩
      obtain ⟨c, hc⟩ := Option.isSome_iff_exists.mp hc
      simp only [r, List.getElem?_map, List.getElem?_range hi', Option.map_some]
      rw [hc]; rfl
    have rlet : ∀ c ∈ r, c ∈ L4 := by
      intro c hc
      obtain ⟨i, hi', e⟩ := List.mem_iff_getElem.mp hc
      rw [rlen] at hi'
      have hg := rget i hi'
      rw [List.getElem?_eq_getElem (by rw [rlen]; exact hi'), e] at hg
      obtain ⟨t, ht, htc⟩ := List.exists_of_findSome?_eq_some hg
      unfold Fr.cvZ at htc
      split at htc
      · exact (h.each _ (hwd t ht)).2.2 c (List.mem_of_getElem? htc)
      · cases htc
    have hstr : strB 16 r = true := strB_iff.mpr ⟨by omega, by omega, rlet⟩
    have hsub : isSub row r = true := by
      rw [isSub_iff]
      refine ⟨(-lo).toNat, by omega, List.ext_getElem? fun j => ?_⟩
      by_cases hj : j < row.length
      · rw [List.getElem?_take, if_pos hj, List.getElem?_drop, ← rget _ (by omega)]
        have := (pth'.first j (hfull j hj)).1
        have e : dn.findSome? (Fr.cvZ ws · (j : Int)) = row[j]? := this
        rw [← e]
        congr 2
        funext s
        congr 1
        omega
      · rw [List.getElem?_eq_none (by rw [List.length_take]; omega), List.getElem?_eq_none (by omega)]
    have hway : Way ws r (dn.reverse.map fun s => (s.1, (s.2 - lo).toNat)) := by
      have hst : ∀ s ∈ dn.reverse.map fun s => (s.1, (s.2 - lo).toNat), StOk ws r.length s := by
        intro s hs
        obtain ⟨t, ht, rfl⟩ := List.mem_map.mp hs
        have ht := List.mem_reverse.mp ht
        have hp := h.pos _ (hwd t ht)
        have e1 := (a5 t.2).mpr (.inr ⟨t, ht, Fr.cvZ_some.mpr (by omega)⟩)
        have e2 := (a5 (t.2 + ((Fr.wd ws t.1).length : Int) - 1)).mpr (.inr ⟨t, ht, Fr.cvZ_some.mpr (by omega)⟩)
        refine ⟨(hon t ht).1, ?_⟩
        show (t.2 - lo).toNat + (wordAt ws t.1).length ≤ r.length
        rw [← wd_at, rlen]
        omega
      refine ⟨hst, List.ext_getElem? fun b => ?_⟩
      by_cases hbm : b < r.length
      · rw [seen_get hst hbm, ← rget b (by omega)]
        unfold seenAt
        rw [← List.map_reverse, List.reverse_reverse, List.findSome?_map]
        have e : ∀ l : List Fr.St, (∀ s ∈ l, s ∈ dn) → List.findSome? ((_root_.Lw.cov ws · b) ∘ fun s : Fr.St => (s.1, (s.2 - lo).toNat)) l = List.findSome? (Fr.cvZ ws · (lo + (b : Nat))) l := by
          intro l
          induction l with
          | nil => intro _; rfl
          | cons s l ih =>
            intro hl
            rw [List.findSome?_cons, List.findSome?_cons, ih fun t ht => hl t (by simp [ht])]
            have hs := hl s (by simp)
            have hp := h.pos _ (hwd s hs)
            have e1 := (a5 s.2).mpr (.inr ⟨s, hs, Fr.cvZ_some.mpr (by omega)⟩)
            have : ((_root_.Lw.cov ws · b) ∘ fun s : Fr.St => (s.1, (s.2 - lo).toNat)) s = Fr.cvZ ws s (lo + (b : Nat)) := by
              show (if (s.2 - lo).toNat ≤ b then (wordAt ws s.1)[b - (s.2 - lo).toNat]? else none) = _
              unfold Fr.cvZ
              rw [wd_at]
              by_cases hle : s.2 ≤ lo + (b : Nat)
              · rw [if_pos (by omega), if_pos hle]; congr 1; omega
              · rw [if_neg (by omega), if_neg hle]
            rw [this]
        rw [e dn fun _ h => h]
        obtain ⟨c, hc⟩ := Option.isSome_iff_exists.mp ((cov (lo + (b : Nat))).mpr ⟨by omega, by omega⟩)
        rw [hc]; rfl
      · rw [List.getElem?_eq_none (by rw [seenL_len]; omega), List.getElem?_eq_none (by omega)]
    have hst := way_stp hway fun c hc e => by
      have := mem4.mp (rlet c hc)
      omega
    refine ⟨r, ⟨hstr, hsub, hst⟩, fn_rt (sl := [some (.d (Ww ws)), some (.d (.str row)), none, none, none, none]) rfl ?_⟩
    unfold F_row_with
    refine p_drop (d := .non) (by simp [check_row_eq h hr]) ?_
    refine wp_seq ⟨.nx, [some (.d (Ww ws)), some (.d (.str row)), some (.d (.lst (dn.map Sdi))), some (.oK []), none, none], g, by simp [sh, xDnew], rfl, ?_⟩
    refine p_not (by simp [isN]) ?_
    refine wp_seq (wp_forI (g1 := g) (ds := dn.reverse.map Sdi) (fun pre sl g' => g' = g ∧ ∃ (L : List Fr.St) (kvs : List (DKey × D)) (ks : List Int), pre = L.map Sdi ∧ ZInv kvs (fun z => L.reverse.findSome? (Fr.cvZ ws · z)) ks ∧ ks.length ≤ 4 * L.length ∧ sl = [some (.d (Ww ws)), some (.d (.str row)), some (.d (.lst (dn.map Sdi))), some (.oK kvs), none, none]) (by simp [revLD]) ⟨rfl, [], [], [], rfl, ⟨fun z => rfl, rfl, List.nodup_nil, fun z => by simp⟩, by simp, rfl⟩ ?_ ?_)
    · rintro pre x post sl g' hx ⟨rfl, L, kvs, ks, rfl, Zi, hk, rfl⟩
      obtain ⟨l1', l2', q1, q2, q3⟩ := List.map_eq_append_iff.mp hx
      obtain ⟨s, l3, rfl, rfl, q5⟩ := List.map_eq_cons_iff.mp q3
      have hs : s ∈ dn := List.mem_reverse.mp (by rw [q1]; simp)
      have hLl : L.length + 1 ≤ 8 := by
        have h2 := congrArg List.length hx
        simp at h2
        omega
      have hw4 := h.w4 _ (hwd s hs)
      have bx := boxes_eq (g := g') (ws := ws) (s := s) (hon s hs).1 (by omega)
      obtain ⟨ks', Z2, hk2⟩ := Zi.merge (Fr.bs (Fr.wd ws s.1) s.2)
      have hbl : ∀ (w : List Nat) (p : Int), (Fr.bs w p).length = w.length := by
        intro w
        induction w with
        | nil => intro p; rfl
        | cons c w ih => intro p; simp [Fr.bs, ih]
      rw [hbl] at hk2
      have hkv : kvs.length = ks.length := by
        have := congrArg List.length Zi.keys
        simpa using this
      refine ⟨_, rfl, p_updK (kvs := kvs) (prs := prZ (Fr.bs (Fr.wd ws s.1) s.2)) (ds := (Fr.bs (Fr.wd ws s.1) s.2).map bD) rfl (by simp [bx]) (asPrs_bs _) (by
        unfold prZ
        rw [List.length_map, hbl]
        exact lim1 (by omega)) ⟨.inl rfl, rfl, L ++ [s], _, ks', by simp, ?_, by simp; omega, rfl⟩⟩
      rw [merge_new _ _ [] (by simp), List.nil_append]
      have ef : (fun z => (L ++ [s]).reverse.findSome? (Fr.cvZ ws · z)) = fun z => ((Fr.bs (Fr.wd ws s.1) s.2).reverse.findSome? fun x => if x.1 = z then some x.2 else none).or (L.reverse.findSome? (Fr.cvZ ws · z)) := by
        funext z
        rw [find_bs, List.reverse_append, List.reverse_singleton, List.singleton_append, List.findSome?_cons]
        have e0 : (if s.2 ≤ z then (Fr.wd ws s.1)[(z - s.2).toNat]? else none) = Fr.cvZ ws s z := rfl
        rw [e0]
        cases Fr.cvZ ws s z <;> rfl
      rw [ef]
      exact Z2
    · rintro sl g' ⟨rfl, L, kvs, ks, hL, Zi, _, rfl⟩
      have hL' : dn.reverse = L := by
        refine (List.map_inj_right fun a b h => ?_).mp hL
        unfold Sdi at h
        simp at h
        exact Prod.ext (by omega) h.2
      subst hL'
      rw [List.reverse_reverse] at Zi
      refine ⟨rfl, ?_⟩
      have hks : ∀ z, z ∈ ks ↔ lo ≤ z ∧ z < hi := fun z => (Zi.mem z).trans (cov z)
      have hsort : (List.range m).map (fun i : Nat => lo + (i : Int)) = sortG leI ks := by
        refine sortI_uniq ((List.perm_ext_iff_of_nodup ?_ Zi.nd).mpr fun z => ?_) ?_
        · exact List.pairwise_map.mpr (List.nodup_range.imp fun {a b} hab e => hab (by omega))
        · rw [hks, List.mem_map]
          constructor
          · rintro ⟨i, hi', rfl⟩
            have := List.mem_range.mp hi'
            omega
          · rintro ⟨y1, y2⟩
            exact ⟨(z - lo).toNat, List.mem_range.mpr (by omega), by omega⟩
        · exact List.pairwise_map.mpr (List.pairwise_lt_range.imp fun {a b} hab => by omega)
      have hkl : ks.length < 64 := by
        have := (sortG_perm leI ks).length_eq
        rw [← hsort] at this
        simp at this
        omega
      have emK : mK 3 ([some (.d (Ww ws)), some (.d (.str row)), some (.d (.lst (dn.map Sdi))), some (.oK kvs), none, none] : SL) g' = some (.ok kvs, g') := mK_o rfl
      have esort : eSortK 3 ([some (.d (Ww ws)), some (.d (.str row)), some (.d (.lst (dn.map Sdi))), some (.oK kvs), none, none] : SL) g' = some (.ok (.lst ((sortG leI ks).map D.int)), g') := by
        unfold eSortK
        rw [bind_ap, emK, bindK_ok, lift_ap, intKs_of Zi.keys]
        simp only [Option.bind_some, hkl, if_true, liftK_some]
      have c : eComp (iL (eSortK 3)) [5] (tg1 5) tYesM (eDGet 3 (eV 5)) [some (.d (Ww ws)), some (.d (.str row)), some (.d (.lst (dn.map Sdi))), some (.oK kvs), none, none] g' = some (.ok (.lst ((r.map fun c => [c]).map D.str)), g') := by
        have := comp_map (it := iL (eSortK 3)) (vs := [5]) (tg := tg1 5) (elt := eDGet 3 (eV 5)) (sl := [some (.d (Ww ws)), some (.d (.str row)), some (.d (.lst (dn.map Sdi))), some (.oK kvs), none, none]) (g := g') (g1 := g') (ds := (sortG leI ks).map D.int) (fun d => match d with | .int z => .str [(dn.findSome? (Fr.cvZ ws · z)).getD 0] | _ => .non) (by simp [esort]) (by
          rw [List.length_map, (sortG_perm leI ks).length_eq]; exact lim1 (by omega)) fun d hd => ?_
        · rw [this, ← hsort, List.map_map, List.map_map]
          simp only [r, List.map_map]
          rfl
        · obtain ⟨z, hz, rfl⟩ := List.mem_map.mp hd
          have hz' := (hks z).mp ((sortG_perm leI ks).mem_iff.mp hz)
          obtain ⟨cc, hcc⟩ := Option.isSome_iff_exists.mp ((cov z).mpr hz')
          refine ⟨_, rfl, ?_⟩
          have emK2 : mK 3 ([some (.d (Ww ws)), some (.d (.str row)), some (.d (.lst (dn.map Sdi))), some (.oK kvs), none, some (.d (.int z))] : SL) g' = some (.ok kvs, g') := mK_o rfl
          have gz := Zi.get z
          rw [hcc] at gz
          simp [emK2, keyD, gz, hcc]
      have hj : joinD [] (.lst ((r.map fun c => [c]).map D.str)) = some (.str r) := by
        have := join_words (s := r.map fun c => [c]) (by rw [lt_flat]; omega)
        rw [lt_flat] at this
        exact this
      exact p_ret (d := .str r) (by simp only [eJoin, bind_ap, eC_ap, bindK_ok, lift_ap, asS_s, liftK_some, c, hj]) ⟨.inl rfl, rfl⟩
end
end Lw
namespace Fr
theorem FreeG.sign {S : List Nat → Prop} {row : List Nat} {lo hi : Int} {b : Nat} (h : FreeG S row lo hi b) : ∃ w c, S w ∧ c ∈ w ∧ row[b]? = some c := by
  induction h with
  | @mk b w p i hw h1 h2 h3 h4 h5 h6 ih =>
    by_cases he : w[i]? = row[b]?
    · rw [List.getElem?_eq_getElem h3] at he
      exact ⟨w, w[i], hw, List.getElem_mem h3, he.symm⟩
    · exact ih i b h3 h4 h5 he
theorem Shw.one {S : List Nat → Prop} {w : List Nat} {c : Nat} (hw : S w) (h4 : w.length ≤ 4) (hc : c ∈ w) : Shw S [c] := by
  intro b hb
  have hb0 : b = 0 := by simpa using hb
  subst hb0
  obtain ⟨i, hi, e⟩ := List.mem_iff_getElem.mp hc
  refine .mk w (-(i : Int)) i hw (by omega) (by simp; omega) hi (by omega) (by simp) fun j b' hj eb hb' hn => absurd ?_ hn
  have : b' = 0 := by simpa using hb'
  subst this
  have : j = i := by omega
  subst this
  rw [List.getElem?_eq_getElem hj, e]; rfl
end Fr
namespace Lw
open PySem L2 DL
section
variable {G : Type} {g : G} {ws : List (List Nat)} {row : List Nat}
theorem show_one (h : WsOk ws) (c : Nat) : Fr.shB ws [c] = decide (c ∈ ws.flatten) := by
  rw [Bool.eq_iff_iff, Fr.shB_iff, decide_eq_true_eq, List.mem_flatten]
  constructor
  · intro hs
    obtain ⟨w, d, hw, hd, e⟩ := (hs 0 (by simp)).sign
    simp at e
    subst e
    exact ⟨w, hw, hd⟩
  · rintro ⟨w, hw, hc⟩
    exact Fr.Shw.one hw (h.w4 w hw) hc
theorem show_of_stamp (h : WsOk ws) (hs : Fr.stB ws row = true) : Fr.shB ws row = true := Fr.shB_iff.mpr ((Fr.stB_iff.mp hs).shw h.w4)
theorem show_drop (h : WsOk ws) (hs : Fr.shB ws row = true) (n : Nat) : Fr.shB ws (row.drop n) = true := by
  by_cases hn : n ≤ row.length
  · exact Fr.shB_iff.mpr ((Fr.shB_iff.mp hs).part h.w4 n (by rw [List.length_drop]; omega) fun i _ => by rw [List.getElem?_drop])
  · rw [List.drop_of_length_le (by omega)]
    exact Fr.shB_iff.mpr fun b hb => by simp at hb
theorem show_take (h : WsOk ws) (hs : Fr.shB ws row = true) (n : Nat) : Fr.shB ws (row.take n) = true :=
  Fr.shB_iff.mpr ((Fr.shB_iff.mp hs).part h.w4 0 (by rw [List.length_take]; omega) fun i hi => by
    rw [List.length_take] at hi
    rw [Nat.zero_add, List.getElem?_take, if_pos (by omega)])
theorem row_drop (hr : RowOk row) {n : Nat} (hn : n < row.length) : RowOk (row.drop n) := ⟨by rw [List.length_drop]; omega, by rw [List.length_drop]; have := hr.h8; omega, fun c hc => hr.ab c (List.mem_of_mem_drop hc)⟩
theorem row_take (hr : RowOk row) {n : Nat} (hn : 1 ≤ n) : RowOk (row.take n) := ⟨by rw [List.length_take]; have := hr.h1; omega, by rw [List.length_take]; have := hr.h8; omega, fun c hc => hr.ab c (List.mem_of_mem_take hc)⟩
theorem sub_part {p s a : List Nat} : isSub a (p ++ a ++ s) = true := by
  rw [isSub_iff]
  refine ⟨p.length, by simp, ?_⟩
  rw [List.append_assoc, List.drop_left, List.take_left]
theorem is_row_with_true {v : List Nat} (h : WsOk ws) (hr : RowOk row) (hv : RowW ws row v) : f_is_row_with [Ww ws, .str row, .str v] g = some (.ok (.bl true), g) := by
  have := is_row_with_eq (g := g) h hr (v := v) (by have := (strB_iff.mp hv.str).2.1; omega)
  rw [this, hv.str, hv.sub, hv.st]
  rfl
end
end Lw
namespace Lw
open PySem L2 DL
theorem setOn_eq (acc w : List Nat) (p : Nat) (h : p + w.length ≤ acc.length) : setOn acc w p = acc.take p ++ w ++ acc.drop (p + w.length) := by
  refine List.ext_getElem? fun b => ?_
  rw [setOn_get _ _ _ _ h]
  by_cases h1 : b < p
  · rw [if_neg (by omega), List.getElem?_append_left (by rw [List.length_append, List.length_take]; omega), List.getElem?_append_left (by rw [List.length_take]; omega), List.getElem?_take, if_pos h1]
  · by_cases h2 : b < p + w.length
    · rw [if_pos (by omega), List.getElem?_append_left (by rw [List.length_append, List.length_take]; omega), List.getElem?_append_right (by rw [List.length_take]; omega), List.length_take]
      congr 1; omega
    · rw [if_neg (by omega), List.getElem?_append_right (by rw [List.length_append, List.length_take]; omega), List.length_append, List.length_take, List.getElem?_drop]
      congr 1; omega
theorem put_all {ws : List (List Nat)} : ∀ (ss : Sts) (acc : List Nat), (∀ s ∈ ss, StOk ws acc.length s) → Fr.Stp (· ∈ ws) acc → Fr.Stp (· ∈ ws) (ss.foldl (fun acc s => setOn acc (wordAt ws s.1) s.2) acc)
  | [], acc, _, h => h
  | s :: ss, acc, hs, h => by
    have h1 := hs s (by simp)
    rw [List.foldl_cons]
    refine put_all ss _ (fun t ht => by rw [setOn_len]; exact hs t (by simp [ht])) ?_
    rw [setOn_eq _ _ _ h1.2]
    exact Fr.Stp.put s.2 h1.2 (Fr.Stp.word (at_mem h1.1)) h
/-- ways side by side -/
theorem Way.app {ws : List (List Nat)} {r1 r2 : List Nat} {s1 s2 : Sts} (h1 : Way ws r1 s1) (h2 : Way ws r2 s2) : ∃ ss, Way ws (r1 ++ r2) ss ∧ ss.length = s1.length + s2.length := by
  have hst : ∀ s ∈ s1 ++ s2.map (fun s => (s.1, s.2 + r1.length)), StOk ws (r1 ++ r2).length s := by
    intro s hs
    rw [List.length_append]
    rcases List.mem_append.mp hs with z | z
    · have := h1.1 s z
      exact ⟨this.1, by have := this.2; omega⟩
    · obtain ⟨u, hu, rfl⟩ := List.mem_map.mp z
      have := h2.1 u hu
      exact ⟨this.1, by have := this.2; show u.2 + r1.length + (wordAt ws u.1).length ≤ _; omega⟩
  refine ⟨_, ⟨hst, List.ext_getElem? fun b => ?_⟩, by simp⟩
  by_cases hb : b < (r1 ++ r2).length
  · rw [seen_get hst hb]
    rw [List.length_append] at hb
    have e : seenAt ws (s1 ++ s2.map (fun s => (s.1, s.2 + r1.length))) b = ((s2.reverse.findSome? (cov ws · (b - r1.length)) |> fun o => if b < r1.length then none else o).or (s1.reverse.findSome? (cov ws · b))).getD 46 := by
      unfold seenAt
      rw [List.reverse_append, List.findSome?_append, ← List.map_reverse, List.findSome?_map]
      congr 2
      have key : ∀ l : Sts, List.findSome? ((cov ws · b) ∘ fun s => (s.1, s.2 + r1.length)) l = if b < r1.length then none else List.findSome? (cov ws · (b - r1.length)) l := by
        intro l
        induction l with
        | nil => split <;> rfl
        | cons s l ih =>
          rw [List.findSome?_cons, ih]
          have : ((cov ws · b) ∘ fun s : Nat × Nat => (s.1, s.2 + r1.length)) s = if b < r1.length then none else cov ws s (b - r1.length) := by
            show (if s.2 + r1.length ≤ b then (wordAt ws s.1)[b - (s.2 + r1.length)]? else none) = _
            unfold cov
            by_cases hlt : b < r1.length
            · rw [if_neg (by omega), if_pos hlt]
            · rw [if_neg hlt]
              by_cases hle : s.2 ≤ b - r1.length
              · rw [if_pos (by omega), if_pos hle]; congr 1; omega
              · rw [if_neg (by omega), if_neg hle]
          rw [this]
          by_cases hlt : b < r1.length
          · simp [hlt]
          · simp only [hlt, if_false]
            rw [List.findSome?_cons]
      exact key _
    rw [e]
    by_cases hlt : b < r1.length
    · simp only [hlt, if_true]
      rw [List.getElem?_append_left hlt, way_at h1 hlt]
      rfl
    · simp only [hlt, if_false]
      rw [List.getElem?_append_right (by omega), way_at h2 (by omega)]
      congr 1
      unfold seenAt
      cases s2.reverse.findSome? (cov ws · (b - r1.length)) with
      | some c => rfl
      | none =>
        have : s1.reverse.findSome? (cov ws · b) = none := by
          rw [List.findSome?_eq_none_iff]
          intro u hu
          cases e : cov ws u b with
          | none => rfl
          | some c => exact absurd (cov_lt (h1.1 u (List.mem_reverse.mp hu)) e) hlt
        rw [this]; rfl
  · rw [List.getElem?_eq_none (by rw [seenL_len]; omega), List.getElem?_eq_none (by omega)]
theorem cut_neg {α : Type} (xs : List α) (n : Nat) (h : 0 < n) : cut xs (some (-(n : Int))) none = xs.drop (xs.length - n) := by
  unfold cut
  rw [HT.sIx_none]
  have e : HT.sIx xs.length 0 (some (-(n : Int))) = xs.length - n := by
    show (if (-(n : Int)) < 0 then ((-(n : Int)) + (xs.length : Int)).toNat else min (-(n : Int)).toNat xs.length) = xs.length - n
    rw [if_pos (by omega)]
    omega
  rw [e]
  exact List.take_of_length_le (by rw [List.length_drop]; omega)
end Lw
namespace Lw
open PySem L2 DL
/-! ### own levels: what can be seen on so many boxes, by the least number of stamps -/
abbrev Lv := List (List Nat × Nat)
abbrev LvS := Lv × List (List Nat)
def putL (l w : List Nat) (p : Nat) : List Nat := l.take p ++ w ++ l.drop (p + w.length)
def nexts (ws : List (List Nat)) (B : Nat) (l : List Nat) : List (List Nat) := ws.flatMap fun w => (List.range (B + 1 - w.length)).map (putL l w)
def lvStep (c : Nat) (a : LvS) (t : List Nat) : LvS := if t ∈ a.1.map (·.1) then a else (a.1 ++ [(t, c)], a.2 ++ [t])
def Rch (ws : List (List Nat)) (B n : Nat) (t : List Nat) : Prop := ∃ ss : Sts, ss.length = n ∧ (∀ s ∈ ss, StOk ws B s) ∧ seenL ws B ss = t
section
variable {ws : List (List Nat)} {B n c : Nat} {t u : List Nat} {kn : Lv} {lv : List (List Nat)}
theorem putL_len {l w : List Nat} {p : Nat} (h : p + w.length ≤ l.length) : (putL l w p).length = l.length := by
  unfold putL
  rw [List.length_append, List.length_append, List.length_take, List.length_drop]; omega
theorem nexts_mem : t ∈ nexts ws B u ↔ ∃ w ∈ ws, ∃ p, p + w.length ≤ B ∧ t = putL u w p := by
  unfold nexts
  rw [List.mem_flatMap]
  constructor
  · rintro ⟨w, hw, h⟩
    obtain ⟨p, hp, rfl⟩ := List.mem_map.mp h
    rw [List.mem_range] at hp
    exact ⟨w, hw, p, by omega, rfl⟩
  · rintro ⟨w, hw, p, hp, rfl⟩
    exact ⟨w, hw, List.mem_map.mpr ⟨p, List.mem_range.mpr (by omega), rfl⟩⟩
theorem rch0 : Rch ws B 0 t ↔ t = List.replicate B 46 := by
  constructor
  · rintro ⟨ss, hl, _, rfl⟩
    rw [List.length_eq_zero_iff.mp hl]; rfl
  · rintro rfl
    exact ⟨[], rfl, by simp, rfl⟩
theorem seenL_snoc (ss : Sts) (s : Nat × Nat) : seenL ws B (ss ++ [s]) = setOn (seenL ws B ss) (wordAt ws s.1) s.2 := by
  unfold seenL
  rw [List.foldl_append]; rfl
theorem rchS : Rch ws B (n + 1) t ↔ ∃ u, Rch ws B n u ∧ t ∈ nexts ws B u := by
  constructor
  · rintro ⟨ss, hl, hs, rfl⟩
    have hne : ss ≠ [] := by intro e; subst e; simp at hl
    obtain ⟨p, s, rfl⟩ : ∃ p s, ss = p ++ [s] := ⟨ss.dropLast, ss.getLast hne, (List.dropLast_concat_getLast hne).symm⟩
    have h1 := hs s (by simp)
    refine ⟨seenL ws B p, ⟨p, by simpa using hl, fun x hx => hs x (by simp [hx]), rfl⟩, nexts_mem.mpr ⟨wordAt ws s.1, at_mem h1.1, s.2, h1.2, ?_⟩⟩
    rw [seenL_snoc, setOn_eq _ _ _ (by rw [seenL_len]; exact h1.2)]; rfl
  · rintro ⟨u, ⟨ss, hl, hs, rfl⟩, h⟩
    obtain ⟨w, hw, p, hp, rfl⟩ := nexts_mem.mp h
    obtain ⟨i1, i2⟩ := at_idx hw
    refine ⟨ss ++ [(ws.idxOf w, p)], by simp [hl], fun x hx => ?_, ?_⟩
    · rcases List.mem_append.mp hx with z | z
      · exact hs x z
      · rw [List.mem_singleton.mp z]; exact ⟨i1, by rw [i2]; exact hp⟩
    · rw [seenL_snoc, setOn_eq _ _ _ (by rw [seenL_len, i2]; exact hp), i2]; rfl
theorem rch_len (h : Rch ws B n t) : t.length = B := by
  obtain ⟨ss, _, _, rfl⟩ := h
  exact seenL_len ws B ss
structure LInv (ws : List (List Nat)) (B c : Nat) (kn : Lv) (lv : List (List Nat)) : Prop where
  nd : (kn.map (·.1)).Nodup
  least : ∀ e ∈ kn, Rch ws B e.2 e.1 ∧ ∀ m, Rch ws B m e.1 → e.2 ≤ m
  le : ∀ e ∈ kn, e.2 ≤ c
  all : ∀ m t, m ≤ c → Rch ws B m t → t ∈ kn.map (·.1)
  lvl : ∀ t, t ∈ lv ↔ (t, c) ∈ kn
theorem linv0 : LInv ws B 0 [(List.replicate B 46, 0)] [List.replicate B 46] := by
  refine ⟨by simp, fun e he => ?_, fun e he => ?_, fun m t hm h => ?_, fun t => by simp⟩
  · rw [List.mem_singleton.mp he]; exact ⟨rch0.mpr rfl, fun m _ => Nat.zero_le m⟩
  · rw [List.mem_singleton.mp he]; exact Nat.le_refl _
  · have : m = 0 := by omega
    subst this
    rw [rch0.mp h]; simp
theorem lv_fold (c : Nat) (kn : Lv) : ∀ (xs add : List (List Nat)), add.Nodup → (∀ t ∈ add, t ∉ kn.map (·.1)) → ∃ add' : List (List Nat), xs.foldl (lvStep c) (kn ++ add.map (fun t => (t, c)), add) = (kn ++ add'.map (fun t => (t, c)), add') ∧ add'.Nodup ∧ ∀ t, t ∈ add' ↔ t ∈ add ∨ (t ∈ xs ∧ t ∉ kn.map (·.1))
  | [], add, h1, h2 => ⟨add, rfl, h1, fun t => by simp⟩
  | x :: xs, add, h1, h2 => by
    rw [List.foldl_cons]
    have hk : x ∈ (kn ++ add.map fun t => (t, c)).map (·.1) ↔ x ∈ kn.map (·.1) ∨ x ∈ add := by
      rw [List.map_append, List.map_map, List.mem_append]
      have : (List.map ((fun e : List Nat × Nat => e.1) ∘ fun t => (t, c)) add) = add := by
        rw [show ((fun e : List Nat × Nat => e.1) ∘ fun t => (t, c)) = id from rfl, List.map_id]
      rw [this]
    by_cases hx : x ∈ kn.map (·.1) ∨ x ∈ add
    · have e : lvStep c (kn ++ add.map (fun t => (t, c)), add) x = (kn ++ add.map (fun t => (t, c)), add) := if_pos (hk.mpr hx)
      rw [e]
      obtain ⟨add', e1, e2, e3⟩ := lv_fold c kn xs add h1 h2
      refine ⟨add', e1, e2, fun t => ?_⟩
      rw [e3 t, List.mem_cons]
      constructor
      · rintro (z | ⟨z1, z2⟩)
        · exact .inl z
        · exact .inr ⟨.inr z1, z2⟩
      · rintro (z | ⟨z1, z2⟩)
        · exact .inl z
        · rcases z1 with rfl | z1
          · rcases hx with hx | hx
            · exact absurd hx z2
            · exact .inl hx
          · exact .inr ⟨z1, z2⟩
    · have e : lvStep c (kn ++ add.map (fun t => (t, c)), add) x = (kn ++ (add ++ [x]).map (fun t => (t, c)), add ++ [x]) := by
        refine (if_neg fun z => hx (hk.mp z)).trans ?_
        simp
      rw [e]
      rw [not_or] at hx
      obtain ⟨add', e1, e2, e3⟩ := lv_fold c kn xs (add ++ [x]) (by
        refine List.nodup_append.mpr ⟨h1, by simp, fun a ha b hb e => ?_⟩
        rw [List.mem_singleton.mp hb] at e
        subst e
        exact hx.2 ha) (fun t ht => by
        rcases List.mem_append.mp ht with z | z
        · exact h2 t z
        · rw [List.mem_singleton.mp z]; exact hx.1)
      refine ⟨add', e1, e2, fun t => ?_⟩
      rw [e3 t, List.mem_append, List.mem_singleton, List.mem_cons]
      constructor
      · rintro ((z | rfl) | ⟨z1, z2⟩)
        · exact .inl z
        · exact .inr ⟨.inl rfl, hx.1⟩
        · exact .inr ⟨.inr z1, z2⟩
      · rintro (z | ⟨rfl | z1, z2⟩)
        · exact .inl (.inl z)
        · exact .inl (.inr rfl)
        · exact .inr ⟨z1, z2⟩
def lvAll (ws : List (List Nat)) (B c : Nat) (kn : Lv) (lv : List (List Nat)) : LvS := (lv.flatMap (nexts ws B)).foldl (lvStep (c + 1)) (kn, [])
theorem LInv.step (h : LInv ws B c kn lv) : LInv ws B (c + 1) (lvAll ws B c kn lv).1 (lvAll ws B c kn lv).2 ∧ (lvAll ws B c kn lv).1.length = kn.length + (lvAll ws B c kn lv).2.length := by
  obtain ⟨add, e1, e2, e3⟩ := lv_fold (c + 1) kn (lv.flatMap (nexts ws B)) [] .nil (by simp)
  have e1' : lvAll ws B c kn lv = (kn ++ add.map (fun t => (t, c + 1)), add) := by rw [← e1]; simp [lvAll]
  rw [e1']
  have e3' : ∀ t, t ∈ add ↔ (∃ u ∈ lv, t ∈ nexts ws B u) ∧ t ∉ kn.map (·.1) := fun t => by rw [e3 t, List.mem_flatMap]; simp
  have hkey : ∀ t, t ∈ (kn ++ add.map (fun t => (t, c + 1))).map (·.1) ↔ t ∈ kn.map (·.1) ∨ t ∈ add := fun t => by
    rw [List.map_append, List.map_map, List.mem_append, show ((fun e : List Nat × Nat => e.1) ∘ fun t => (t, c + 1)) = id from rfl, List.map_id]
  have get : ∀ {t}, t ∈ kn.map (·.1) → ∃ k, (t, k) ∈ kn := fun {t} ht => by
    obtain ⟨e, he, rfl⟩ := List.mem_map.mp ht
    exact ⟨e.2, he⟩
  refine ⟨⟨?_, fun e he => ?_, fun e he => ?_, fun m t hm hr => ?_, fun t => ?_⟩, by simp⟩
  · rw [List.map_append, List.map_map, show ((fun e : List Nat × Nat => e.1) ∘ fun t => (t, c + 1)) = id from rfl, List.map_id]
    refine List.nodup_append.mpr ⟨h.nd, e2, fun a ha b hb e => ?_⟩
    subst e
    exact ((e3' a).mp hb).2 ha
  · rcases List.mem_append.mp he with z | z
    · exact h.least e z
    · obtain ⟨t, ht, rfl⟩ := List.mem_map.mp z
      obtain ⟨⟨u, hu, hn⟩, hk⟩ := (e3' t).mp ht
      refine ⟨rchS.mpr ⟨u, (h.least _ ((h.lvl u).mp hu)).1, hn⟩, fun m hm => ?_⟩
      by_cases hc : m ≤ c
      · exact absurd (h.all m t hc hm) hk
      · show c + 1 ≤ m
        omega
  · rcases List.mem_append.mp he with z | z
    · have := h.le e z; omega
    · obtain ⟨t, ht, rfl⟩ := List.mem_map.mp z
      exact Nat.le_refl _
  · rw [hkey]
    by_cases hc : m ≤ c
    · exact .inl (h.all m t hc hr)
    · have : m = c + 1 := by omega
      subst this
      obtain ⟨u, hu, hn⟩ := rchS.mp hr
      by_cases hk : t ∈ kn.map (·.1)
      · exact .inl hk
      · obtain ⟨k, hk1⟩ := get (h.all c u (Nat.le_refl _) hu)
        by_cases hkc : k = c
        · subst hkc
          exact .inr ((e3' t).mpr ⟨⟨u, (h.lvl u).mpr hk1, hn⟩, hk⟩)
        · have h1 := h.le _ hk1
          exact .inl (h.all (k + 1) t (by simp only at h1; omega) (rchS.mpr ⟨u, (h.least _ hk1).1, hn⟩))
  · rw [List.mem_append, List.mem_map]
    constructor
    · exact fun ht => .inr ⟨t, ht, rfl⟩
    · rintro (z | ⟨u, hu, e⟩)
      · have := h.le _ z; simp only at this; omega
      · injection e with e _
        rw [← e]; exact hu
/-- no further level: all is known -/
theorem LInv.fin (h : LInv ws B c kn []) : ∀ m t, Rch ws B m t → t ∈ kn.map (·.1) := by
  intro m
  induction m with
  | zero => exact fun t ht => h.all 0 t (Nat.zero_le _) ht
  | succ m ih =>
    intro t ht
    obtain ⟨u, hu, hn⟩ := rchS.mp ht
    obtain ⟨e, he, rfl⟩ := List.mem_map.mp (ih u hu)
    have h1 := h.le e he
    have h2 : e.2 ≠ c := fun z => by
      have : (e.1, c) ∈ kn := by rw [← z]; exact he
      exact absurd ((h.lvl _).mpr this) (by simp)
    exact h.all (e.2 + 1) t (by omega) (rchS.mpr ⟨e.1, (h.least e he).1, hn⟩)
/-! how many there are -/
def U5 : List (List Nat) := [[46], [97], [98], [99], [100]]
def Univ (B : Nat) (t : List Nat) : Prop := t.length = B ∧ ∀ c ∈ t, c = 46 ∨ c ∈ L4
theorem univ_mem (h : Univ B t) : t ∈ Fr.stL U5 B := by
  have h1 : Fr.Ones U5 := by intro l hl; simp [U5] at hl; rcases hl with rfl | rfl | rfl | rfl | rfl <;> exact ⟨_, rfl⟩
  refine (Fr.stL_mem h1 B t).mpr ⟨h.1, fun c hc => ?_⟩
  rcases h.2 c hc with rfl | z
  · simp [U5]
  · simp only [L4, List.mem_cons, List.not_mem_nil, or_false] at z
    rcases z with rfl | rfl | rfl | rfl <;> simp [U5]
theorem univ_few (hB : B ≤ 5) {ks : List (List Nat)} (nd : ks.Nodup) (h : ∀ t ∈ ks, Univ B t) : ks.length ≤ 3125 := by
  have h1 := Fr.nd_le2 ks (Fr.stL U5 B) nd fun t ht => univ_mem (h t ht)
  rw [Fr.stL_num] at h1
  have h2 : U5.length ^ B ≤ 5 ^ 5 := Nat.pow_le_pow_right (by decide) hB
  have h3 : (5 : Nat) ^ 5 = 3125 := rfl
  omega
theorem univ_blank (B : Nat) : Univ B (List.replicate B 46) := ⟨by simp, fun c hc => .inl (List.eq_of_mem_replicate hc)⟩
theorem univ_put (h : WsOk ws) {w : List Nat} (hw : w ∈ ws) {p : Nat} (hp : p + w.length ≤ B) (hu : Univ B u) : Univ B (putL u w p) := by
  refine ⟨by rw [putL_len (by rw [hu.1]; exact hp), hu.1], fun c hc => ?_⟩
  unfold putL at hc
  rcases List.mem_append.mp hc with z | z
  · rcases List.mem_append.mp z with z | z
    · exact hu.2 c (List.mem_of_mem_take z)
    · exact .inr ((h.each w hw).2.2 c z)
  · exact hu.2 c (List.mem_of_mem_drop z)
end
end Lw
namespace DL
open PySem L2
section
variable {G : Type} {sl : SL} {g g1 g2 g3 : G} {Q : Fl → SL → G → Prop}
theorem st_par3S {i j l : Nat} {f h m : M G Slot} {f2 : SM G} {d d2 d3 : Slot} (e : f sl g = some (.ok d, g1)) (e2 : h sl g1 = some (.ok d2, g2)) (e3 : m sl g2 = some (.ok d3, g3)) (k : WP f2 (((sl.set i (some d)).set j (some d2)).set l (some d3)) g3 Q) : WP (sSeq (sPar3 i j l f h m) f2) sl g Q := by
  refine wp_seq ⟨.nx, _, _, ?_, rfl, k⟩
  rw [par3_ap, e, doK_ok, do_ap, e2, doK_ok, do_ap, e3]
  rfl
theorem st_parS {i j : Nat} {f h : M G Slot} {f2 : SM G} {d d2 : Slot} (e : f sl g = some (.ok d, g1)) (e2 : h sl g1 = some (.ok d2, g2)) (k : WP f2 ((sl.set i (some d)).set j (some d2)) g2 Q) : WP (sSeq (sPar i j f h) f2) sl g Q := by
  refine wp_seq ⟨.nx, _, _, ?_, rfl, k⟩
  rw [par_ap, e, doK_ok, do_ap, e2]
  rfl
theorem p_kput {i : Nat} {fk fv : M G D} {f2 : SM G} {kvs : List (DKey × D)} {k v : D} {ky : DKey} (h : sl[i]? = some (some (.oK kvs))) (e1 : fv sl g = some (.ok v, g)) (e2 : fk sl g = some (.ok k, g)) (e3 : keyD k = some ky) (hl : kvs.length < LIM) (c : WP f2 (sl.set i (some (.oK (dPut kvs ky v)))) g Q) : WP (sSeq (sKPut i fk fv) f2) sl g Q := by
  refine wp_seq ⟨.nx, _, _, ?_, rfl, c⟩
  unfold sKPut sOwnK
  rw [h]
  simp only
  rw [do_ap, e1, doK_ok, do_ap, e2, doK_ok]
  unfold sMutK
  rw [h]
  simp only [e3, Option.bind_some, hl, if_true]
@[simp] theorem eDNin_ap {i : Nat} {f : M G D} : eDNin i f sl g = bindK (f sl g) (fun k => M.bind (mK i) fun kvs => M.lift ((keyD k).map fun k => .bl (!(dGet kvs k).isSome))) sl := rfl
@[simp] theorem eDGet2_ap {i : Nat} {f h : M G D} : eDGet2 i f h sl g = bindK (mK i sl g) (fun kvs => M.bind f fun k => M.bind h fun d => M.lift ((keyD k).map fun ky => (dGet kvs ky).getD d)) sl := rfl
@[simp] theorem xK1_ap {f h : M G D} : xK1 f h sl g = bindK (f sl g) (fun k => M.bind h fun v => M.lift ((keyD k).map fun ky => .oK [(ky, v)])) sl := rfl
theorem fnKD_ok {m i : Nat} {F : SM G} {ds : List D} {kvs : List (DKey × D)} (e : ds.map (fun d => some (Slot.d d)) ++ List.replicate (m - ds.length) none = sl) (h : WP F sl g fun fl sl' g' => fl = .nx ∧ sl'[i]? = some (some (.oK kvs)) ∧ g' = g2) : fnKD m i F ds g = some (.ok kvs, g2) := by
  obtain ⟨fl, sl', g', h1, rfl, h3, rfl⟩ := h
  unfold fnKD
  rw [e, h1]
  simp only [h3]
theorem xCallK_ok {F : FnS G} {fs : M G (List D)} {ds : List D} {kvs : List (DKey × D)} (h : fs sl g = some (.ok ds, g1)) (h2 : F ds g1 = some (.ok kvs, g2)) : xCallK F fs sl g = some (.ok (.oK kvs), g2) := by
  unfold xCallK
  rw [bind_ap, h, bindK_ok]
  simp only [h2]
theorem wp_asgS {i : Nat} {f : M G Slot} {s : Slot} {f2 : SM G} (e : f sl g = some (.ok s, g1)) (h : WP f2 (sl.set i (some s)) g1 Q) : WP (sSeq (sAsg i f) f2) sl g Q := by
  refine wp_seq ⟨.nx, _, _, ?_, rfl, h⟩
  rw [asg_ap, e, doK_ok, set_ap]
end
end DL
namespace Lw
open PySem L2 DL
def lvD (e : List Nat × Nat) : DKey × D := (.inr e.1, .int (e.2 : Nat))
theorem lvGet {t : List Nat} {k : Nat} : ∀ {kn : Lv}, (kn.map (·.1)).Nodup → (t, k) ∈ kn → dGet (kn.map lvD) (.inr t) = some (.int (k : Nat))
  | e :: kn, nd, h => by
    rw [List.map_cons, List.nodup_cons] at nd
    show (((lvD e :: kn.map lvD).find? fun q => decide (q.1 = .inr t)).map (·.2)) = _
    rcases List.mem_cons.mp h with rfl | h
    · rw [List.find?_cons]
      simp [lvD]
    · have hne : e.1 ≠ t := fun z => nd.1 (List.mem_map.mpr ⟨(t, k), h, z.symm⟩)
      have : decide ((lvD e).1 = .inr t) = false := decide_eq_false fun z => hne (by injection z)
      rw [List.find?_cons, this]
      exact lvGet nd.2 h
theorem lvNo {t : List Nat} : ∀ {kn : Lv}, t ∉ kn.map (·.1) → dGet (kn.map lvD) (.inr t) = none
  | [], _ => rfl
  | e :: kn, h => by
    rw [List.map_cons, List.mem_cons, not_or] at h
    show (((lvD e :: kn.map lvD).find? fun q => decide (q.1 = .inr t)).map (·.2)) = _
    have : decide ((lvD e).1 = .inr t) = false := decide_eq_false fun z => h.1 (by injection z with z; exact z.symm)
    rw [List.find?_cons, this]
    exact lvNo h.2
theorem lvPut {t : List Nat} {c : Nat} {kn : Lv} (h : t ∉ kn.map (·.1)) : dPut (kn.map lvD) (.inr t) (.int (c : Nat)) = (kn ++ [(t, c)]).map lvD := by
  unfold dPut
  rw [if_neg, List.map_append]
  · rfl
  · rw [Bool.not_eq_true, List.any_eq_false]
    intro q hq
    obtain ⟨e, he, rfl⟩ := List.mem_map.mp hq
    simp only [decide_eq_true_eq]
    exact fun z => h (List.mem_map.mpr ⟨e, he, by injection z⟩)
theorem dots_mul (n : Nat) (h : n ≤ 1000) : mulD (.str [46]) (.int n) = some (.str (List.replicate n 46)) := by
  show (if _ then _ else _) = _
  rw [if_pos ⟨by omega, by omega, by simp⟩]
  congr 2
  rw [Int.toNat_natCast]
  clear h
  induction n with
  | zero => rfl
  | succ n ih => rw [List.replicate_succ, List.flatten_cons, ih]; rfl
structure KnOk (ws : List (List Nat)) (B : Nat) (kn : Lv) : Prop where
  nd : (kn.map (·.1)).Nodup
  least : ∀ e ∈ kn, Rch ws B e.2 e.1 ∧ ∀ m, Rch ws B m e.1 → e.2 ≤ m
  all : ∀ m t, Rch ws B m t → t ∈ kn.map (·.1)
  univ : ∀ e ∈ kn, Univ B e.1
  few : kn.length ≤ 3125
def lvOk (B : Nat) (a : LvS) : Prop := (a.1.map (·.1)).Nodup ∧ (∀ e ∈ a.1, Univ B e.1) ∧ a.2.length ≤ a.1.length
section
variable {G : Type} {g : G} {ws : List (List Nat)} {B : Nat}
theorem lvOk.few (hB : B ≤ 5) {a : LvS} (h : lvOk B a) : a.1.length ≤ 3125 := by
  have := univ_few hB h.1 fun t ht => by
    obtain ⟨e, he, rfl⟩ := List.mem_map.mp ht
    exact h.2.1 e he
  rwa [List.length_map] at this
theorem lvOk.step {a : LvS} (h : lvOk B a) {t : List Nat} (ht : Univ B t) (c : Nat) : lvOk B (lvStep c a t) := by
  unfold lvStep
  split
  · exact h
  · rename_i hn
    refine ⟨?_, fun e he => ?_, ?_⟩
    · rw [List.map_append]
      refine List.nodup_append.mpr ⟨h.1, by simp, fun x hx y hy e => ?_⟩
      simp at hy
      subst hy
      subst e
      exact hn hx
    · rcases List.mem_append.mp he with z | z
      · exact h.2.1 e z
      · rw [List.mem_singleton.mp z]; exact ht
    · have := h.2.2
      simp only [List.length_append, List.length_singleton]; omega
theorem lvOk.fold {c : Nat} : ∀ {xs : List (List Nat)} {a : LvS}, lvOk B a → (∀ t ∈ xs, Univ B t) → lvOk B (xs.foldl (lvStep c) a)
  | [], _, h, _ => h
  | x :: xs, a, h, k => by
    rw [List.foldl_cons]
    exact lvOk.fold (h.step (k x (by simp)) c) fun t ht => k t (by simp [ht])
theorem levels_ex (W : WsOk ws) (h1 : 1 ≤ B) (h5 : B ≤ 5) (g : G) : ∃ kn : Lv, KnOk ws B kn ∧ f__law_levels [Ww ws, .int B] g = some (.ok (kn.map lvD), g) := by
  have L1 : (1 : Nat) ≤ LIM := lim1 (by omega)
  have main : ∀ (N : Nat) (kn : Lv) (lv : List (List Nat)) (c : Nat), LInv ws B c kn lv → (∀ e ∈ kn, Univ B e.1) → 3125 + lv.length < N + kn.length →
      WP (sWhile (tV (e2 neD (eV 3) (eLst aNil))) [5, 6, 7, 8, 9] (sSeq (sPar 5 4 (xL (eLst aNil)) (xD (e2 addD (eV 4) (eC (.int 1)))))
    (sSeq (sFor (iL (eV 3)) (tg1 6) [6, 7, 8, 9] (sFor (iT (eV 0)) (tg1 7) [7, 8, 9] (sFor (iR1 (e2 addD (e2 subD (eV 1) (e1 lenD (eV 7))) (eC (.int 1)))) (tg1 8) [8, 9] (sSeq (sAsg 9 (xD (e2 addD (e2 addD (eSl (eV 6) oN (oS (eV 8))) (eV 7)) (eSl (eV 6) (oS (e2 addD (eV 8) (e1 lenD (eV 7)))) oN))))
    (sIf (tV (eDNin 2 (eV 9))) (sSeq (sKPut 2 (eV 9) (eV 4))
    (sApp 5 (eV 9))) sSkip)))))
    (sFrz 5 (sAsg 3 (xD (eV 5)))))) N) [some (.d (Ww ws)), some (.d (.int B)), some (.oK (kn.map lvD)), some (.d (.lst (lv.map D.str))), some (.d (.int (c : Nat))), none, none, none, none, none] g (fun fl sl' g' => fl = .nx ∧ g' = g ∧ ∃ kn', KnOk ws B kn' ∧ sl'[2]? = some (some (.oK (kn'.map lvD)))) := by
    intro N
    induction N with
    | zero =>
      intro kn lv c I hU hN
      have := univ_few h5 I.nd fun t ht => by
        obtain ⟨e, he, rfl⟩ := List.mem_map.mp ht
        exact hU e he
      rw [List.length_map] at this
      omega
    | succ N ih =>
      intro kn lv c I hU hN
      have few : kn.length ≤ 3125 := by
        have := univ_few h5 I.nd fun t ht => by
          obtain ⟨e, he, rfl⟩ := List.mem_map.mp ht
          exact hU e he
        rwa [List.length_map] at this
      have htest : neD (.lst (lv.map D.str)) (.lst []) = some (.bl (!decide (lv = []))) := neD_lS lv []
      by_cases hlv : lv = []
      · subst hlv
        exact wp_while0 (g1 := g) (by simp) ⟨rfl, rfl, kn, ⟨I.nd, I.least, I.fin, hU, few⟩, rfl⟩
      · have hpos := List.length_pos_iff.mpr hlv
        have hulv : ∀ t ∈ lv, Univ B t := fun t ht => hU _ ((I.lvl t).mp ht)
        have hunx : ∀ u, Univ B u → ∀ t ∈ nexts ws B u, Univ B t := fun u hu t ht => by
          obtain ⟨w, hw, p, hp, rfl⟩ := nexts_mem.mp ht
          exact univ_put W hw hp hu
        have hl0 : lvOk B (kn, []) := ⟨I.nd, hU, by simp⟩
        refine wp_while1 (g1 := g) (by simp [htest, hlv]) ?_
        refine st_parS (g1 := g) (g2 := g) (d := .oL []) (d2 := .d (.int ((c + 1 : Nat) : Int))) (by simp) (by simp) ?_
        simp only [List.set_cons_succ, List.set_cons_zero]
        have hloop : ∀ (f2 : SM G) (Q : Fl → SL → G → Prop), WP f2 [some (.d (Ww ws)), some (.d (.int B)), some (.oK ((lvAll ws B c kn lv).1.map lvD)), some (.d (.lst (lv.map D.str))), some (.d (.int ((c + 1 : Nat) : Int))), some (.oL ((lvAll ws B c kn lv).2.map D.str)), none, none, none, none] g Q →
            WP (sSeq (sFor (iL (eV 3)) (tg1 6) [6, 7, 8, 9] (sFor (iT (eV 0)) (tg1 7) [7, 8, 9] (sFor (iR1 (e2 addD (e2 subD (eV 1) (e1 lenD (eV 7))) (eC (.int 1)))) (tg1 8) [8, 9] (sSeq (sAsg 9 (xD (e2 addD (e2 addD (eSl (eV 6) oN (oS (eV 8))) (eV 7)) (eSl (eV 6) (oS (e2 addD (eV 8) (e1 lenD (eV 7)))) oN))))
    (sIf (tV (eDNin 2 (eV 9))) (sSeq (sKPut 2 (eV 9) (eV 4))
    (sApp 5 (eV 9))) sSkip))))) f2) [some (.d (Ww ws)), some (.d (.int B)), some (.oK (kn.map lvD)), some (.d (.lst (lv.map D.str))), some (.d (.int ((c + 1 : Nat) : Int))), some (.oL []), none, none, none, none] g Q := by
          intro f2 Q hk
          refine st_forF (α := List Nat) (A := LvS) (g1 := g) D.str (xs := lv) (fun a => [some (.d (Ww ws)), some (.d (.int B)), some (.oK (a.1.map lvD)), some (.d (.lst (lv.map D.str))), some (.d (.int ((c + 1 : Nat) : Int))), some (.oL (a.2.map D.str)), none, none, none, none]) (fun a u => (nexts ws B u).foldl (lvStep (c + 1)) a) (lvOk B) (kn, []) (by simp) rfl hl0 ?_ ?_
          · intro a u hu ha
            have hU1 := hulv u hu
            refine ⟨_, rfl, ?_⟩
            refine wp_forF (α := List Nat) (A := LvS) (g1 := g) D.str (xs := ws) (fun a => [some (.d (Ww ws)), some (.d (.int B)), some (.oK (a.1.map lvD)), some (.d (.lst (lv.map D.str))), some (.d (.int ((c + 1 : Nat) : Int))), some (.oL (a.2.map D.str)), some (.d (.str u)), none, none, none]) (fun a w => ((List.range (B + 1 - w.length)).map (putL u w)).foldl (lvStep (c + 1)) a) (lvOk B) a (by simp [Ww]) rfl ha ?_ ?_
            · intro a w hw ha
              have w4 := W.w4 w hw
              refine ⟨_, rfl, ?_⟩
              have hrg : rgD 0 ((B : Int) - w.length + 1) = (List.range (B + 1 - w.length)).map fun i : Nat => D.int (i : Nat) := by
                unfold rgD
                rw [show ((B : Int) - w.length + 1 - 0).toNat = B + 1 - w.length by omega]
                refine List.map_congr_left fun i _ => ?_
                rw [Int.zero_add]
              refine wp_forF (α := Nat) (A := LvS) (g1 := g) (fun i : Nat => D.int (i : Nat)) (xs := List.range (B + 1 - w.length)) (fun a => [some (.d (Ww ws)), some (.d (.int B)), some (.oK (a.1.map lvD)), some (.d (.lst (lv.map D.str))), some (.d (.int ((c + 1 : Nat) : Int))), some (.oL (a.2.map D.str)), some (.d (.str u)), some (.d (.str w)), none, none]) (fun a p => lvStep (c + 1) a (putL u w p)) (lvOk B) a (by rw [← hrg]; exact iR1_ap (by simp) (by omega) (by omega)) rfl ha ?_ ?_
              · intro a p hp ha
                rw [List.mem_range] at hp
                have hpw : p + w.length ≤ B := by omega
                have hul := hU1.1
                refine ⟨_, rfl, ?_⟩
                have s1 : slD (.str u) none (some (p : Int)) = some (.str (u.take p)) := slS_to u p
                have s2 : slD (.str u) (some ((p : Int) + w.length)) none = some (.str (u.drop (p + w.length))) := by
                  rw [show (p : Int) + w.length = ((p + w.length : Nat) : Int) by omega]; exact slS_from u _
                have a1 : addD (.str (u.take p)) (.str w) = some (.str (u.take p ++ w)) := by
                  show (if _ then _ else _) = _
                  rw [if_pos (lim1 (by rw [List.length_take]; omega))]
                have a2 : addD (.str (u.take p ++ w)) (.str (u.drop (p + w.length))) = some (.str (putL u w p)) := by
                  show (if _ then _ else _) = _
                  rw [if_pos (lim1 (by rw [List.length_append, List.length_take, List.length_drop]; omega))]; rfl
                refine p_asg (d := .str (putL u w p)) (by simp [s1, s2, a1, a2, -List.append_assoc]) ?_
                simp only [List.set_cons_succ, List.set_cons_zero]
                have hst := ha.step (univ_put W hw hpw hU1) (c + 1)
                have hfew := ha.few h5
                have em : ∀ x9 : Option Slot, mK 2 ([some (.d (Ww ws)), some (.d (.int B)), some (.oK (a.1.map lvD)), some (.d (.lst (lv.map D.str))), some (.d (.int ((c + 1 : Nat) : Int))), some (.oL (a.2.map D.str)), some (.d (.str u)), some (.d (.str w)), some (.d (.int p)), x9] : SL) g = some (.ok (a.1.map lvD), g) := fun _ => mK_o rfl
                by_cases hin : putL u w p ∈ a.1.map (·.1)
                · have est : lvStep (c + 1) a (putL u w p) = a := if_pos hin
                  obtain ⟨e, he, ee⟩ := List.mem_map.mp hin
                  have he' : (putL u w p, e.2) ∈ a.1 := by rw [← ee]; exact he
                  have hg := lvGet ha.1 he'
                  rw [est]
                  refine p_not1 ?_ ⟨.inl rfl, rfl, rfl, ha⟩
                  rw [tV_ap, eDNin_ap, eV_ap]
                  show bindK (bindK (some (.ok (D.str (putL u w p)), g)) _ _) _ _ = _
                  rw [bindK_ok, bind_ap, em, bindK_ok]
                  rw [lift_ap, show keyD (D.str (putL u w p)) = some (Sum.inr (putL u w p)) from rfl, Option.map_some, hg]; rfl
                · have est : lvStep (c + 1) a (putL u w p) = (a.1 ++ [(putL u w p, c + 1)], a.2 ++ [putL u w p]) := if_neg hin
                  have hg := lvNo hin
                  have hpt := lvPut (c := c + 1) hin
                  rw [est] at hst ⊢
                  refine p_if (k := true) ?_ (fun _ => ?_) (by intro h; cases h)
                  · rw [tV_ap, eDNin_ap, eV_ap]
                    show bindK (bindK (some (.ok (D.str (putL u w p)), g)) _ _) _ _ = _
                    rw [bindK_ok, bind_ap, em, bindK_ok]
                    rw [lift_ap, show keyD (D.str (putL u w p)) = some (Sum.inr (putL u w p)) from rfl, Option.map_some, hg]; rfl
                  · refine p_kput (kvs := a.1.map lvD) (k := .str (putL u w p)) (v := .int ((c + 1 : Nat) : Int)) (ky := .inr (putL u w p)) rfl rfl rfl rfl (by rw [List.length_map]; exact lim2 (by omega)) ?_
                    rw [hpt]
                    simp only [List.set_cons_succ, List.set_cons_zero]
                    refine p_app (xs := a.2.map D.str) (d := .str (putL u w p)) rfl rfl (by rw [List.length_map]; have := ha.2.2; exact lim2 (by omega)) ⟨.inl rfl, rfl, ?_, hst⟩
                    simp
              · intro ha'
                rw [List.foldl_map]
                refine ⟨.inl rfl, rfl, rfl, ?_⟩
                exact ha'
            · intro ha'
              have e : (nexts ws B u).foldl (lvStep (c + 1)) a = ws.foldl (fun a w => ((List.range (B + 1 - w.length)).map (putL u w)).foldl (lvStep (c + 1)) a) a := by
                unfold nexts
                rw [List.foldl_flatMap]
              rw [e]
              exact ⟨.inl rfl, rfl, rfl, ha'⟩
          · intro _
            have e : lvAll ws B c kn lv = lv.foldl (fun a u => (nexts ws B u).foldl (lvStep (c + 1)) a) (kn, []) := by
              unfold lvAll
              rw [List.foldl_flatMap]
            rw [e] at hk
            exact hk
        refine hloop _ _ ?_
        obtain ⟨I2, hlen⟩ := I.step
        have hok2 : lvOk B (lvAll ws B c kn lv) := lvOk.fold hl0 fun t ht => by
          obtain ⟨u, hu, h⟩ := List.mem_flatMap.mp ht
          exact hunx u (hulv u hu) t h
        have hih := ih (lvAll ws B c kn lv).1 (lvAll ws B c kn lv).2 (c + 1) I2 hok2.2.1 (by omega)
        refine wp_frz (wp_asg (g1 := g) (d := .lst ((lvAll ws B c kn lv).2.map D.str)) rfl ⟨rfl, ?_⟩)
        exact hih
  obtain ⟨fl, sl', g', hrun, hfl, hg', kn', K, hk⟩ := main 4000 [(List.replicate B 46, 0)] [List.replicate B 46] 0 linv0 (fun e he => by rw [List.mem_singleton.mp he]; exact univ_blank B) (by simp)
  refine ⟨kn', K, fnKD_ok (sl := [some (.d (Ww ws)), some (.d (.int B)), none, none, none, none, none, none, none, none]) rfl ?_⟩
  unfold F__law_levels
  have m1 := dots_mul B (by omega)
  refine st_par3S (g1 := g) (g2 := g) (g3 := g) (d := .oK ([(List.replicate B 46, 0)].map lvD)) (d2 := .d (.lst ([List.replicate B 46].map D.str))) (d3 := .d (.int 0)) (by simp [m1, keyD, lvD]) (by simp [m1, L1]) rfl ?_
  refine wp_seq ⟨fl, sl', g', hrun, hfl, ?_⟩
  exact wp_skip ⟨rfl, hk, hg'⟩
theorem rch_way {t : List Nat} {n : Nat} (h : Rch ws B n t) : ∃ ss, ss.length = n ∧ Way ws t ss := by
  obtain ⟨ss, hl, hs, rfl⟩ := h
  exact ⟨ss, hl, by rw [seenL_len]; exact hs, by rw [seenL_len]⟩
theorem way_rch {t : List Nat} {ss : Sts} (h : Way ws t ss) : Rch ws t.length ss.length t := ⟨ss, rfl, h.1, h.2⟩
theorem kn_few {kn : Lv} (K : KnOk ws B kn) {t : List Nat} {o : Option Sts} (ho : FoundW ws t o) (hl : t.length = B) : (dGet (kn.map lvD) (.inr t)).getD .non = fwD o := by
  subst hl
  cases o with
  | none =>
    have hn : t ∉ kn.map (·.1) := fun z => by
      obtain ⟨e, he, rfl⟩ := List.mem_map.mp z
      obtain ⟨ss, _, hw⟩ := rch_way (K.least e he).1
      exact ho.2 ss hw
    rw [lvNo hn]; rfl
  | some w =>
    obtain ⟨h1, h2, h3, h4⟩ := ho
    have hin := K.all _ _ (way_rch h1)
    obtain ⟨e, he, rfl⟩ := List.mem_map.mp hin
    have hle := (K.least e he).2 _ (way_rch h1)
    obtain ⟨ss, hl, hw⟩ := rch_way (K.least e he).1
    have := h4 ss hw
    rw [lvGet K.nd (show (e.1, e.2) ∈ kn from he)]
    show D.int _ = D.int _
    congr 2
    omega
def rowKs (kn : Lv) : List (List Nat) := (kn.map (·.1)).filter fun t => !decide (46 ∈ t)
theorem rowKs_mem (W : WsOk ws) (h1 : 1 ≤ B) (h8 : B ≤ 8) {kn : Lv} (K : KnOk ws B kn) {t : List Nat} : t ∈ rowKs kn ↔ t ∈ Fr.rowsL ws B := by
  unfold rowKs
  rw [List.mem_filter, Fr.rowsL_mem]
  constructor
  · rintro ⟨hk, hd⟩
    have hd : 46 ∉ t := by simpa using hd
    obtain ⟨e, he, rfl⟩ := List.mem_map.mp hk
    obtain ⟨ss, _, hs, e2⟩ := (K.least e he).1
    have hlen : e.1.length = B := rch_len (K.least e he).1
    have := seen_row W hs h1 h8 (by rw [e2]; exact hd)
    rw [e2] at this
    exact ⟨hlen, fun c hc => way_sign this.1 this.2.dot hc, way_stp this.1 this.2.dot⟩
  · rintro ⟨hl, hc, hst⟩
    have R : RowOk t := rows_row W h1 h8 (Fr.rowsL_mem.mpr ⟨hl, hc, hst⟩)
    obtain ⟨o, ho, _⟩ := way_ex W R ()
    refine ⟨?_, by simpa using fun z => R.dot 46 z rfl⟩
    cases o with
    | none => rw [ho.1] at hst; cases hst
    | some w => rw [← hl] at K; exact K.all _ _ (way_rch ho.1)
theorem kn_rows (W : WsOk ws) (h1 : 1 ≤ B) (h8 : B ≤ 8) {kn : Lv} (K : KnOk ws B kn) : sortG leS (rowKs kn) = Fr.rowsL ws B :=
  ord_uniq (sortG_strict (K.nd.filter _)) (Fr.rowsL_ord ws B) fun t => by rw [sortG_mem]; exact rowKs_mem W h1 h8 K
theorem kn_okKs {kn : Lv} (h5 : B ≤ 5) (K : KnOk ws B kn) : okKs (kn.map lvD) = true := by
  unfold okKs
  rw [List.all_eq_true]
  intro q hq
  obtain ⟨e, he, rfl⟩ := List.mem_map.mp hq
  have U := K.univ e he
  show okSb e.1 = true
  unfold okSb
  rw [Bool.and_eq_true, decide_eq_true_eq, List.all_eq_true]
  refine ⟨lim1 (by have := U.1; omega), fun c hc => ?_⟩
  rw [decide_eq_true_eq]
  rcases U.2 c hc with z | z
  · omega
  · have := mem4.mp z; omega
theorem kn_keys (kn : Lv) : (kn.map lvD).map (fun q => kD q.1) = (kn.map (·.1)).map D.str := by
  rw [List.map_map, List.map_map]; rfl
def isRowD : D → Bool
  | .str s => !decide (46 ∈ s)
  | _ => false
theorem rows_ev {sl : SL} {i j : Nat} {kn : Lv} (h5 : B ≤ 5) (K : KnOk ws B kn) (h : sl[i]? = some (some (.oK (kn.map lvD)))) (hj : j < sl.length) :
    eLock i (e1 sortedD (eComp (iKeyD i) [j] (tg1 j) (tV (e2 ninD (eC (.str [46])) (eV j))) (eV j))) sl g = some (.ok (.lst ((sortG leS (rowKs kn)).map D.str)), g) := by
  have hi : i < sl.length := (List.getElem?_eq_some_iff.mp h).1
  refine eLock_ap h ?_
  have hs : (sl.set i (some (.kK (kn.map lvD))))[i]? = some (some (.kK (kn.map lvD))) := by rw [List.getElem?_set_self hi]
  have hc : eComp (iKeyD i) [j] (tg1 j) (tV (e2 ninD (eC (.str [46])) (eV j))) (eV j) (sl.set i (some (.kK (kn.map lvD)))) g = some (.ok (.lst ((((kn.map (·.1)).map D.str).filter isRowD).map id)), g) := by
    refine comp_pure isRowD id ?_ ?_ fun d hd => ?_
    · rw [iKeyD_ap, mKl_k hs, bindK_ok, kn_okKs h5 K, if_pos rfl, kn_keys]; rfl
    · rw [List.length_map, List.length_map]; have := K.few; exact lim1 (by omega)
    · obtain ⟨s, _, rfl⟩ := List.mem_map.mp hd
      have e : (((wipeS (sl.set i (some (.kK (kn.map lvD)))) [j]).set j (some (.d (.str s)))))[j]? = some (some (.d (.str s))) := List.getElem?_set_self (by simp [hj])
      refine ⟨_, rfl, ?_, fun _ => ?_⟩
      · simp only [tV_ap, e2_ap, eC_ap, bindK_ok, bind_ap, eV_ap, e, slotK_d, lift_ap, ninD_sS, liftK_some, asB_bl]; rfl
      · rw [eV_ap, e, slotK_d]; rfl
  have hf : (((kn.map (·.1)).map D.str).filter isRowD).map id = (rowKs kn).map D.str := by
    rw [List.map_id, List.filter_map]; rfl
  rw [e1_ap, hc, bindK_ok, lift_ap, hf, sortedD_S]; rfl
end
end Lw
namespace Lw
open PySem L2 DL
theorem law_pure (inn : Bool) (a : Addr) (ns : List Int) (t q : Addr) (hn : ns.length ≤ 63) : ∃ sl' g', F_law ((some (.d (.ref a)) :: List.replicate 9 none).set 1 (some (.d (.ref t)))) (lawG () inn a ns t q) = some (.rt (.bl true), sl', g') := by
  show ∃ sl' g', F_law [some (.d (.ref a)), some (.d (.ref t)), none, none, none, none, none, none, none, none] (lawG () inn a ns t q) = _
  unfold F_law
  refine law_turns (by omega) (GOk.init inn a ns t q hn) fun d g ok => ?_
  obtain ⟨ws, g1, w1, ok1, _, dr1⟩ := words_ok ok (most := 3) (letters := [97, 98, 99]) (by decide) (by decide) (by decide) (by decide)
  obtain ⟨z, g2, z0, z1, ok2, _, dr2⟩ := draw_ok ok1 (many := 4) (by decide) (by decide)
  obtain ⟨B, hB⟩ : ∃ B : Nat, (B : Int) = 1 + z := ⟨(1 + z).toNat, by omega⟩
  have b1 : 1 ≤ B := by omega
  have b4 : B ≤ 4 := by omega
  have W := w1.ok letsABC
  have dr1' : f__law_words [.ref a, .ref t, .int 3, .str [97, 98, 99]] g = some (.ok (Ww ws), g1) := dr1
  refine st_par (g1 := g1) (g2 := g2) (d := Ww ws) (d2 := .int B) (by simp [dr1']) (by simp [dr2, hB]) ?_
  obtain ⟨kn, K, ek⟩ := levels_ex W b1 (by omega) g2
  refine wp_asgS (g1 := g2) (s := .oK (kn.map lvD)) (xCallK_ok (ds := [Ww ws, .int B]) (by simp) ek) ?_
  simp only [List.set_cons_succ, List.set_cons_zero]
  have ev := rows_ev (g := g2) (ws := ws) (B := B) (i := 5) (j := 7) (sl := [some (.d (.ref a)), some (.d (.ref t)), some (.d d), some (.d (Ww ws)), some (.d (.int B)), some (.oK (kn.map lvD)), none, none, none, none]) (by omega) K rfl (by simp)
  rw [kn_rows W b1 (by omega) K] at ev
  refine p_asg (d := .lst ((Fr.rowsL ws B).map D.str)) ev ?_
  clear ev
  simp only [List.set_cons_succ, List.set_cons_zero]
  -- the rows that are drawn
  have hnum := rows_num W b4
  obtain ⟨rs, g3, ok3, hrs, er⟩ : ∃ (rs : List (List Nat)) (g3 : Tw × Unit), GOk a t q g3.1 ∧ (∀ r ∈ rs, r ∈ Fr.rowsL ws B) ∧ eIfM (tV (e2 neD (eV 6) (eLst aNil))) (eComp (iR1 (eC (.int 6))) [9] (tg1 9) tYesM (e2 ixD (eV 6) (callM f__law_draw (aCons (eV 0) (aCons (eV 1) (aCons (e1 lenD (eV 6)) aNil)))))) (eLst aNil) [some (.d (.ref a)), some (.d (.ref t)), some (.d d), some (.d (Ww ws)), some (.d (.int B)), some (.oK (kn.map lvD)), some (.d (.lst ((Fr.rowsL ws B).map D.str))), none, none, none] g2 = some (.ok (.lst (rs.map D.str)), g3) := by
    have htest : neD (.lst ((Fr.rowsL ws B).map D.str)) (.lst []) = some (.bl (!decide (Fr.rowsL ws B = []))) := neD_lS _ []
    by_cases hne : Fr.rowsL ws B = []
    · refine ⟨[], g2, ok2, by simp, ?_⟩
      have h0 : tV (e2 neD (eV 6) (eLst aNil)) [some (.d (.ref a)), some (.d (.ref t)), some (.d d), some (.d (Ww ws)), some (.d (.int B)), some (.oK (kn.map lvD)), some (.d (.lst ((Fr.rowsL ws B).map D.str))), none, none, none] g2 = some (.ok false, g2) := by simp [hne]
      rw [eIf_ap, h0, itK_ok, if_neg (by decide)]
      simp
    · have h0 : tV (e2 neD (eV 6) (eLst aNil)) [some (.d (.ref a)), some (.d (.ref t)), some (.d d), some (.d (Ww ws)), some (.d (.int B)), some (.oK (kn.map lvD)), some (.d (.lst ((Fr.rowsL ws B).map D.str))), none, none, none] g2 = some (.ok true, g2) := by simp [htest, hne]
      have hpos := List.length_pos_iff.mpr hne
      obtain ⟨xs, g3, c1, c2, c3, c4⟩ := compL_run (tg := tg1 9) (cnd := tYesM) (elt := e2 ixD (eV 6) (callM f__law_draw (aCons (eV 0) (aCons (eV 1) (aCons (e1 lenD (eV 6)) aNil))))) (sl := [some (.d (.ref a)), some (.d (.ref t)), some (.d d), some (.d (Ww ws)), some (.d (.int B)), some (.oK (kn.map lvD)), some (.d (.lst ((Fr.rowsL ws B).map D.str))), none, none, none])
        (fun g' : Tw × Unit => GOk a t q g'.1) (fun x => ∃ s, x = .str s ∧ s ∈ Fr.rowsL ws B) (rgD 0 6) g2 ok2 (fun y hy g' i1 => by
          obtain ⟨m, g'', m0, m1, ok', _, dr'⟩ := draw_ok i1 (many := (Fr.rowsL ws B).length) (by omega) (by omega)
          have hm : atI ((Fr.rowsL ws B).map D.str) m = some (((Fr.rowsL ws B).map D.str)[m.toNat]'(by rw [List.length_map]; omega)) := atI_int m0 (by rw [List.length_map]; exact m1)
          rw [List.getElem_map] at hm
          refine ⟨_, .str ((Fr.rowsL ws B)[m.toNat]'(by omega)), g'', rfl, rfl, ?_, ⟨_, rfl, List.getElem_mem _⟩, ok'⟩
          simp [tg1, dr', ixD, hm])
      obtain ⟨ss, rfl, hs⟩ := strs_of c3
      refine ⟨ss, g3, c4, hs, ?_⟩
      rw [eIf_ap, h0, itK_ok, if_pos rfl, comp_ap, iR1_ap (n := 6) (g1 := g2) rfl (by omega) (by omega), bindK_ok]
      simp only [wipe_cons, wipe_nil, List.set_cons_succ, List.set_cons_zero, c1]
      rw [if_pos]
      rw [c2, rgD_len]; exact lim1 (by omega)
  refine st_for (g1 := g3) (ds := rs.map D.str) (by rw [iL_ap, er, bindK_ok]; rfl) (fun x hx => ?_) ?_
  · obtain ⟨r, hr, rfl⟩ := List.mem_map.mp hx
    have hr' := hrs r hr
    have R := rows_row W b1 (by omega) hr'
    obtain ⟨hl, _, hst⟩ := Fr.rowsL_mem.mp hr'
    obtain ⟨o, ho, e1', e2'⟩ := way_ex W R g3
    have hk := kn_few K ho hl
    have c1 := can_stamp_eq (g := g3) W R
    rw [hst] at c1
    cases o with
    | none => rw [ho.1] at hst; cases hst
    | some w =>
      obtain ⟨hw, hwl, _, _⟩ := ho
      have hg : dGet (kn.map lvD) (.inr r) = some (.int w.length) := by
        cases hq : dGet (kn.map lvD) (.inr r) with
        | none => rw [hq] at hk; cases hk
        | some y => rw [hq] at hk; exact congrArg some hk
      have e1'' : f_way [Ww ws, .str r] g3 = some (.ok (Ss w), g3) := e1'
      have e2'' : f_fewest_stamps [Ww ws, .str r] g3 = some (.ok (.int w.length), g3) := e2'
      have hlw : lenD (Ss w) = some (.int w.length) := by simp [Ss]
      have Iw := is_way_eq (g := g3) W R (way_sts hw (by omega))
      have Iw' : f_is_way [Ww ws, .str r, Ss w] g3 = some (.ok (.bl true), g3) := by rw [Iw]; simp [hw.2]
      have em : ∀ x8 : Option Slot, mK 5 ([some (.d (.ref a)), some (.d (.ref t)), some (.d d), some (.d (Ww ws)), some (.d (.int B)), some (.oK (kn.map lvD)), some (.d (.lst ((Fr.rowsL ws B).map D.str))), some (.d (.str r)), x8, none] : SL) g3 = some (.ok (kn.map lvD), g3) := fun _ => mK_o rfl
      refine ⟨_, rfl, p_not (by simp [c1]) ?_⟩
      simp only [List.set_cons_succ, List.set_cons_zero]
      refine p_not (by simp [e2'', em, keyD, hg]) ?_
      refine p_asg (d := Ss w) (by simp [e1'']) ?_
      simp only [List.set_cons_succ, List.set_cons_zero]
      exact p_not1 (by simp [hlw, em, keyD, hg, Iw']) ⟨.inl rfl, rfl, rfl⟩
  -- drawn ones
  refine wp_forI (g1 := g3) (ds := rgD 0 4) (fun _ sl g' => sl = [some (.d (.ref a)), some (.d (.ref t)), some (.d d), some (.d (Ww ws)), some (.d (.int B)), some (.oK (kn.map lvD)), some (.d (.lst ((Fr.rowsL ws B).map D.str))), none, none, none] ∧ GOk a t q g'.1) (iR1_ap rfl (by omega) (by omega)) ⟨rfl, ok3⟩ ?_ ?_
  · rintro pre y post sl g' _ ⟨rfl, ok'⟩
    obtain ⟨r, g4, hr, ok4, _, dr4⟩ := word_ok ok' (most := 4) (letters := [97, 98, 99]) (by decide) (by decide) (by decide) (by decide)
    have dr4' : f__law_word [.ref a, .ref t, .int 4, .str [97, 98, 99]] g' = some (.ok (.str r), g4) := dr4
    have R : RowOk r := ⟨hr.1, by have := hr.2.1; omega, fun c hc => by have := hr.2.2 c hc; have := letsABC c this; exact mem4.mpr this⟩
    refine ⟨_, rfl, st_asg (g1 := g4) (d := .str r) (by simp [dr4']) ?_⟩
    simp only [List.set_cons_succ, List.set_cons_zero]
    refine p_not1 ?_ ⟨.inl rfl, rfl, ok4⟩
    by_cases hl : r.length = B
    · obtain ⟨o, ho, _, e2'⟩ := way_ex W R g4
      have hk := kn_few K ho hl
      have em : mK 5 ([some (.d (.ref a)), some (.d (.ref t)), some (.d d), some (.d (Ww ws)), some (.d (.int B)), some (.oK (kn.map lvD)), some (.d (.lst ((Fr.rowsL ws B).map D.str))), some (.d (.str r)), none, some (.d y)] : SL) g4 = some (.ok (kn.map lvD), g4) := mK_o rfl
      have hne : neD (fwD o) (fwD o) = some (.bl false) := by cases o <;> simp [fwD, neD_int] <;> rfl
      simp [hl, e2', em, keyD, hk, hne]
    · have : ¬ ((r.length : Int) = B) := by omega
      simp [this]
  · rintro sl g' ⟨rfl, ok'⟩
    exact ⟨.inl rfl, rfl, ok'⟩
end Lw
namespace Lw
open PySem L2 DL
theorem all_mk {P : Program} {w : World} {K : PySem.W.Frag} {h : Heap} {mg : Str → Option Value} {fa : Addr} (X : K.In h) (G : h.Ns mainGlobals mg) (hfa : mg "law" = some (.ref fa))
    {f0 : Addr} {oc0 : Value} {od0 : Option Addr} {kV0 dc0 pm0 : Value} {an0 : Option Addr} {cd0 ct0 : Value} {sl0 : Array (Option Value)}
    {f1 : Addr} {oc1 : Value} {od1 : Option Addr} {kV1 dc1 pm1 : Value} {an1 : Option Addr} {cd1 ct1 : Value} {sl1 : Array (Option Value)}
    {f2 : Addr} {oc2 : Value} {od2 : Option Addr} {kV2 dc2 pm2 : Value} {an2 : Option Addr} {cd2 ct2 : Value} {sl2 : Array (Option Value)}
    {f3 : Addr} {oc3 : Value} {od3 : Option Addr} {kV3 dc3 pm3 : Value} {an3 : Option Addr} {cd3 ct3 : Value} {sl3 : Array (Option Value)}
    {f4 : Addr} {oc4 : Value} {od4 : Option Addr} {kV4 dc4 pm4 : Value} {an4 : Option Addr} {cd4 ct4 : Value} {sl4 : Array (Option Value)}
    {f5 : Addr} {oc5 : Value} {od5 : Option Addr} {kV5 dc5 pm5 : Value} {an5 : Option Addr} {cd5 ct5 : Value} {sl5 : Array (Option Value)}
    {f6 : Addr} {oc6 : Value} {od6 : Option Addr} {kV6 dc6 pm6 : Value} {an6 : Option Addr} {cd6 ct6 : Value} {sl6 : Array (Option Value)}
    {f7 : Addr} {oc7 : Value} {od7 : Option Addr} {kV7 dc7 pm7 : Value} {an7 : Option Addr} {cd7 ct7 : Value} {sl7 : Array (Option Value)}
    {f8 : Addr} {oc8 : Value} {od8 : Option Addr} {kV8 dc8 pm8 : Value} {an8 : Option Addr} {cd8 ct8 : Value} {sl8 : Array (Option Value)}
    {f9 : Addr} {oc9 : Value} {od9 : Option Addr} {kV9 dc9 pm9 : Value} {an9 : Option Addr} {cd9 ct9 : Value} {sl9 : Array (Option Value)}
    {f10 : Addr} {oc10 : Value} {od10 : Option Addr} {kV10 dc10 pm10 : Value} {an10 : Option Addr} {cd10 ct10 : Value} {sl10 : Array (Option Value)}
    {f11 : Addr} {oc11 : Value} {od11 : Option Addr} {kV11 dc11 pm11 : Value} {an11 : Option Addr} {cd11 ct11 : Value} {sl11 : Array (Option Value)}
    {f12 : Addr} {oc12 : Value} {od12 : Option Addr} {kV12 dc12 pm12 : Value} {an12 : Option Addr} {cd12 ct12 : Value} {sl12 : Array (Option Value)}
    {f13 : Addr} {oc13 : Value} {od13 : Option Addr} {kV13 dc13 pm13 : Value} {an13 : Option Addr} {cd13 ct13 : Value} {sl13 : Array (Option Value)}
    {f14 : Addr} {oc14 : Value} {od14 : Option Addr} {kV14 dc14 pm14 : Value} {an14 : Option Addr} {cd14 ct14 : Value} {sl14 : Array (Option Value)}
    {f15 : Addr} {oc15 : Value} {od15 : Option Addr} {kV15 dc15 pm15 : Value} {an15 : Option Addr} {cd15 ct15 : Value} {sl15 : Array (Option Value)}
    {f16 : Addr} {oc16 : Value} {od16 : Option Addr} {kV16 dc16 pm16 : Value} {an16 : Option Addr} {cd16 ct16 : Value} {sl16 : Array (Option Value)}
    {f17 : Addr} {oc17 : Value} {od17 : Option Addr} {kV17 dc17 pm17 : Value} {an17 : Option Addr} {cd17 ct17 : Value} {sl17 : Array (Option Value)}
    {f18 : Addr} {oc18 : Value} {od18 : Option Addr} {kV18 dc18 pm18 : Value} {an18 : Option Addr} {cd18 ct18 : Value} {sl18 : Array (Option Value)}
    {f19 : Addr} {oc19 : Value} {od19 : Option Addr} {kV19 dc19 pm19 : Value} {an19 : Option Addr} {cd19 ct19 : Value} {sl19 : Array (Option Value)}
    {f20 : Addr} {oc20 : Value} {od20 : Option Addr} {kV20 dc20 pm20 : Value} {an20 : Option Addr} {cd20 ct20 : Value} {sl20 : Array (Option Value)}
    {f21 : Addr} {oc21 : Value} {od21 : Option Addr} {kV21 dc21 pm21 : Value} {an21 : Option Addr} {cd21 ct21 : Value} {sl21 : Array (Option Value)}
    {f22 : Addr} {oc22 : Value} {od22 : Option Addr} {kV22 dc22 pm22 : Value} {an22 : Option Addr} {cd22 ct22 : Value} {sl22 : Array (Option Value)}
    {f23 : Addr} {oc23 : Value} {od23 : Option Addr} {kV23 dc23 pm23 : Value} {an23 : Option Addr} {cd23 ct23 : Value} {sl23 : Array (Option Value)}
    {f24 : Addr} {oc24 : Value} {od24 : Option Addr} {kV24 dc24 pm24 : Value} {an24 : Option Addr} {cd24 ct24 : Value} {sl24 : Array (Option Value)}
    {t_LETTERS : Nat}
    (a0 : PySem.W.nsIn K mainGlobals "_law_begun" = some (some (.ref f0))) (l0 : K.lookup f0 = some ⟨oc0, od0, .func (PySem.W.fnOf "_law_begun" "_law_begun" (defArgs s__law_begun) (defBody s__law_begun) (defScope s__law_begun) .none kV0 dc0 pm0 an0 cd0 ct0), sl0⟩) (c0 : PySem.W.codeIn K cd0 "_law_begun" = true) (k0 : PySem.W.keepIn K (.ref f0) = true)
    (a1 : PySem.W.nsIn K mainGlobals "_law_levels" = some (some (.ref f1))) (l1 : K.lookup f1 = some ⟨oc1, od1, .func (PySem.W.fnOf "_law_levels" "_law_levels" (defArgs s__law_levels) (defBody s__law_levels) (defScope s__law_levels) .none kV1 dc1 pm1 an1 cd1 ct1), sl1⟩) (c1 : PySem.W.codeIn K cd1 "_law_levels" = true) (k1 : PySem.W.keepIn K (.ref f1) = true)
    (a2 : PySem.W.nsIn K mainGlobals "_law_draw" = some (some (.ref f2))) (l2 : K.lookup f2 = some ⟨oc2, od2, .func (PySem.W.fnOf "_law_draw" "_law_draw" (defArgs s__law_draw) (defBody s__law_draw) (defScope s__law_draw) .none kV2 dc2 pm2 an2 cd2 ct2), sl2⟩) (c2 : PySem.W.codeIn K cd2 "_law_draw" = true) (k2 : PySem.W.keepIn K (.ref f2) = true)
    (a3 : PySem.W.nsIn K mainGlobals "_law_word" = some (some (.ref f3))) (l3 : K.lookup f3 = some ⟨oc3, od3, .func (PySem.W.fnOf "_law_word" "_law_word" (defArgs s__law_word) (defBody s__law_word) (defScope s__law_word) .none kV3 dc3 pm3 an3 cd3 ct3), sl3⟩) (c3 : PySem.W.codeIn K cd3 "_law_word" = true) (k3 : PySem.W.keepIn K (.ref f3) = true)
    (a4 : PySem.W.nsIn K mainGlobals "_law_words" = some (some (.ref f4))) (l4 : K.lookup f4 = some ⟨oc4, od4, .func (PySem.W.fnOf "_law_words" "_law_words" (defArgs s__law_words) (defBody s__law_words) (defScope s__law_words) .none kV4 dc4 pm4 an4 cd4 ct4), sl4⟩) (c4 : PySem.W.codeIn K cd4 "_law_words" = true) (k4 : PySem.W.keepIn K (.ref f4) = true)
    (a5 : PySem.W.nsIn K mainGlobals "is_string_of" = some (some (.ref f5))) (l5 : K.lookup f5 = some ⟨oc5, od5, .func (PySem.W.fnOf "is_string_of" "is_string_of" (defArgs s_is_string_of) (defBody s_is_string_of) (defScope s_is_string_of) .none kV5 dc5 pm5 an5 cd5 ct5), sl5⟩) (c5 : PySem.W.codeIn K cd5 "is_string_of" = true) (k5 : PySem.W.keepIn K (.ref f5) = true)
    (a6 : PySem.W.nsIn K mainGlobals "are_words" = some (some (.ref f6))) (l6 : K.lookup f6 = some ⟨oc6, od6, .func (PySem.W.fnOf "are_words" "are_words" (defArgs s_are_words) (defBody s_are_words) (defScope s_are_words) .none kV6 dc6 pm6 an6 cd6 ct6), sl6⟩) (c6 : PySem.W.codeIn K cd6 "are_words" = true) (k6 : PySem.W.keepIn K (.ref f6) = true)
    (a7 : PySem.W.nsIn K mainGlobals "check_words" = some (some (.ref f7))) (l7 : K.lookup f7 = some ⟨oc7, od7, .func (PySem.W.fnOf "check_words" "check_words" (defArgs s_check_words) (defBody s_check_words) (defScope s_check_words) .none kV7 dc7 pm7 an7 cd7 ct7), sl7⟩) (c7 : PySem.W.codeIn K cd7 "check_words" = true) (k7 : PySem.W.keepIn K (.ref f7) = true)
    (a8 : PySem.W.nsIn K mainGlobals "is_row" = some (some (.ref f8))) (l8 : K.lookup f8 = some ⟨oc8, od8, .func (PySem.W.fnOf "is_row" "is_row" (defArgs s_is_row) (defBody s_is_row) (defScope s_is_row) .none kV8 dc8 pm8 an8 cd8 ct8), sl8⟩) (c8 : PySem.W.codeIn K cd8 "is_row" = true) (k8 : PySem.W.keepIn K (.ref f8) = true)
    (a9 : PySem.W.nsIn K mainGlobals "check_row" = some (some (.ref f9))) (l9 : K.lookup f9 = some ⟨oc9, od9, .func (PySem.W.fnOf "check_row" "check_row" (defArgs s_check_row) (defBody s_check_row) (defScope s_check_row) .none kV9 dc9 pm9 an9 cd9 ct9), sl9⟩) (c9 : PySem.W.codeIn K cd9 "check_row" = true) (k9 : PySem.W.keepIn K (.ref f9) = true)
    (a10 : PySem.W.nsIn K mainGlobals "stamps_on" = some (some (.ref f10))) (l10 : K.lookup f10 = some ⟨oc10, od10, .func (PySem.W.fnOf "stamps_on" "stamps_on" (defArgs s_stamps_on) (defBody s_stamps_on) (defScope s_stamps_on) .none kV10 dc10 pm10 an10 cd10 ct10), sl10⟩) (c10 : PySem.W.codeIn K cd10 "stamps_on" = true) (k10 : PySem.W.keepIn K (.ref f10) = true)
    (a11 : PySem.W.nsIn K mainGlobals "boxes_of" = some (some (.ref f11))) (l11 : K.lookup f11 = some ⟨oc11, od11, .func (PySem.W.fnOf "boxes_of" "boxes_of" (defArgs s_boxes_of) (defBody s_boxes_of) (defScope s_boxes_of) .none kV11 dc11 pm11 an11 cd11 ct11), sl11⟩) (c11 : PySem.W.codeIn K cd11 "boxes_of" = true) (k11 : PySem.W.keepIn K (.ref f11) = true)
    (a12 : PySem.W.nsIn K mainGlobals "freed_by" = some (some (.ref f12))) (l12 : K.lookup f12 = some ⟨oc12, od12, .func (PySem.W.fnOf "freed_by" "freed_by" (defArgs s_freed_by) (defBody s_freed_by) (defScope s_freed_by) .none kV12 dc12 pm12 an12 cd12 ct12), sl12⟩) (c12 : PySem.W.codeIn K cd12 "freed_by" = true) (k12 : PySem.W.keepIn K (.ref f12) = true)
    (a13 : PySem.W.nsIn K mainGlobals "found_way" = some (some (.ref f13))) (l13 : K.lookup f13 = some ⟨oc13, od13, .func (PySem.W.fnOf "found_way" "found_way" (defArgs s_found_way) (defBody s_found_way) (defScope s_found_way) .none kV13 dc13 pm13 an13 cd13 ct13), sl13⟩) (c13 : PySem.W.codeIn K cd13 "found_way" = true) (k13 : PySem.W.keepIn K (.ref f13) = true)
    (a14 : PySem.W.nsIn K mainGlobals "way" = some (some (.ref f14))) (l14 : K.lookup f14 = some ⟨oc14, od14, .func (PySem.W.fnOf "way" "way" (defArgs s_way) (defBody s_way) (defScope s_way) .none kV14 dc14 pm14 an14 cd14 ct14), sl14⟩) (c14 : PySem.W.codeIn K cd14 "way" = true) (k14 : PySem.W.keepIn K (.ref f14) = true)
    (a15 : PySem.W.nsIn K mainGlobals "freed_in" = some (some (.ref f15))) (l15 : K.lookup f15 = some ⟨oc15, od15, .func (PySem.W.fnOf "freed_in" "freed_in" (defArgs s_freed_in) (defBody s_freed_in) (defScope s_freed_in) .none kV15 dc15 pm15 an15 cd15 ct15), sl15⟩) (c15 : PySem.W.codeIn K cd15 "freed_in" = true) (k15 : PySem.W.keepIn K (.ref f15) = true)
    (a16 : PySem.W.nsIn K mainGlobals "is_stamped" = some (some (.ref f16))) (l16 : K.lookup f16 = some ⟨oc16, od16, .func (PySem.W.fnOf "is_stamped" "is_stamped" (defArgs s_is_stamped) (defBody s_is_stamped) (defScope s_is_stamped) .none kV16 dc16 pm16 an16 cd16 ct16), sl16⟩) (c16 : PySem.W.codeIn K cd16 "is_stamped" = true) (k16 : PySem.W.keepIn K (.ref f16) = true)
    (a17 : PySem.W.nsIn K mainGlobals "can_stamp" = some (some (.ref f17))) (l17 : K.lookup f17 = some ⟨oc17, od17, .func (PySem.W.fnOf "can_stamp" "can_stamp" (defArgs s_can_stamp) (defBody s_can_stamp) (defScope s_can_stamp) .none kV17 dc17 pm17 an17 cd17 ct17), sl17⟩) (c17 : PySem.W.codeIn K cd17 "can_stamp" = true) (k17 : PySem.W.keepIn K (.ref f17) = true)
    (a18 : PySem.W.nsIn K mainGlobals "fewest_stamps" = some (some (.ref f18))) (l18 : K.lookup f18 = some ⟨oc18, od18, .func (PySem.W.fnOf "fewest_stamps" "fewest_stamps" (defArgs s_fewest_stamps) (defBody s_fewest_stamps) (defScope s_fewest_stamps) .none kV18 dc18 pm18 an18 cd18 ct18), sl18⟩) (c18 : PySem.W.codeIn K cd18 "fewest_stamps" = true) (k18 : PySem.W.keepIn K (.ref f18) = true)
    (a19 : PySem.W.nsIn K mainGlobals "is_between" = some (some (.ref f19))) (l19 : K.lookup f19 = some ⟨oc19, od19, .func (PySem.W.fnOf "is_between" "is_between" (defArgs s_is_between) (defBody s_is_between) (defScope s_is_between) .none kV19 dc19 pm19 an19 cd19 ct19), sl19⟩) (c19 : PySem.W.codeIn K cd19 "is_between" = true) (k19 : PySem.W.keepIn K (.ref f19) = true)
    (a20 : PySem.W.nsIn K mainGlobals "is_stamp" = some (some (.ref f20))) (l20 : K.lookup f20 = some ⟨oc20, od20, .func (PySem.W.fnOf "is_stamp" "is_stamp" (defArgs s_is_stamp) (defBody s_is_stamp) (defScope s_is_stamp) .none kV20 dc20 pm20 an20 cd20 ct20), sl20⟩) (c20 : PySem.W.codeIn K cd20 "is_stamp" = true) (k20 : PySem.W.keepIn K (.ref f20) = true)
    (a21 : PySem.W.nsIn K mainGlobals "are_stamps_on" = some (some (.ref f21))) (l21 : K.lookup f21 = some ⟨oc21, od21, .func (PySem.W.fnOf "are_stamps_on" "are_stamps_on" (defArgs s_are_stamps_on) (defBody s_are_stamps_on) (defScope s_are_stamps_on) .none kV21 dc21 pm21 an21 cd21 ct21), sl21⟩) (c21 : PySem.W.codeIn K cd21 "are_stamps_on" = true) (k21 : PySem.W.keepIn K (.ref f21) = true)
    (a22 : PySem.W.nsIn K mainGlobals "seen_after" = some (some (.ref f22))) (l22 : K.lookup f22 = some ⟨oc22, od22, .func (PySem.W.fnOf "seen_after" "seen_after" (defArgs s_seen_after) (defBody s_seen_after) (defScope s_seen_after) .none kV22 dc22 pm22 an22 cd22 ct22), sl22⟩) (c22 : PySem.W.codeIn K cd22 "seen_after" = true) (k22 : PySem.W.keepIn K (.ref f22) = true)
    (a23 : PySem.W.nsIn K mainGlobals "is_way" = some (some (.ref f23))) (l23 : K.lookup f23 = some ⟨oc23, od23, .func (PySem.W.fnOf "is_way" "is_way" (defArgs s_is_way) (defBody s_is_way) (defScope s_is_way) .none kV23 dc23 pm23 an23 cd23 ct23), sl23⟩) (c23 : PySem.W.codeIn K cd23 "is_way" = true) (k23 : PySem.W.keepIn K (.ref f23) = true)
    (a24 : PySem.W.nsIn K mainGlobals "law" = some (some (.ref f24))) (l24 : K.lookup f24 = some ⟨oc24, od24, .func (PySem.W.fnOf "law" "law" (defArgs s_law) (defBody s_law) (defScope s_law) .none kV24 dc24 pm24 an24 cd24 ct24), sl24⟩) (c24 : PySem.W.codeIn K cd24 "law" = true) (k24 : PySem.W.keepIn K (.ref f24) = true)
    (z_all : PySem.W.nsIn K mainGlobals "all" = some none)
    (z_bool : PySem.W.nsIn K mainGlobals "bool" = some none)
    (z_enumerate : PySem.W.nsIn K mainGlobals "enumerate" = some none)
    (z_int : PySem.W.nsIn K mainGlobals "int" = some none)
    (z_isinstance : PySem.W.nsIn K mainGlobals "isinstance" = some none)
    (z_len : PySem.W.nsIn K mainGlobals "len" = some none)
    (z_range : PySem.W.nsIn K mainGlobals "range" = some none)
    (z_set : PySem.W.nsIn K mainGlobals "set" = some none)
    (z_sorted : PySem.W.nsIn K mainGlobals "sorted" = some none)
    (z_str : PySem.W.nsIn K mainGlobals "str" = some none)
    (z_tuple : PySem.W.nsIn K mainGlobals "tuple" = some none)
    (z_zip : PySem.W.nsIn K mainGlobals "zip" = some none)
    (g_LETTERS : PySem.W.nsIn K mainGlobals "LETTERS" = some (some (.str "abcd" t_LETTERS)))
    : ∃ fd : FuncData, (∀ (s : Shared) (v : Value), BindsTo s fd ⟨[v], []⟩ [("script", v)]) ∧ ∀ base : Heap, K.In base → base.Ns mainGlobals mg → FnOk P w K mg base (L2.CX P w) 6 fa fd ["script"] (spLaw K) := by
  have e := hfa.symm.trans (PySem.W.mg_of X G a24)
  cases e
  have F0 := fun_mk (st := s__law_begun) l0 c0 k0
  have b0 := F0.binds (ps := []) fun _ _ _ _ _ _ us hl => match us, hl with | [], _ => rfl
  have F1 := fun_mk (st := s__law_levels) l1 c1 k1
  have b1 := F1.binds (ps := ["words_of", "many"]) fun _ _ _ _ _ _ us hl => match us, hl with | [_, _], _ => rfl
  have F2 := fun_mk (st := s__law_draw) l2 c2 k2
  have b2 := F2.binds (ps := ["script", "town", "many"]) fun _ _ _ _ _ _ us hl => match us, hl with | [_, _, _], _ => rfl
  have F3 := fun_mk (st := s__law_word) l3 c3 k3
  have b3 := F3.binds (ps := ["script", "town", "most", "letters"]) fun _ _ _ _ _ _ us hl => match us, hl with | [_, _, _, _], _ => rfl
  have F4 := fun_mk (st := s__law_words) l4 c4 k4
  have b4 := F4.binds (ps := ["script", "town", "most", "letters"]) fun _ _ _ _ _ _ us hl => match us, hl with | [_, _, _, _], _ => rfl
  have F5 := fun_mk (st := s_is_string_of) l5 c5 k5
  have b5 := F5.binds (ps := ["value", "most"]) fun _ _ _ _ _ _ us hl => match us, hl with | [_, _], _ => rfl
  have F6 := fun_mk (st := s_are_words) l6 c6 k6
  have b6 := F6.binds (ps := ["value"]) fun _ _ _ _ _ _ us hl => match us, hl with | [_], _ => rfl
  have F7 := fun_mk (st := s_check_words) l7 c7 k7
  have b7 := F7.binds (ps := ["words"]) fun _ _ _ _ _ _ us hl => match us, hl with | [_], _ => rfl
  have F8 := fun_mk (st := s_is_row) l8 c8 k8
  have b8 := F8.binds (ps := ["value"]) fun _ _ _ _ _ _ us hl => match us, hl with | [_], _ => rfl
  have F9 := fun_mk (st := s_check_row) l9 c9 k9
  have b9 := F9.binds (ps := ["words", "row"]) fun _ _ _ _ _ _ us hl => match us, hl with | [_, _], _ => rfl
  have F10 := fun_mk (st := s_stamps_on) l10 c10 k10
  have b10 := F10.binds (ps := ["words", "low", "high"]) fun _ _ _ _ _ _ us hl => match us, hl with | [_, _, _], _ => rfl
  have F11 := fun_mk (st := s_boxes_of) l11 c11 k11
  have b11 := F11.binds (ps := ["words", "stamp"]) fun _ _ _ _ _ _ us hl => match us, hl with | [_, _], _ => rfl
  have F12 := fun_mk (st := s_freed_by) l12 c12 k12
  have b12 := F12.binds (ps := ["words", "row", "free", "stamp"]) fun _ _ _ _ _ _ us hl => match us, hl with | [_, _, _, _], _ => rfl
  have F13 := fun_mk (st := s_found_way) l13 c13 k13
  have b13 := F13.binds (ps := ["words", "row"]) fun _ _ _ _ _ _ us hl => match us, hl with | [_, _], _ => rfl
  have F14 := fun_mk (st := s_way) l14 c14 k14
  have b14 := F14.binds (ps := ["words", "row"]) fun _ _ _ _ _ _ us hl => match us, hl with | [_, _], _ => rfl
  have F15 := fun_mk (st := s_freed_in) l15 c15 k15
  have b15 := F15.binds (ps := ["words", "row", "over"]) fun _ _ _ _ _ _ us hl => match us, hl with | [_, _, _], _ => rfl
  have F16 := fun_mk (st := s_is_stamped) l16 c16 k16
  have b16 := F16.binds (ps := ["words", "row"]) fun _ _ _ _ _ _ us hl => match us, hl with | [_, _], _ => rfl
  have F17 := fun_mk (st := s_can_stamp) l17 c17 k17
  have b17 := F17.binds (ps := ["words", "row"]) fun _ _ _ _ _ _ us hl => match us, hl with | [_, _], _ => rfl
  have F18 := fun_mk (st := s_fewest_stamps) l18 c18 k18
  have b18 := F18.binds (ps := ["words", "row"]) fun _ _ _ _ _ _ us hl => match us, hl with | [_, _], _ => rfl
  have F19 := fun_mk (st := s_is_between) l19 c19 k19
  have b19 := F19.binds (ps := ["value", "low", "high"]) fun _ _ _ _ _ _ us hl => match us, hl with | [_, _, _], _ => rfl
  have F20 := fun_mk (st := s_is_stamp) l20 c20 k20
  have b20 := F20.binds (ps := ["words", "boxes", "value"]) fun _ _ _ _ _ _ us hl => match us, hl with | [_, _, _], _ => rfl
  have F21 := fun_mk (st := s_are_stamps_on) l21 c21 k21
  have b21 := F21.binds (ps := ["words", "boxes", "value"]) fun _ _ _ _ _ _ us hl => match us, hl with | [_, _, _], _ => rfl
  have F22 := fun_mk (st := s_seen_after) l22 c22 k22
  have b22 := F22.binds (ps := ["words", "boxes", "stamps"]) fun _ _ _ _ _ _ us hl => match us, hl with | [_, _, _], _ => rfl
  have F23 := fun_mk (st := s_is_way) l23 c23 k23
  have b23 := F23.binds (ps := ["words", "row", "value"]) fun _ _ _ _ _ _ us hl => match us, hl with | [_, _, _], _ => rfl
  have F24 := fun_mk (st := s_law) l24 c24 k24
  have b24 := F24.binds (ps := ["script"]) fun _ _ _ _ _ _ us hl => match us, hl with | [_], _ => rfl
  let T : Txt K mg :=
    { f__law_begun := _, fd__law_begun := _, d__law_begun := ⟨F0, PySem.W.mg_of X G a0⟩, b__law_begun := b0,
      f__law_levels := _, fd__law_levels := _, d__law_levels := ⟨F1, PySem.W.mg_of X G a1⟩, b__law_levels := b1,
      f__law_draw := _, fd__law_draw := _, d__law_draw := ⟨F2, PySem.W.mg_of X G a2⟩, b__law_draw := b2,
      f__law_word := _, fd__law_word := _, d__law_word := ⟨F3, PySem.W.mg_of X G a3⟩, b__law_word := b3,
      f__law_words := _, fd__law_words := _, d__law_words := ⟨F4, PySem.W.mg_of X G a4⟩, b__law_words := b4,
      f_is_string_of := _, fd_is_string_of := _, d_is_string_of := ⟨F5, PySem.W.mg_of X G a5⟩, b_is_string_of := b5,
      f_are_words := _, fd_are_words := _, d_are_words := ⟨F6, PySem.W.mg_of X G a6⟩, b_are_words := b6,
      f_check_words := _, fd_check_words := _, d_check_words := ⟨F7, PySem.W.mg_of X G a7⟩, b_check_words := b7,
      f_is_row := _, fd_is_row := _, d_is_row := ⟨F8, PySem.W.mg_of X G a8⟩, b_is_row := b8,
      f_check_row := _, fd_check_row := _, d_check_row := ⟨F9, PySem.W.mg_of X G a9⟩, b_check_row := b9,
      f_stamps_on := _, fd_stamps_on := _, d_stamps_on := ⟨F10, PySem.W.mg_of X G a10⟩, b_stamps_on := b10,
      f_boxes_of := _, fd_boxes_of := _, d_boxes_of := ⟨F11, PySem.W.mg_of X G a11⟩, b_boxes_of := b11,
      f_freed_by := _, fd_freed_by := _, d_freed_by := ⟨F12, PySem.W.mg_of X G a12⟩, b_freed_by := b12,
      f_found_way := _, fd_found_way := _, d_found_way := ⟨F13, PySem.W.mg_of X G a13⟩, b_found_way := b13,
      f_way := _, fd_way := _, d_way := ⟨F14, PySem.W.mg_of X G a14⟩, b_way := b14,
      f_freed_in := _, fd_freed_in := _, d_freed_in := ⟨F15, PySem.W.mg_of X G a15⟩, b_freed_in := b15,
      f_is_stamped := _, fd_is_stamped := _, d_is_stamped := ⟨F16, PySem.W.mg_of X G a16⟩, b_is_stamped := b16,
      f_can_stamp := _, fd_can_stamp := _, d_can_stamp := ⟨F17, PySem.W.mg_of X G a17⟩, b_can_stamp := b17,
      f_fewest_stamps := _, fd_fewest_stamps := _, d_fewest_stamps := ⟨F18, PySem.W.mg_of X G a18⟩, b_fewest_stamps := b18,
      f_is_between := _, fd_is_between := _, d_is_between := ⟨F19, PySem.W.mg_of X G a19⟩, b_is_between := b19,
      f_is_stamp := _, fd_is_stamp := _, d_is_stamp := ⟨F20, PySem.W.mg_of X G a20⟩, b_is_stamp := b20,
      f_are_stamps_on := _, fd_are_stamps_on := _, d_are_stamps_on := ⟨F21, PySem.W.mg_of X G a21⟩, b_are_stamps_on := b21,
      f_seen_after := _, fd_seen_after := _, d_seen_after := ⟨F22, PySem.W.mg_of X G a22⟩, b_seen_after := b22,
      f_is_way := _, fd_is_way := _, d_is_way := ⟨F23, PySem.W.mg_of X G a23⟩, b_is_way := b23,
      f_law := _, fd_law := _, d_law := ⟨F24, PySem.W.mg_of X G a24⟩, b_law := b24,
      n_all := PySem.W.mg_none_of X G z_all,
      n_bool := PySem.W.mg_none_of X G z_bool,
      n_enumerate := PySem.W.mg_none_of X G z_enumerate,
      n_int := PySem.W.mg_none_of X G z_int,
      n_isinstance := PySem.W.mg_none_of X G z_isinstance,
      n_len := PySem.W.mg_none_of X G z_len,
      n_range := PySem.W.mg_none_of X G z_range,
      n_set := PySem.W.mg_none_of X G z_set,
      n_sorted := PySem.W.mg_none_of X G z_sorted,
      n_str := PySem.W.mg_none_of X G z_str,
      n_tuple := PySem.W.mg_none_of X G z_tuple,
      n_zip := PySem.W.mg_none_of X G z_zip,
      t_LETTERS := t_LETTERS, g_LETTERS := PySem.W.mg_of X G g_LETTERS,
      kb_fewest_stamps := fun s ws _ hl => match ws, hl with | [_, _], _ => .of_eq rfl }
  exact ⟨PySem.W.fnOf "law" "law" (defArgs s_law) (defBody s_law) (defScope s_law) .none kV24 dc24 pm24 an24 cd24 ct24, fun s v => .of_eq rfl, fun base _ _ => ok_law (Vw := W0d) T () (fun _ => trivial) (fun _ h => h) law_pure⟩
end Lw
open PySem PySem.W PyProof.Rows in
set_option maxRecDepth 100000 in
set_option maxHeartbeats 0 in
theorem PySem.Challenge.cw_stampedrows_k08_fewest_holds : PySem.Challenge.rw_stampedrows_k08_fewest.Holds := by
  w_on; o_law; k_head; (case hw => w_witness2)
  k_fill
  refine L2.walk_of (l := PySem.Challenge.rw_stampedrows_k08_fewest) (n := 63) (k := 6) (x := "script") (CX := fun w => L2.CX PySem.Challenge.rw_stampedrows_k08_fewest.prog w) (sp := fun w => DL.spLaw _) rfl (by decide) rfl ⟨rfl, by decide, by decide⟩ (fun w h Y => PySem.W.kIn_of Y) ?F (fun _ _ a ns hl _ hS => ⟨a, ns, rfl, hS, hl, fun _ => rfl⟩) (fun w H s e s' z => DL.cx_false z)
  case F =>
    intro w mg fa h KX G hmg
    refine' Lw.all_mk KX G hmg ?a0 ?l0 ?c0 ?k0 ?a1 ?l1 ?c1 ?k1 ?a2 ?l2 ?c2 ?k2 ?a3 ?l3 ?c3 ?k3 ?a4 ?l4 ?c4 ?k4 ?a5 ?l5 ?c5 ?k5 ?a6 ?l6 ?c6 ?k6 ?a7 ?l7 ?c7 ?k7 ?a8 ?l8 ?c8 ?k8 ?a9 ?l9 ?c9 ?k9 ?a10 ?l10 ?c10 ?k10 ?a11 ?l11 ?c11 ?k11 ?a12 ?l12 ?c12 ?k12 ?a13 ?l13 ?c13 ?k13 ?a14 ?l14 ?c14 ?k14 ?a15 ?l15 ?c15 ?k15 ?a16 ?l16 ?c16 ?k16 ?a17 ?l17 ?c17 ?k17 ?a18 ?l18 ?c18 ?k18 ?a19 ?l19 ?c19 ?k19 ?a20 ?l20 ?c20 ?k20 ?a21 ?l21 ?c21 ?k21 ?a22 ?l22 ?c22 ?k22 ?a23 ?l23 ?c23 ?k23 ?a24 ?l24 ?c24 ?k24 ?z_all ?z_bool ?z_enumerate ?z_int ?z_isinstance ?z_len ?z_range ?z_set ?z_sorted ?z_str ?z_tuple ?z_zip ?g_LETTERS
    (case a0 => k_is)
    (case l0 => k_is)
    (case c0 => k_is)
    (case k0 => k_is)
    (case a1 => k_is)
    (case l1 => k_is)
    (case c1 => k_is)
    (case k1 => k_is)
    (case a2 => k_is)
    (case l2 => k_is)
    (case c2 => k_is)
    (case k2 => k_is)
    (case a3 => k_is)
    (case l3 => k_is)
    (case c3 => k_is)
    (case k3 => k_is)
    (case a4 => k_is)
    (case l4 => k_is)
    (case c4 => k_is)
    (case k4 => k_is)
    (case a5 => k_is)
    (case l5 => k_is)
    (case c5 => k_is)
    (case k5 => k_is)
    (case a6 => k_is)
    (case l6 => k_is)
    (case c6 => k_is)
    (case k6 => k_is)
    (case a7 => k_is)
    (case l7 => k_is)
    (case c7 => k_is)
    (case k7 => k_is)
    (case a8 => k_is)
    (case l8 => k_is)
    (case c8 => k_is)
    (case k8 => k_is)
    (case a9 => k_is)
    (case l9 => k_is)
    (case c9 => k_is)
    (case k9 => k_is)
    (case a10 => k_is)
    (case l10 => k_is)
    (case c10 => k_is)
    (case k10 => k_is)
    (case a11 => k_is)
    (case l11 => k_is)
    (case c11 => k_is)
    (case k11 => k_is)
    (case a12 => k_is)
    (case l12 => k_is)
    (case c12 => k_is)
    (case k12 => k_is)
    (case a13 => k_is)
    (case l13 => k_is)
    (case c13 => k_is)
    (case k13 => k_is)
    (case a14 => k_is)
    (case l14 => k_is)
    (case c14 => k_is)
    (case k14 => k_is)
    (case a15 => k_is)
    (case l15 => k_is)
    (case c15 => k_is)
    (case k15 => k_is)
    (case a16 => k_is)
    (case l16 => k_is)
    (case c16 => k_is)
    (case k16 => k_is)
    (case a17 => k_is)
    (case l17 => k_is)
    (case c17 => k_is)
    (case k17 => k_is)
    (case a18 => k_is)
    (case l18 => k_is)
    (case c18 => k_is)
    (case k18 => k_is)
    (case a19 => k_is)
    (case l19 => k_is)
    (case c19 => k_is)
    (case k19 => k_is)
    (case a20 => k_is)
    (case l20 => k_is)
    (case c20 => k_is)
    (case k20 => k_is)
    (case a21 => k_is)
    (case l21 => k_is)
    (case c21 => k_is)
    (case k21 => k_is)
    (case a22 => k_is)
    (case l22 => k_is)
    (case c22 => k_is)
    (case k22 => k_is)
    (case a23 => k_is)
    (case l23 => k_is)
    (case c23 => k_is)
    (case k23 => k_is)
    (case a24 => k_is)
    (case l24 => k_is)
    (case c24 => k_is)
    (case k24 => k_is)
    (case z_all => k_is)
    (case z_bool => k_is)
    (case z_enumerate => k_is)
    (case z_int => k_is)
    (case z_isinstance => k_is)
    (case z_len => k_is)
    (case z_range => k_is)
    (case z_set => k_is)
    (case z_sorted => k_is)
    (case z_str => k_is)
    (case z_tuple => k_is)
    (case z_zip => k_is)
    (case g_LETTERS => k_is)
#print axioms PySem.Challenge.cw_stampedrows_k08_fewest_holds
