import PyProof.Rows.All
import Wide.All
import OpenK.AllK
import Wide.FinOn
import HandS.ForMost
import HandS.ForExc
import HandS.IsInst
import HandS.Walk
import HandS.Zip
import HandS.Wide
import HandS.Flow
import HandS.TupAny
import HandS.TupMul
import HandS.Style
import HandS.Strs
import HandS.More
import HandS.Conv
import HandS.TupLe
import HandS.Replace
import HandS.FStr
import HandS.Lambda
import HandS.EndTab
import HandS.EndBits
import HandS.OwnEq
import HandS.ExcIs
import KE.GoesMore
import KE.GoesEnum
import HandS.SetFor
import PyProof.Rows.SortShellAny
import KE.KRevSl
import HandS.SortInts
import KE.DatumOrd
import KE.KDictDisplayH
import HandS.ReplaceList
import HandS.ReplaceLit
import HandS.Deep
import PyProof.MaxThree
import HandS.Defaults
import KE.KCallOwn
import HandS.MakeKwOnly
import HandS.RaiseMore
import PySem.Challenge.RW_stampedrows_k26_texts
set_option Elab.async false
set_option linter.all false
set_option maxRecDepth 100000
set_option maxHeartbeats 4000000
/-! DL: a data-level semantics over the hand layer. -/
namespace DL
open PySem L2

/-- plain data: what a value is worth -/
inductive D where
  | non
  | bl (b : Bool)
  | int (i : Int)
  | str (s : List Nat)
  | ref (a : Addr)
  | tup (xs : List D)
  | tupF (xs : List D)
  | tupS (xs : List D)
  | lst (xs : List D)

abbrev DKey := Sum Int (List Nat)
/-- a name's content: data that stands, or a list or dict of the frame's own that is still changed -/
inductive Slot where
  | d (x : D)
  | oL (xs : List D)
  | oK (kvs : List (DKey × D))
  | oT (kvs : List (List DKey × D))
  | kK (kvs : List (DKey × D))
abbrev SL := List (Option Slot)
def Slot.own : Slot → Bool
  | .d _ => false
  | .kK _ => false
  | _ => true

inductive Res (α : Type) where
  | ok (a : α)
  | exc (c : Nat)
abbrev Out (G α : Type) := Option (Res α × G)
abbrev M (G α : Type) := SL → G → Out G α
def M.pure {G α : Type} (a : α) : M G α := fun _ g => some (.ok a, g)
def M.lift {G α : Type} (o : Option α) : M G α := fun _ g => match o with
  | some a => some (.ok a, g)
  | none => none
def M.bind {G α β : Type} (f : M G α) (k : α → M G β) : M G β := fun sl g => match f sl g with
  | none => none
  | some (.exc c, g1) => some (.exc c, g1)
  | some (.ok a, g1) => k a sl g1

def mkS (cs : List Nat) : Str := ⟨cs.toArray⟩
theorem mkS_cps (cs : List Nat) : (mkS cs).cps.toList = cs := by simp [mkS]
theorem mkS_len (cs : List Nat) : (mkS cs).length = cs.length := by simp [mkS, Str.length]
theorem mkS_inj {a b : List Nat} (h : mkS a = mkS b) : a = b := by
  have := congrArg (fun s : Str => s.cps.toList) h
  simpa [mkS] using this
theorem mkS_surj (s : Str) : mkS s.cps.toList = s := by simp [mkS]
def toKey : DKey → Key
  | .inl i => .inl i
  | .inr s => .inr (mkS s)
theorem toKey_inj : ∀ {a b : DKey}, toKey a = toKey b → a = b
  | .inl _, .inl _, h => by simp [toKey] at h; rw [h]
  | .inr _, .inr _, h => by simp [toKey] at h; rw [mkS_inj h]
  | .inl _, .inr _, h => by simp [toKey] at h
  | .inr _, .inl _, h => by simp [toKey] at h

/-- a text that is used: not too long, of signs that are ones -/
def LIM : Nat := 100000
def okS (s : List Nat) : Prop := s.length ≤ LIM ∧ ∀ c ∈ s, c < 0x110000
theorem lim_line : LIM ≤ sizeLine := by unfold LIM; decide
theorem lim_line2 {n : Nat} (h : n ≤ LIM) : n ≤ sizeLine := Nat.le_trans h lim_line
theorem lim_lt {n : Nat} (h : n ≤ LIM) : n < sizeLine := Nat.lt_of_le_of_lt h (by unfold LIM; decide)

/-! ### values and data -/
mutual
inductive Dv (K : PySem.W.Frag) (H : Hp) : V → D → Prop
  | non : Dv K H .non .non
  | bl (b : Bool) : Dv K H (.bl b) (.bl b)
  | int (i : Int) : Dv K H (.int i) (.int i)
  | str (s : List Nat) (h : okS s) : Dv K H (.str (mkS s)) (.str s)
  | ref (a : Addr) : Dv K H (.ref a) (.ref a)
  | tup {a : Addr} {vs : List V} {ds : List D} : Rd H a (.tup vs) → DvAll K H vs ds → Dv K H (.ref a) (.tup ds)
  | tupF {a : Addr} {vs : List V} {ds : List D} {o : Obj} : H a = some (.frz o (.tup vs)) → o.cls = .type "tuple" → o.dict = none → DvAll K H vs ds → Dv K H (.ref a) (.tupF ds)
  | tupS {a : Addr} {vs : List V} {ds : List D} : H a = some (.tup vs) → DvAll K H vs ds → Dv K H (.ref a) (.tupS ds)
  | lst {a : Addr} {vs : List V} {ds : List D} : H a = some (.lst vs) → DvAll K H vs ds → Dv K H (.ref a) (.lst ds)
inductive DvAll (K : PySem.W.Frag) (H : Hp) : List V → List D → Prop
  | nil : DvAll K H [] []
  | cons {v : V} {vs : List V} {d : D} {ds : List D} : Dv K H v d → DvAll K H vs ds → DvAll K H (v :: vs) (d :: ds)
end

section
variable {K : PySem.W.Frag} {H H' : Hp}
theorem Same.t {a : Addr} {xs : List V} (e : Same H H') (h : SqT K H a xs) : SqT K H' a xs := by
  rcases h with h | h
  · rcases h with h | ⟨o, h⟩
    · exact .inl (.inl (e _ _ h))
    · exact .inl (.inr ⟨o, e _ _ h⟩)
  · exact .inr h
theorem Same.l {a : Addr} {xs : List V} (e : Same H H') (h : SqL K H a xs) : SqL K H' a xs := by
  rcases h with h | h
  · rcases h with h | ⟨o, h⟩
    · exact .inl (.inl (e _ _ h))
    · exact .inl (.inr ⟨o, e _ _ h⟩)
  · exact .inr h
theorem Same.rd {a : Addr} {u : HO} (e : Same H H') (h : Rd H a u) : Rd H' a u := by
  rcases h with h | ⟨o, h⟩
  · exact .inl (e _ _ h)
  · exact .inr ⟨o, e _ _ h⟩
theorem same_refl (H : Hp) : Same H H := fun _ _ h => h
theorem Same.tr {H1 : Hp} (a : Same H H1) (b : Same H1 H') : Same H H' := fun x o h => b x o (a x o h)

mutual
theorem Dv.mono (e : Same H H') : ∀ (d : D) {v : V}, Dv K H v d → Dv K H' v d
  | .non, _, h => by cases h; exact .non
  | .bl b, _, h => by cases h; exact .bl b
  | .int i, _, h => by cases h; exact .int i
  | .str s, _, h => by cases h with | str _ ok => exact .str s ok
  | .ref a, _, h => by cases h; exact .ref a
  | .tup ds, _, h => by
    cases h with
    | tup h1 h2 => exact .tup (Same.rd e h1) (DvAll.mono e ds h2)
  | .tupF ds, _, h => by
    cases h with
    | tupF h1 h2 h3 h4 => exact .tupF (e _ _ h1) h2 h3 (DvAll.mono e ds h4)
  | .tupS ds, _, h => by
    cases h with
    | tupS h1 h2 => exact .tupS (e _ _ h1) (DvAll.mono e ds h2)
  | .lst ds, _, h => by
    cases h with
    | lst h1 h2 => exact .lst (e _ _ h1) (DvAll.mono e ds h2)
theorem DvAll.mono (e : Same H H') : ∀ (ds : List D) {vs : List V}, DvAll K H vs ds → DvAll K H' vs ds
  | [], _, h => by cases h; exact .nil
  | d :: ds, _, h => by
    cases h with
    | cons h1 h2 => exact .cons (Dv.mono e d h1) (DvAll.mono e ds h2)
end
theorem DvAll.len : ∀ {ds : List D} {vs : List V}, DvAll K H vs ds → vs.length = ds.length
  | [], _, h => by cases h; rfl
  | d :: ds, _, h => by
    cases h with
    | cons h1 h2 => simp [DvAll.len h2]
theorem DvAll.get : ∀ {ds : List D} {vs : List V} {i : Nat} {v : V}, DvAll K H vs ds → vs[i]? = some v → ∃ d, ds[i]? = some d ∧ Dv K H v d
  | [], _, i, v, h, e => by cases h; simp at e
  | d :: ds, _, 0, v, h, e => by
    cases h with
    | cons h1 h2 => simp at e; subst e; exact ⟨d, rfl, h1⟩
  | d :: ds, _, i + 1, v, h, e => by
    cases h with
    | cons h1 h2 =>
      obtain ⟨d', e1, e2⟩ := DvAll.get (i := i) (v := v) h2 (by simpa using e)
      exact ⟨d', by simpa using e1, e2⟩
theorem DvAll.get' : ∀ {ds : List D} {vs : List V} {i : Nat} {d : D}, DvAll K H vs ds → ds[i]? = some d → ∃ v, vs[i]? = some v ∧ Dv K H v d
  | [], _, i, v, h, e => by cases h; simp at e
  | d :: ds, _, 0, v, h, e => by
    cases h with
    | cons h1 h2 => simp at e; subst e; exact ⟨_, rfl, h1⟩
  | d :: ds, _, i + 1, v, h, e => by
    cases h with
    | cons h1 h2 =>
      obtain ⟨d', e1, e2⟩ := DvAll.get' (i := i) (d := v) h2 (by simpa using e)
      exact ⟨d', by simpa using e1, e2⟩
theorem DvAll.append : ∀ {ds es : List D} {vs ws : List V}, DvAll K H vs ds → DvAll K H ws es → DvAll K H (vs ++ ws) (ds ++ es)
  | [], _, _, _, h, h' => by cases h; exact h'
  | d :: ds, _, _, _, h, h' => by
    cases h with
    | cons h1 h2 => exact .cons h1 (DvAll.append h2 h')
theorem DvAll.take : ∀ {ds : List D} {vs : List V} (n : Nat), DvAll K H vs ds → DvAll K H (vs.take n) (ds.take n)
  | [], _, n, h => by cases h; simp; exact .nil
  | d :: ds, _, 0, h => by simp; exact .nil
  | d :: ds, _, n + 1, h => by
    cases h with
    | cons h1 h2 => exact .cons h1 (DvAll.take n h2)
theorem DvAll.drop : ∀ {ds : List D} {vs : List V} (n : Nat), DvAll K H vs ds → DvAll K H (vs.drop n) (ds.drop n)
  | [], _, n, h => by cases h; simp; exact .nil
  | d :: ds, _, 0, h => by simpa using h
  | d :: ds, _, n + 1, h => by
    cases h with
    | cons h1 h2 => exact DvAll.drop n h2
theorem DvAll.set : ∀ {ds : List D} {vs : List V} (n : Nat) {d : D} {v : V}, Dv K H v d → DvAll K H vs ds → DvAll K H (vs.set n v) (ds.set n d)
  | [], _, n, _, _, _, h => by cases h; simp; exact .nil
  | d :: ds, _, 0, _, _, q, h => by
    cases h with
    | cons h1 h2 => exact .cons q h2
  | d :: ds, _, n + 1, _, _, q, h => by
    cases h with
    | cons h1 h2 => exact .cons h1 (DvAll.set n q h2)
theorem DvAll.reverse : ∀ {ds : List D} {vs : List V}, DvAll K H vs ds → DvAll K H vs.reverse ds.reverse
  | [], _, h => by cases h; exact .nil
  | d :: ds, _, h => by
    cases h with
    | cons h1 h2 =>
      rw [List.reverse_cons, List.reverse_cons]
      exact DvAll.append (DvAll.reverse h2) (.cons h1 .nil)
theorem DvAll.rep {ds : List D} {vs : List V} (h : DvAll K H vs ds) : ∀ k : Nat, DvAll K H (List.replicate k vs).flatten (List.replicate k ds).flatten
  | 0 => .nil
  | k + 1 => by
    rw [List.replicate_succ, List.replicate_succ, List.flatten_cons, List.flatten_cons]
    exact DvAll.append h (DvAll.rep h k)
theorem DvAll.eraseIdx : ∀ {ds : List D} {vs : List V} (n : Nat), DvAll K H vs ds → DvAll K H (vs.eraseIdx n) (ds.eraseIdx n)
  | [], _, n, h => by cases h; simp; exact .nil
  | d :: ds, _, 0, h => by
    cases h with
    | cons h1 h2 => simpa using h2
  | d :: ds, _, n + 1, h => by
    cases h with
    | cons h1 h2 => exact .cons h1 (DvAll.eraseIdx n h2)
theorem DvAll.ints : ∀ {ns : List Int} {vs : List V}, DvAll K H vs (ns.map D.int) → vs = ns.map V.int
  | [], _, h => by cases h; rfl
  | n :: ns, _, h => by
    cases h with
    | cons h1 h2 => cases h1; rw [DvAll.ints h2]; rfl
theorem DvAll.ofInts : ∀ (ns : List Int), DvAll K H (ns.map V.int) (ns.map D.int)
  | [] => .nil
  | n :: ns => .cons (.int n) (DvAll.ofInts ns)
theorem DvAll.strs : ∀ {ss : List (List Nat)} {vs : List V}, DvAll K H vs (ss.map D.str) → vs = (ss.map mkS).map V.str
  | [], _, h => by cases h; rfl
  | n :: ns, _, h => by
    cases h with
    | cons h1 h2 => cases h1; rw [DvAll.strs h2]; rfl
theorem DvAll.ofStrs : ∀ (ss : List (List Nat)), (∀ s ∈ ss, okS s) → DvAll K H ((ss.map mkS).map V.str) (ss.map D.str)
  | [], _ => .nil
  | n :: ns, h => .cons (.str n (h n (by simp))) (DvAll.ofStrs ns fun s hs => h s (by simp [hs]))
theorem DvAll.oks : ∀ {ss : List (List Nat)} {vs : List V}, DvAll K H vs (ss.map D.str) → ∀ s ∈ ss, okS s
  | [], _, h => by simp
  | n :: ns, _, h => by
    cases h with
    | cons h1 h2 =>
      cases h1 with
      | str _ ok =>
        intro s hs
        rcases List.mem_cons.mp hs with e | e
        · subst e; exact ok
        · exact DvAll.oks h2 s e
theorem DvAll.bls : ∀ {bs : List Bool} {vs : List V}, DvAll K H vs (bs.map D.bl) → vs = bs.map V.bl
  | [], _, h => by cases h; rfl
  | n :: ns, _, h => by
    cases h with
    | cons h1 h2 => cases h1; rw [DvAll.bls h2]; rfl
end

/-! ### the world: what is changed by more than one frame -/
/-- what is never let go: all but a dict that is walked -/
def stays : HO → Bool
  | .frz _ (.dK _) => false
  | _ => true
structure Wd where
  G : Type
  rep : G → Hp → Hp → Prop
  fp : G → Addr → Prop
  loc : ∀ g H H' Hf Hf', rep g H Hf → (∀ b, fp g b → H' b = H b) → (∀ b o, stays o = true → Hf b = some o → Hf' b = some o) → rep g H' Hf'
  there : ∀ g H Hf b, rep g H Hf → fp g b → H b ≠ none
theorem Wd.loc1 {W : Wd} {g : W.G} {H H' Hf : Hp} (r : W.rep g H Hf) (e : ∀ b, W.fp g b → H' b = H b) : W.rep g H' Hf := W.loc _ _ _ _ _ r e fun _ _ _ h => h
theorem Wd.loc2 {W : Wd} {g : W.G} {H H' Hf Hf' : Hp} (r : W.rep g H Hf) (x : ∀ b o, stays o = true → Hf b = some o → Hf' b = some o) (e : ∀ b, W.fp g b → H' b = H b) : W.rep g H' Hf' := W.loc _ _ _ _ _ r e x
theorem Wd.loc3 {W : Wd} {g : W.G} {H Hf Hf' : Hp} (r : W.rep g H Hf) (x : Same Hf Hf') : W.rep g H Hf' := W.loc _ _ _ _ _ r (fun _ _ => rfl) fun b _ _ e => x b _ e

/-- from the state (H0, Hf0, g0) to (H, Hf, g): Hf, a part of H, is what stands for good -/
structure Base (W : Wd) (H0 Hf0 : Hp) (g0 : W.G) (H Hf : Hp) (g : W.G) : Prop where
  ff : Same Hf0 Hf
  fh : Same Hf H
  keep : ∀ b o, H0 b = some o → ¬ W.fp g0 b → H b = some o
  old : ∀ b, H0 b ≠ none → Hf b = Hf0 b
  there : ∀ b, H0 b ≠ none → H b ≠ none
  rep : W.rep g H Hf
  dis : ∀ b, W.fp g b → Hf b = none
  fpo : ∀ b, W.fp g b → W.fp g0 b ∨ H0 b = none

section
variable {W : Wd} {H0 Hf0 H1 Hf1 H2 Hf2 H Hf : Hp} {g0 g1 g2 g : W.G}
theorem Base.refl (fh : Same Hf H) (rep : W.rep g H Hf) (dis : ∀ b, W.fp g b → Hf b = none) : Base W H Hf g H Hf g :=
  ⟨same_refl _, fh, fun _ _ h _ => h, fun _ _ => rfl, fun _ h => h, rep, dis, fun _ h => .inl h⟩
theorem Base.self (b : Base W H0 Hf0 g0 H Hf g) : Base W H Hf g H Hf g := .refl b.fh b.rep b.dis
theorem Base.trans (a : Base W H0 Hf0 g0 H1 Hf1 g1) (b : Base W H1 Hf1 g1 H2 Hf2 g2) : Base W H0 Hf0 g0 H2 Hf2 g2 where
  ff := Same.tr a.ff b.ff
  fh := b.fh
  keep := fun x o h n => b.keep x o (a.keep x o h n) fun q => by
    rcases a.fpo x q with q | q
    · exact n q
    · rw [h] at q; cases q
  old := fun x h => (b.old x (a.there x h)).trans (a.old x h)
  there := fun x h => b.there x (a.there x h)
  rep := b.rep
  dis := b.dis
  fpo := fun x q => by
    rcases b.fpo x q with q | q
    · exact a.fpo x q
    · refine .inr ?_
      cases e : H0 x with
      | none => rfl
      | some o => exact absurd q (a.there x (by rw [e]; simp))
theorem Base.rd {a : Addr} {u : HO} (b : Base W H0 Hf0 g0 H Hf g) (h : Rd Hf a u) : Rd H a u := Same.rd b.fh h
theorem Base.hn {p : Addr} (b : Base W H0 Hf0 g0 H Hf g) (h : H p = none) : Hf p = none := by
  cases e : Hf p with
  | none => rfl
  | some o => rw [b.fh p o e] at h; cases h
theorem same_new {p : Addr} {o : HO} (h : H p = none) : Same H (upd H p o) := fun b u e => by
  rw [upd_ne (ne_of_none e h)]; exact e
/-- a new thing that stands for good -/
theorem Base.alloc {p : Addr} (o : HO) (b : Base W H0 Hf0 g0 H Hf g) (h : H p = none) : Base W H Hf g (upd H p o) (upd Hf p o) g where
  ff := same_new (b.hn h)
  fh := fun x u e => by
    by_cases hx : x = p
    · subst hx; rw [upd_same] at e ⊢; exact e
    · rw [upd_ne hx] at e ⊢; exact b.fh x u e
  keep := fun x u e _ => same_new h x u e
  old := fun x e => by
    have hx : x ≠ p := fun q => by subst q; exact e h
    rw [upd_ne hx]
  there := fun x e => by
    have hx : x ≠ p := fun q => by subst q; exact e h
    rw [upd_ne hx]; exact e
  rep := Wd.loc2 b.rep (fun x _ _ e => same_new (b.hn h) x _ e) fun x q => by
    have hx : x ≠ p := fun z => by subst z; exact W.there g H _ x b.rep q h
    rw [upd_ne hx]
  dis := fun x q => by
    have hx : x ≠ p := fun z => by subst z; exact W.there g H _ x b.rep q h
    rw [upd_ne hx]; exact b.dis x q
  fpo := fun _ q => .inl q
/-- a new thing of which nothing is said yet -/
theorem Base.allocU {p : Addr} (o : HO) (b : Base W H0 Hf0 g0 H Hf g) (h : H p = none) : Base W H Hf g (upd H p o) Hf g where
  ff := same_refl _
  fh := Same.tr b.fh (same_new h)
  keep := fun x u e _ => same_new h x u e
  old := fun x e => rfl
  there := fun x e => by
    have hx : x ≠ p := fun q => by subst q; exact e h
    rw [upd_ne hx]; exact e
  rep := Wd.loc1 b.rep fun x q => by
    have hx : x ≠ p := fun z => by subst z; exact W.there g H _ x b.rep q h
    rw [upd_ne hx]
  dis := b.dis
  fpo := fun _ q => .inl q
end

/-! ### the frame -/
/-- the frame's entry -/
structure Ent (W : Wd) where
  H : Hp
  Hf : Hp
  g : W.G

/-- the object of a name of its own -/
def OwnOk {W : Wd} (E : Ent W) (Hf : Hp) (g : W.G) (a : Addr) : Prop := E.H a = none ∧ Hf a = none ∧ ¬ W.fp g a
def KVd (K : PySem.W.Frag) (Hf : Hp) : List (Key × V) → List (DKey × D) → Prop := Paired fun p q => p.1 = toKey q.1 ∧ Dv K Hf p.2 q.2
def TVd (K : PySem.W.Frag) (Hf : Hp) : List (List Key × V) → List (List DKey × D) → Prop := Paired fun p q => p.1 = q.1.map toKey ∧ Dv K Hf p.2 q.2

def SlotOk {W : Wd} (K : PySem.W.Frag) (E : Ent W) (H Hf : Hp) (g : W.G) (v : V) : Slot → Prop
  | .d x => Dv K Hf v x
  | .oL xs => ∃ a vs, v = .ref a ∧ H a = some (.lst vs) ∧ DvAll K Hf vs xs ∧ OwnOk E Hf g a
  | .oK kvs => ∃ a vs, v = .ref a ∧ H a = some (.dK vs) ∧ KVd K Hf vs kvs ∧ OwnOk E Hf g a
  | .oT kvs => ∃ a vs, v = .ref a ∧ H a = some (.dT vs) ∧ TVd K Hf vs kvs ∧ OwnOk E Hf g a
  | .kK kvs => ∃ a vs o, v = .ref a ∧ Hf a = some (.frz o (.dK vs)) ∧ KVd K Hf vs kvs

structure R {W : Wd} (K : PySem.W.Frag) (E : Ent W) (H Hf : Hp) (g : W.G) (sl : SL) (σ : St) : Prop where
  base : Base W E.H E.Hf E.g H Hf g
  slot : ∀ (i : Nat) (x : Slot), sl[i]? = some (some x) → ∃ v, σ[i]? = some (some v) ∧ SlotOk K E H Hf g v x
  apart : ∀ (i j : Nat) (x y : Slot) (a : Addr), i ≠ j → sl[i]? = some (some x) → sl[j]? = some (some y) → x.own = true → y.own = true → σ[i]? = some (some (.ref a)) → σ[j]? ≠ some (some (.ref a))
  len : sl.length = σ.length

section
variable {W : Wd} {K : PySem.W.Frag} {E : Ent W} {H Hf H' Hf' : Hp} {g g' : W.G} {sl : SL} {σ : St}
theorem KVd.mono {vs : List (Key × V)} {kvs : List (DKey × D)} (e : Same Hf Hf') (h : KVd K Hf vs kvs) : KVd K Hf' vs kvs := Paired.mapP h fun _ q z => ⟨z.1, Dv.mono e q.2 z.2⟩
theorem TVd.mono {vs : List (List Key × V)} {kvs : List (List DKey × D)} (e : Same Hf Hf') (h : TVd K Hf vs kvs) : TVd K Hf' vs kvs := Paired.mapP h fun _ q z => ⟨z.1, Dv.mono e q.2 z.2⟩
theorem OwnOk.step {a : Addr} {o : HO} (b : Base W H Hf g H' Hf' g') (h : H a = some o) (k : OwnOk E Hf g a) : OwnOk E Hf' g' a :=
  ⟨k.1, (b.old a (by rw [h]; simp)).trans k.2.1, fun q => by
    rcases b.fpo a q with z | z
    · exact k.2.2 z
    · rw [h] at z; cases z⟩
theorem SlotOk.step {v : V} : ∀ {x : Slot}, Base W H Hf g H' Hf' g' → SlotOk K E H Hf g v x → SlotOk K E H' Hf' g' v x
  | .d x, b, h => Dv.mono b.ff x h
  | .oL xs, b, ⟨a, vs, e, h1, h2, h3⟩ => ⟨a, vs, e, b.keep a _ h1 h3.2.2, DvAll.mono b.ff xs h2, h3.step b h1⟩
  | .oK xs, b, ⟨a, vs, e, h1, h2, h3⟩ => ⟨a, vs, e, b.keep a _ h1 h3.2.2, KVd.mono b.ff h2, h3.step b h1⟩
  | .oT xs, b, ⟨a, vs, e, h1, h2, h3⟩ => ⟨a, vs, e, b.keep a _ h1 h3.2.2, TVd.mono b.ff h2, h3.step b h1⟩
  | .kK xs, b, ⟨a, vs, o, e, h1, h2⟩ => ⟨a, vs, o, e, b.ff a _ h1, KVd.mono b.ff h2⟩
/-- an expression ran: the names are as they were -/
theorem R.step (r : R K E H Hf g sl σ) (b : Base W H Hf g H' Hf' g') : R K E H' Hf' g' sl σ :=
  ⟨r.base.trans b, fun i x e => let ⟨v, h1, h2⟩ := r.slot i x e; ⟨v, h1, h2.step b⟩, r.apart, r.len⟩
end
end DL
namespace DL
open PySem L2

/-- the world and the classes of errors by numbers -/
structure Cn where
  W : Wd
  cls : Nat → Value

section
variable {Z : Cn} {α β γ δ : Type}
/-- the outcome m of a piece, from (H, Hf, g) on: Rl tells how what is handed on lies to the pure value -/
def go (Z : Cn) (Rl : Z.W.G → Hp → Hp → β → α → Prop) (Wx : WX) (σ : St) (m : Out Z.W.G α) (H Hf : Hp) (g : Z.W.G) (Q : β → Hp → Prop) : Prop :=
  match m with
  | none => False
  | some (.ok a, g') => ∀ v H' Hf', Base Z.W H Hf g H' Hf' g' → Rl g' Hf' H' v a → Q v H'
  | some (.exc c, g') => ∀ H' Hf', Base Z.W H Hf g H' Hf' g' → Wx (Z.cls c) none σ H'
def tG (Z : Cn) (K : PySem.W.Frag) (E : Ent Z.W) (Rl : Z.W.G → Hp → Hp → β → α → Prop) (Wx : WX) (f : M Z.W.G α) : St → Hp → (β → Hp → Prop) → Prop :=
  fun σ H Q => ∃ (Hf : Hp) (g : Z.W.G) (sl : SL), R K E H Hf g sl σ ∧ go Z Rl Wx σ (f sl g) H Hf g Q

variable {Rl : Z.W.G → Hp → Hp → β → α → Prop} {Rm : Z.W.G → Hp → Hp → δ → γ → Prop} {Wx : WX} {σ : St} {H Hf : Hp} {g : Z.W.G} {sl : SL}
theorem go.mono {m : Out Z.W.G α} {Q Q' : β → Hp → Prop} (h : go Z Rl Wx σ m H Hf g Q) (k : ∀ v H', Q v H' → Q' v H') : go Z Rl Wx σ m H Hf g Q' := by
  match m, h with
  | some (.ok a, g'), h => exact fun v H' Hf' b r => k v H' (h v H' Hf' b r)
  | some (.exc c, g'), h => exact h
theorem go.rel {Rl' : Z.W.G → Hp → Hp → β → α → Prop} {m : Out Z.W.G α} {Q : β → Hp → Prop} (h : go Z Rl Wx σ m H Hf g Q) (k : ∀ g' Hf' H' v a, Same Hf' H' → Rl' g' Hf' H' v a → Rl g' Hf' H' v a) : go Z Rl' Wx σ m H Hf g Q := by
  match m, h with
  | some (.ok a, g'), h => exact fun v H' Hf' b r => h v H' Hf' b (k _ _ _ _ _ b.fh r)
  | some (.exc c, g'), h => exact h
/-- from a later state on -/
theorem go.later {m : Out Z.W.G α} {Q : β → Hp → Prop} {H1 Hf1 : Hp} {g1 : Z.W.G} (h : go Z Rl Wx σ m H Hf g Q) (b : Base Z.W H Hf g H1 Hf1 g1) : go Z Rl Wx σ m H1 Hf1 g1 Q := by
  match m, h with
  | some (.ok a, g'), h => exact fun v H' Hf' b' r => h v H' Hf' (b.trans b') r
  | some (.exc c, g'), h => exact fun H' Hf' b' => h H' Hf' (b.trans b')
theorem go_bind {f : M Z.W.G γ} {k : γ → M Z.W.G α} {Q : β → Hp → Prop} (h : go Z Rl Wx σ (M.bind f k sl g) H Hf g Q) :
    go Z Rm Wx σ (f sl g) H Hf g (fun v H1 => ∃ (Hf1 : Hp) (g1 : Z.W.G) (a : γ), Base Z.W H Hf g H1 Hf1 g1 ∧ Rm g1 Hf1 H1 v a ∧ go Z Rl Wx σ (k a sl g1) H1 Hf1 g1 Q) := by
  unfold M.bind at h
  match e : f sl g with
  | none => rw [e] at h; exact h
  | some (.exc c, g1) => rw [e] at h; exact h
  | some (.ok a, g1) =>
    rw [e] at h
    intro v H1 Hf1 b r
    exact ⟨Hf1, g1, a, b, r, go.later (m := k a sl g1) (g := g) h b⟩
theorem go_lift {o : Option α} {Q : β → Hp → Prop} (h : go Z Rl Wx σ (M.lift o sl g) H Hf g Q) : ∃ a, o = some a ∧ ∀ v H' Hf', Base Z.W H Hf g H' Hf' g → Rl g Hf' H' v a → Q v H' := by
  unfold M.lift at h
  match o, h with
  | some a, h => exact ⟨a, rfl, h⟩
theorem go_bl {o : Option γ} {k : γ → M Z.W.G α} {Q : β → Hp → Prop} (h : go Z Rl Wx σ (M.bind (M.lift o) k sl g) H Hf g Q) : ∃ a, o = some a ∧ go Z Rl Wx σ (k a sl g) H Hf g Q := by
  unfold M.bind M.lift at h
  match o, h with
  | some a, h => exact ⟨a, rfl, h⟩
theorem go_pure {a : α} {Q : β → Hp → Prop} (h : go Z Rl Wx σ (M.pure a sl g) H Hf g Q) : ∀ v H' Hf', Base Z.W H Hf g H' Hf' g → Rl g Hf' H' v a → Q v H' := h
end

/-! ### what is handed on -/
/-- data that stands for good -/
abbrev RlD {W : Wd} (K : PySem.W.Frag) : W.G → Hp → Hp → V → D → Prop := fun _ Hf _ v d => Dv K Hf v d
/-- data that may be read: it stands for good, or is a list of the frame's own of such -/
def Dr {W : Wd} (K : PySem.W.Frag) (g : W.G) (Hf H : Hp) (v : V) (d : D) : Prop := Dv K Hf v d ∨ ∃ a vs ds, v = .ref a ∧ d = .lst ds ∧ H a = some (.lst vs) ∧ DvAll K Hf vs ds ∧ ¬ W.fp g a
abbrev RlR {W : Wd} (K : PySem.W.Frag) : W.G → Hp → Hp → V → D → Prop := fun g Hf H v d => Dr K g Hf H v d
abbrev RlB {W : Wd} : W.G → Hp → Hp → Bool → Bool → Prop := fun _ _ _ b c => b = c
abbrev RlA {W : Wd} (K : PySem.W.Frag) : W.G → Hp → Hp → List V → List D → Prop := fun _ Hf _ vs ds => DvAll K Hf vs ds
abbrev RlO {W : Wd} : W.G → Hp → Hp → Option Int → Option Int → Prop := fun _ _ _ b c => b = c
theorem Dr.h {W : Wd} {K : PySem.W.Frag} {g : W.G} {Hf H : Hp} {v : V} {d : D} (s : Same Hf H) (h : Dr K g Hf H v d) : Dv K H v d := by
  rcases h with h | ⟨a, vs, ds, rfl, rfl, h1, h2, _⟩
  · exact Dv.mono s d h
  · exact .lst h1 (DvAll.mono s ds h2)
theorem Dr.step {W : Wd} {K : PySem.W.Frag} {H Hf H' Hf' : Hp} {g g' : W.G} {v : V} {d : D} (b : Base W H Hf g H' Hf' g') (h : Dr K g Hf H v d) : Dr K g' Hf' H' v d := by
  rcases h with h | ⟨a, vs, ds, e1, e2, h1, h2, h3⟩
  · exact .inl (Dv.mono b.ff d h)
  · refine .inr ⟨a, vs, ds, e1, e2, b.keep a _ h1 h3, DvAll.mono b.ff ds h2, fun q => ?_⟩
    rcases b.fpo a q with z | z
    · exact h3 z
    · rw [h1] at z; cases z

section
variable (X : Cx) (Z : Cn) (E : Ent Z.W) (Wx : WX)
abbrev DE (e : Expr) (f : M Z.W.G D) : Prop := PE X e (tG Z X.K E (RlD X.K) Wx f)
abbrev DR (e : Expr) (f : M Z.W.G D) : Prop := PE X e (tG Z X.K E (RlR X.K) Wx f)
abbrev DT (e : Expr) (f : M Z.W.G Bool) : Prop := PT X e (tG Z X.K E RlB Wx f)
abbrev DW (e : Expr) (f : M Z.W.G Bool) : Prop := PW X e (tG Z X.K E RlB Wx f)
abbrev DA (es : List Expr) (f : M Z.W.G (List D)) : Prop := PA X es (tG Z X.K E (RlA X.K) Wx f)
abbrev DO (e : Option Expr) (f : M Z.W.G (Option Int)) : Prop := PO X e (tG Z X.K E RlO Wx f)
end

theorem PE.imp {X : Cx} {e : Expr} {t t' : TE} (h : PE X e t) (k : ∀ σ H Q, t' σ H Q → t σ H Q) : PE X e t' := ⟨fun pins s σ H Q I q => h.run pins s σ H Q I (k σ H Q q)⟩
theorem PT.imp {X : Cx} {e : Expr} {t t' : TT} (h : PT X e t) (k : ∀ σ H Q, t' σ H Q → t σ H Q) : PT X e t' := ⟨fun pins s σ H Q I q => h.run pins s σ H Q I (k σ H Q q)⟩
theorem PW.imp {X : Cx} {e : Expr} {t t' : TT} (h : PW X e t) (k : ∀ σ H Q, t' σ H Q → t σ H Q) : PW X e t' := ⟨fun w pins s σ H Q I q => h.run w pins s σ H Q I (k σ H Q q)⟩
theorem PA.imp {X : Cx} {e : List Expr} {t t' : TA} (h : PA X e t) (k : ∀ σ H Q, t' σ H Q → t σ H Q) : PA X e t' := ⟨fun p pins s σ H Q I q => h.run p pins s σ H Q I (k σ H Q q)⟩
theorem PO.imp {X : Cx} {e : Option Expr} {t t' : TO} (h : PO X e t) (k : ∀ σ H Q, t' σ H Q → t σ H Q) : PO X e t' := ⟨fun pins s σ H Q I q => h.run pins s σ H Q I (k σ H Q q)⟩

/-! ### expressions: the pure side -/
section
variable {G : Type}
def eV (i : Nat) : M G D := fun sl g => match sl[i]? with
  | some (some (.d x)) => some (.ok x, g)
  | _ => none
def eR (i : Nat) : M G D := fun sl g => match sl[i]? with
  | some (some (.d x)) => some (.ok x, g)
  | some (some (.oL xs)) => some (.ok (.lst xs), g)
  | _ => none
def eC (d : D) : M G D := M.pure d
def e2 (op : D → D → Option D) (a b : M G D) : M G D := M.bind a fun x => M.bind b fun y => M.lift (op x y)
def e1 (op : D → Option D) (a : M G D) : M G D := M.bind a fun x => M.lift (op x)
def asB : D → Option Bool
  | .bl b => some b
  | _ => none
theorem asB_some : ∀ {d : D} {b : Bool}, asB d = some b → d = .bl b
  | .bl _, _, h => by cases h; rfl
def tV (a : M G D) : M G Bool := M.bind a fun x => M.lift (asB x)
def tAndM (a b : M G Bool) : M G Bool := M.bind a fun c => if c = true then b else M.pure false
def tOrM (a b : M G Bool) : M G Bool := M.bind a fun c => if c = true then M.pure true else b
def tNotM (a : M G Bool) : M G Bool := M.bind a fun c => M.pure (!c)
def eAndM (a b : M G D) : M G D := M.bind a fun x => M.bind (M.lift (asB x)) fun c => if c = true then b else M.pure (.bl false)
def eOrM (a b : M G D) : M G D := M.bind a fun x => M.bind (M.lift (asB x)) fun c => if c = true then M.pure (.bl true) else b
def eNotM (a : M G D) : M G D := M.bind a fun x => M.bind (M.lift (asB x)) fun c => M.pure (.bl (!c))
def eIfM (c : M G Bool) (a b : M G D) : M G D := M.bind c fun k => if k = true then a else b
def aNil : M G (List D) := M.pure []
def aCons (a : M G D) (b : M G (List D)) : M G (List D) := M.bind a fun x => M.bind b fun xs => M.pure (x :: xs)
def eTup (a : M G (List D)) : M G D := M.bind a fun xs => M.lift (if xs.length ≤ LIM then some (.tup xs) else none)
def eLst (a : M G (List D)) : M G D := M.bind a fun xs => M.lift (if xs.length ≤ LIM then some (.lst xs) else none)
end

/-! ### expressions: the rules -/
section
variable {X : Cx} {Z : Cn} {E : Ent Z.W} {Wx : WX} {e a b c : Expr} {pos : Pos} {fe fa fb fc : M Z.W.G D} {ft fu : M Z.W.G Bool}
theorem DE.r (h : DE X Z E Wx e fe) : DR X Z E Wx e fe := PE.imp h fun σ H Q ⟨Hf, g, sl, r, q⟩ => ⟨Hf, g, sl, r, q.rel fun _ _ _ _ _ _ z => .inl z⟩
theorem de_name (i : Nat) {x : Str} (hN : X.N[i]? = some x := by rfl) (hv : Vis X.env.scope x := by first | exact Or.inl rfl | exact Or.inr (Or.inl rfl) | exact Or.inr (Or.inr rfl)) (hd : (x == ("__debug__" : Str)) = false := by decide)
    (hcd : (x == ("__classdict__" : Str)) = false := by decide) : DE X Z E Wx (.Name x pos) (eV i) := by
  refine PE.imp (pe_var hN hv hd hcd) fun σ H Q ⟨Hf, g, sl, r, q⟩ => ?_
  unfold eV at q
  match e : sl[i]? with
  | some (some (.d y)) =>
    rw [e] at q
    obtain ⟨v, h1, h2⟩ := r.slot i _ e
    exact ⟨v, h1, q v H Hf r.base.self h2⟩
  | some (some (.oL y)) => rw [e] at q; exact q.elim
  | some (some (.oK y)) => rw [e] at q; exact q.elim
  | some (some (.oT y)) => rw [e] at q; exact q.elim
  | some (some (.kK y)) => rw [e] at q; exact q.elim
  | some none => rw [e] at q; exact q.elim
  | none => rw [e] at q; exact q.elim
theorem dr_name (i : Nat) {x : Str} (hN : X.N[i]? = some x := by rfl) (hv : Vis X.env.scope x := by first | exact Or.inl rfl | exact Or.inr (Or.inl rfl) | exact Or.inr (Or.inr rfl)) (hd : (x == ("__debug__" : Str)) = false := by decide)
    (hcd : (x == ("__classdict__" : Str)) = false := by decide) : DR X Z E Wx (.Name x pos) (eR i) := by
  refine PE.imp (pe_var hN hv hd hcd) fun σ H Q ⟨Hf, g, sl, r, q⟩ => ?_
  unfold eR at q
  match e : sl[i]? with
  | some (some (.d y)) =>
    rw [e] at q
    obtain ⟨v, h1, h2⟩ := r.slot i _ e
    exact ⟨v, h1, q v H Hf r.base.self (.inl h2)⟩
  | some (some (.oL y)) =>
    rw [e] at q
    obtain ⟨v, h1, a, vs, h3, h4, h5, h6⟩ := r.slot i _ e
    exact ⟨v, h1, q v H Hf r.base.self (.inr ⟨a, vs, _, h3, rfl, h4, h5, h6.2.2⟩)⟩
  | some (some (.oK y)) => rw [e] at q; exact q.elim
  | some (some (.oT y)) => rw [e] at q; exact q.elim
  | some (some (.kK y)) => rw [e] at q; exact q.elim
  | some none => rw [e] at q; exact q.elim
  | none => rw [e] at q; exact q.elim
theorem de_c {v : V} {d : D} (h : PE X e (tC v)) (hd : ∀ Hf, Dv X.K Hf v d) : DE X Z E Wx e (eC d) :=
  PE.imp h fun σ H Q ⟨Hf, g, sl, r, q⟩ => go_pure q v H Hf r.base.self (hd Hf)
theorem de_int {i : Int} {j : Nat} : DE X Z E Wx (.Constant (.int i) j pos) (eC (.int i)) := de_c pe_int fun _ => .int i
theorem de_bl {i : Bool} {j : Nat} : DE X Z E Wx (.Constant (.bool i) j pos) (eC (.bl i)) := de_c pe_bl fun _ => .bl i
theorem de_non {j : Nat} : DE X Z E Wx (.Constant .none j pos) (eC .non) := de_c pe_non fun _ => .non
def okSb (s : List Nat) : Bool := decide (s.length ≤ LIM) && s.all fun c => decide (c < 0x110000)
theorem okSb_ok {s : List Nat} (h : okSb s = true) : okS s := by
  unfold okSb at h
  simp only [Bool.and_eq_true, decide_eq_true_eq, List.all_eq_true] at h
  exact h
theorem de_str (s : List Nat) {x : Str} {j : Nat} (h : x = mkS s := by rfl) (hs : okSb s = true := by decide) : DE X Z E Wx (.Constant (.str x) j pos) (eC (.str s)) := by
  subst h
  exact de_c pe_str fun _ => .str s (okSb_ok hs)
/-- a global name: a text of the module -/
theorem de_gstr (s : List Nat) {x : Str} {u : Value} (hg : Gl X x) (hm : X.mg x = some u) (r : RelV (.str (mkS s)) u) (hs : okSb s = true := by decide) (hd : (x == ("__debug__" : Str)) = false := by decide) : DE X Z E Wx (.Name x pos) (eC (.str s)) :=
  de_c (pe_glob hg hm r hd) fun _ => .str s (okSb_ok hs)
theorem de_gref {f : Addr} {x : Str} (hg : Gl X x) (hm : X.mg x = some (.ref f)) (hd : (x == ("__debug__" : Str)) = false := by decide) : DE X Z E Wx (.Name x pos) (eC (.ref f)) :=
  de_c (pe_glob (v := .ref f) hg hm rfl hd) fun _ => .ref f

/-! two-place operations on data -/
def OpD (X : Cx) (f : Value → Value → Sem Value) (op : D → D → Option D) : Prop :=
  ∃ r : R2, OpR X f r ∧ ∀ (W : Wd) (H Hf : Hp) (g : W.G) (x y : V) (a b d : D) (Q : VK), Base W H Hf g H Hf g → Dr X.K g Hf H x a → Dr X.K g Hf H y b → op a b = some d →
    (∀ v H' Hf', Base W H Hf g H' Hf' g → Dv X.K Hf' v d → Q v H') → r x y H Q
theorem op_run {op : D → D → Option D} {r : R2} {σ : St} {H : Hp} {Q : VK} (hr : ∀ (W : Wd) (H Hf : Hp) (g : W.G) (x y : V) (a b d : D) (Q : VK), Base W H Hf g H Hf g → Dr X.K g Hf H x a → Dr X.K g Hf H y b → op a b = some d →
    (∀ v H' Hf', Base W H Hf g H' Hf' g → Dv X.K Hf' v d → Q v H') → r x y H Q) (h : tG Z X.K E (RlD X.K) Wx (e2 op fa fb) σ H Q) : tOp r (tG Z X.K E (RlR X.K) Wx fa) (tG Z X.K E (RlR X.K) Wx fb) σ H Q := by
  obtain ⟨Hf, g, sl, r, q⟩ := h
  refine ⟨Hf, g, sl, r, (go_bind (Rm := RlR X.K) q).mono fun x H1 ⟨Hf1, g1, a, b1, d1, q1⟩ => ⟨Hf1, g1, sl, r.step b1, (go_bind (Rm := RlR X.K) q1).mono fun y H2 ⟨Hf2, g2, b, b2, d2, q2⟩ => ?_⟩⟩
  obtain ⟨d, ed, k⟩ := go_lift q2
  exact hr Z.W H2 Hf2 g2 x y a b d Q b2.self (d1.step b2) d2 ed k
theorem de_op {o : Operator} {op : D → D → Option D} (ho : OpD X (binaryOp o) op) (ha : DR X Z E Wx a fa) (hb : DR X Z E Wx b fb) : DE X Z E Wx (.BinOp a o b pos) (e2 op fa fb) := by
  obtain ⟨r, hr, k⟩ := ho
  exact PE.imp (pe_op hr ha hb) fun σ H Q h => op_run k h
theorem de_cmp {o : CmpOp} {op : D → D → Option D} (ho : OpD X (compareOp o) op) (ha : DR X Z E Wx a fa) (hb : DR X Z E Wx b fb) (hm : behindInMarks o b = false := by rfl) : DE X Z E Wx (.Compare a [o] [b] pos) (e2 op fa fb) := by
  obtain ⟨r, hr, k⟩ := ho
  exact PE.imp (pe_cmpR hr ha hb hm) fun σ H Q h => op_run k h
theorem tTest_of {t : TE} {σ : St} {H : Hp} {Q : Bool → Hp → Prop} (h : tG Z X.K E RlB Wx (tV fe) σ H Q) (k : ∀ Q', tG Z X.K E (RlD X.K) Wx fe σ H Q' → t σ H Q') : tTest t σ H Q := by
  obtain ⟨Hf, g, sl, r, q⟩ := h
  refine k _ ⟨Hf, g, sl, r, (go_bind (Rm := RlD X.K) q).mono fun x H1 ⟨Hf1, g1, a, b1, d1, q1⟩ => ?_⟩
  obtain ⟨c, ec, k1⟩ := go_lift q1
  obtain rfl := asB_some ec
  cases d1
  exact ⟨_, rfl, k1 _ H1 Hf1 b1.self rfl⟩
theorem dt_cmp {o : CmpOp} {op : D → D → Option D} (ho : OpD X (compareOp o) op) (ha : DR X Z E Wx a fa) (hb : DR X Z E Wx b fb) (hm : behindInMarks o b = false := by rfl) : DT X Z E Wx (.Compare a [o] [b] pos) (tV (e2 op fa fb)) := by
  obtain ⟨r, hr, k⟩ := ho
  exact PT.imp (pt_cmpR hr ha hb hm) fun σ H Q h => tTest_of h fun Q' q => op_run k q
/-- a op1 b op2 c, op1's answer a truth value -/
def e3 {G : Type} (op op' : D → D → Option D) (a b c : M G D) : M G D := M.bind a fun x => M.bind b fun y => M.bind (M.lift (op x y)) fun z => M.bind (M.lift (asB z)) fun k => if k = true then M.bind c fun w => M.lift (op' y w) else M.pure (.bl false)
theorem chain_run {op op' : D → D → Option D} {r r' : R2} {σ : St} {H : Hp} {Q : VK} (hr : ∀ (W : Wd) (H Hf : Hp) (g : W.G) (x y : V) (a b d : D) (Q : VK), Base W H Hf g H Hf g → Dr X.K g Hf H x a → Dr X.K g Hf H y b → op a b = some d →
    (∀ v H' Hf', Base W H Hf g H' Hf' g → Dv X.K Hf' v d → Q v H') → r x y H Q) (hr' : ∀ (W : Wd) (H Hf : Hp) (g : W.G) (x y : V) (a b d : D) (Q : VK), Base W H Hf g H Hf g → Dr X.K g Hf H x a → Dr X.K g Hf H y b → op' a b = some d →
    (∀ v H' Hf', Base W H Hf g H' Hf' g → Dv X.K Hf' v d → Q v H') → r' x y H Q) (h : tG Z X.K E (RlD X.K) Wx (e3 op op' fa fb fc) σ H Q) :
    tChain r r' (tG Z X.K E (RlR X.K) Wx fa) (tG Z X.K E (RlR X.K) Wx fb) (tG Z X.K E (RlR X.K) Wx fc) σ H Q := by
  obtain ⟨Hf, g, sl, r, q⟩ := h
  refine ⟨Hf, g, sl, r, (go_bind (Rm := RlR X.K) q).mono fun x H1 ⟨Hf1, g1, a, b1, d1, q1⟩ => ⟨Hf1, g1, sl, r.step b1, (go_bind (Rm := RlR X.K) q1).mono fun y H2 ⟨Hf2, g2, b, b2, d2, q2⟩ => ?_⟩⟩
  obtain ⟨z, ez, q3⟩ := go_bl q2
  refine hr Z.W H2 Hf2 g2 x y a b z _ b2.self (d1.step b2) d2 ez fun v H3 Hf3 b3 dz => ?_
  obtain ⟨k, ek, q4⟩ := go_bl q3
  obtain rfl := asB_some ek
  cases dz
  refine ⟨_, rfl, ?_⟩
  cases k with
  | true =>
    rw [if_pos rfl] at q4 ⊢
    refine ⟨Hf3, g2, sl, (r.step (b1.trans b2)).step b3, (go_bind (Rm := RlR X.K) (q4.later b3)).mono fun w H4 ⟨Hf4, g4, c, b4, d4, q5⟩ => ?_⟩
    obtain ⟨d, ed, k'⟩ := go_lift q5
    exact hr' Z.W H4 Hf4 g4 y w b c d Q b4.self ((d2.step b3).step b4) d4 ed k'
  | false =>
    rw [if_neg (by decide)] at q4 ⊢
    exact q4 _ _ _ b3 (.bl false)
theorem de_chain {o o' : CmpOp} {op op' : D → D → Option D} (ho : OpD X (compareOp o) op) (ho' : OpD X (compareOp o') op') (ha : DR X Z E Wx a fa) (hb : DR X Z E Wx b fb) (hc : DR X Z E Wx c fc)
    (hm : lastMarks [o, o'] [b, c] = false := by with_unfolding_all rfl) : DE X Z E Wx (.Compare a [o, o'] [b, c] pos) (e3 op op' fa fb fc) := by
  obtain ⟨r, hr, k⟩ := ho
  obtain ⟨r', hr', k'⟩ := ho'
  exact PE.imp (pe_chain hr hr' ha hb hc hm) fun σ H Q h => chain_run k k' h
theorem dt_chain {o o' : CmpOp} {op op' : D → D → Option D} (ho : OpD X (compareOp o) op) (ho' : OpD X (compareOp o') op') (ha : DR X Z E Wx a fa) (hb : DR X Z E Wx b fb) (hc : DR X Z E Wx c fc)
    (hm : lastMarks [o, o'] [b, c] = false := by with_unfolding_all rfl) : DT X Z E Wx (.Compare a [o, o'] [b, c] pos) (tV (e3 op op' fa fb fc)) := by
  obtain ⟨r, hr, k⟩ := ho
  obtain ⟨r', hr', k'⟩ := ho'
  exact PT.imp (pt_chain hr hr' ha hb hc hm) fun σ H Q h => tTest_of h fun Q' q => chain_run k k' q

/-! tests and truth values -/
theorem tB_of {σ : St} {H : Hp} {Q : Bool → Hp → Prop} {t : TE} (h : tG Z X.K E RlB Wx (tV fe) σ H Q) (k : ∀ Q', tG Z X.K E (RlD X.K) Wx fe σ H Q' → t σ H Q') : tB t σ H Q := tTest_of h k
theorem dt_val (h : DE X Z E Wx e fe) (he : ∀ whole, isTrue e X.env whole = (do let v ← whole; standAt e.pos; holding [v] (truthy v)) := by intro _; rfl) : DT X Z E Wx e (tV fe) :=
  PT.imp (pt_val h he) fun σ H Q q => tB_of q fun _ z => z
theorem dw_and1 (ha : DT X Z E Wx a ft) : DW X Z E Wx (.BoolOp .And [a] pos) ft := pw_and1 ha
theorem dw_or1 (ha : DT X Z E Wx a ft) : DW X Z E Wx (.BoolOp .Or [a] pos) ft := pw_or1 ha
theorem dw_and {rest : List Expr} (ha : DT X Z E Wx a ft) (hb : DW X Z E Wx (.BoolOp .And (b :: rest) pos) fu) : DW X Z E Wx (.BoolOp .And (a :: b :: rest) pos) (tAndM ft fu) := by
  refine PW.imp (pw_and ha hb) fun σ H Q ⟨Hf, g, sl, r, q⟩ => ⟨Hf, g, sl, r, (go_bind (Rm := RlB) q).mono fun x H1 ⟨Hf1, g1, c, b1, e1, q1⟩ => ?_⟩
  cases e1
  cases x with
  | true => rw [if_pos rfl] at q1 ⊢; exact ⟨Hf1, g1, sl, r.step b1, q1⟩
  | false => rw [if_neg (by decide)] at q1 ⊢; exact q1 _ _ _ b1.self rfl
theorem dw_or {rest : List Expr} (ha : DT X Z E Wx a ft) (hb : DW X Z E Wx (.BoolOp .Or (b :: rest) pos) fu) : DW X Z E Wx (.BoolOp .Or (a :: b :: rest) pos) (tOrM ft fu) := by
  refine PW.imp (pw_or ha hb) fun σ H Q ⟨Hf, g, sl, r, q⟩ => ⟨Hf, g, sl, r, (go_bind (Rm := RlB) q).mono fun x H1 ⟨Hf1, g1, c, b1, e1, q1⟩ => ?_⟩
  cases e1
  cases x with
  | true => rw [if_pos rfl] at q1 ⊢; exact q1 _ _ _ b1.self rfl
  | false => rw [if_neg (by decide)] at q1 ⊢; exact ⟨Hf1, g1, sl, r.step b1, q1⟩
theorem DW.pt (h : DW X Z E Wx e ft) : DT X Z E Wx e ft := PW.pt h
theorem dt_not (ha : DT X Z E Wx a ft) : DT X Z E Wx (.UnaryOp .Not a pos) (tNotM ft) := by
  refine PT.imp (pt_not ha) fun σ H Q ⟨Hf, g, sl, r, q⟩ => ⟨Hf, g, sl, r, (go_bind (Rm := RlB) q).mono fun x H1 ⟨Hf1, g1, c, b1, e1, q1⟩ => ?_⟩
  cases e1
  exact q1 _ _ _ b1.self rfl
theorem de_one {op : BoolOp} (h : DE X Z E Wx a fa) : DE X Z E Wx (.BoolOp op [a] pos) fa := pe_one h
theorem de_and {rest : List Expr} (ha : DE X Z E Wx a fa) (hb : DE X Z E Wx (.BoolOp .And (b :: rest) pos) fb) : DE X Z E Wx (.BoolOp .And (a :: b :: rest) pos) (eAndM fa fb) := by
  refine PE.imp (pe_and ha hb) fun σ H Q ⟨Hf, g, sl, r, q⟩ => ⟨Hf, g, sl, r, (go_bind (Rm := RlD X.K) q).mono fun x H1 ⟨Hf1, g1, c, b1, d1, q1⟩ => ?_⟩
  obtain ⟨k, ek, q2⟩ := go_bl q1
  obtain rfl := asB_some ek
  cases d1
  refine ⟨_, rfl, ?_⟩
  cases k with
  | true => rw [if_pos rfl] at q2 ⊢; exact ⟨Hf1, g1, sl, r.step b1, q2⟩
  | false => rw [if_neg (by decide)] at q2 ⊢; exact q2 _ _ _ b1.self (.bl false)
theorem de_or {rest : List Expr} (ha : DE X Z E Wx a fa) (hb : DE X Z E Wx (.BoolOp .Or (b :: rest) pos) fb) : DE X Z E Wx (.BoolOp .Or (a :: b :: rest) pos) (eOrM fa fb) := by
  refine PE.imp (pe_or ha hb) fun σ H Q ⟨Hf, g, sl, r, q⟩ => ⟨Hf, g, sl, r, (go_bind (Rm := RlD X.K) q).mono fun x H1 ⟨Hf1, g1, c, b1, d1, q1⟩ => ?_⟩
  obtain ⟨k, ek, q2⟩ := go_bl q1
  obtain rfl := asB_some ek
  cases d1
  refine ⟨_, rfl, ?_⟩
  cases k with
  | true => rw [if_pos rfl] at q2 ⊢; exact q2 _ _ _ b1.self (.bl true)
  | false => rw [if_neg (by decide)] at q2 ⊢; exact ⟨Hf1, g1, sl, r.step b1, q2⟩
theorem de_not (ha : DE X Z E Wx a fa) : DE X Z E Wx (.UnaryOp .Not a pos) (eNotM fa) := by
  refine PE.imp (pe_not ha) fun σ H Q ⟨Hf, g, sl, r, q⟩ => ⟨Hf, g, sl, r, (go_bind (Rm := RlD X.K) q).mono fun x H1 ⟨Hf1, g1, c, b1, d1, q1⟩ => ?_⟩
  obtain ⟨k, ek, q2⟩ := go_bl q1
  obtain rfl := asB_some ek
  cases d1
  exact ⟨_, rfl, q2 _ _ _ b1.self (.bl _)⟩
theorem de_if (hc : DT X Z E Wx c ft) (ha : DE X Z E Wx a fa) (hb : DE X Z E Wx b fb) : DE X Z E Wx (.IfExp c a b pos) (eIfM ft fa fb) := by
  refine PE.imp (pe_ifExp hc ha hb) fun σ H Q ⟨Hf, g, sl, r, q⟩ => ⟨Hf, g, sl, r, (go_bind (Rm := RlB) q).mono fun x H1 ⟨Hf1, g1, c, b1, e1, q1⟩ => ?_⟩
  cases e1
  cases x with
  | true => rw [if_pos rfl] at q1 ⊢; exact ⟨Hf1, g1, sl, r.step b1, q1⟩
  | false => rw [if_neg (by decide)] at q1 ⊢; exact ⟨Hf1, g1, sl, r.step b1, q1⟩

/-! displays, arguments -/
theorem da_nil : DA X Z E Wx [] aNil := PA.imp pa_nil fun σ H Q ⟨Hf, g, sl, r, q⟩ => q _ _ _ r.base.self .nil
theorem da_cons {es : List Expr} {fs : M Z.W.G (List D)} (ha : DE X Z E Wx e fe) (hr : DA X Z E Wx es fs) (hs : starEach (e :: es) X.env = (false, eval e X.env) :: starEach es X.env := by rfl) : DA X Z E Wx (e :: es) (aCons fe fs) := by
  refine PA.imp (pa_cons ha hr hs) fun σ H Q ⟨Hf, g, sl, r, q⟩ => ⟨Hf, g, sl, r, (go_bind (Rm := RlD X.K) q).mono fun x H1 ⟨Hf1, g1, c, b1, d1, q1⟩ => ⟨Hf1, g1, sl, r.step b1, (go_bind (Rm := RlA X.K) q1).mono fun xs H2 ⟨Hf2, g2, cs, b2, d2, q2⟩ => ?_⟩⟩
  exact q2 _ _ _ b2.self (.cons (Dv.mono b2.ff c d1) d2)
theorem de_tup {es : List Expr} {fs : M Z.W.G (List D)} {k : Nat} (h : DA X Z E Wx es fs) : DE X Z E Wx (.Tuple es k pos) (eTup fs) := by
  refine PE.imp (pe_tup h) fun σ H Q ⟨Hf, g, sl, r, q⟩ => ⟨Hf, g, sl, r, (go_bind (Rm := RlA X.K) q).mono fun vs H1 ⟨Hf1, g1, cs, b1, d1, q1⟩ => ?_⟩
  obtain ⟨d, ed, k1⟩ := go_lift q1
  split at ed
  · rename_i hl
    cases ed
    refine ⟨by rw [d1.len]; exact lim_line2 hl, fun p hp => k1 _ _ _ (b1.alloc (.tup vs) hp) (.tup (.inl upd_same) (DvAll.mono (same_new (b1.hn hp)) cs d1))⟩
  · cases ed
theorem de_lst {es : List Expr} {fs : M Z.W.G (List D)} (h : DA X Z E Wx es fs) : DE X Z E Wx (.List es pos) (eLst fs) := by
  refine PE.imp (pe_lst h) fun σ H Q ⟨Hf, g, sl, r, q⟩ => ⟨Hf, g, sl, r, (go_bind (Rm := RlA X.K) q).mono fun vs H1 ⟨Hf1, g1, cs, b1, d1, q1⟩ => ?_⟩
  obtain ⟨d, ed, k1⟩ := go_lift q1
  split at ed
  · rename_i hl
    cases ed
    refine ⟨by rw [d1.len]; exact lim_line2 hl, fun p hp => k1 _ _ _ (b1.alloc (.lst vs) hp) (.lst upd_same (DvAll.mono (same_new (b1.hn hp)) cs d1))⟩
  · cases ed
end
end DL
namespace DL
open PySem L2

/-! ### operations on data -/
def addD : D → D → Option D
  | .int a, .int b => some (.int (a + b))
  | .str a, .str b => if a.length + b.length ≤ LIM then some (.str (a ++ b)) else none
  | .lst a, .lst b => if a.length + b.length ≤ LIM then some (.lst (a ++ b)) else none
  | .tup a, .tup b => if a.length + b.length ≤ LIM then some (.tup (a ++ b)) else none
  | _, _ => none
def subD : D → D → Option D
  | .int a, .int b => some (.int (a - b))
  | _, _ => none
def smallI (i : Int) : Bool := decide (-(2 ^ 64) < i) && decide (i < 2 ^ 64)
def mulD : D → D → Option D
  | .int a, .int b => if smallI a || smallI b then some (.int (a * b)) else none
  | .str a, .int k => if 0 ≤ k ∧ k ≤ 1000 ∧ a.length ≤ 100 then some (.str (List.replicate k.toNat a).flatten) else none
  | .lst a, .int k => if 0 ≤ k ∧ k ≤ 1000 ∧ a.length ≤ 100 then some (.lst (List.replicate k.toNat a).flatten) else none
  | .tup a, .int k => if a ≠ [] ∧ 2 ≤ k ∧ k ≤ 1000 ∧ a.length ≤ 100 then some (.tup (List.replicate k.toNat a).flatten) else none
  | _, _ => none
def fdivD : D → D → Option D
  | .int a, .int b => if 0 < b ∧ b < 1073741824 then some (.int (a / b)) else none
  | _, _ => none
def modD : D → D → Option D
  | .int a, .int b => if 0 < b then some (.int (a % b)) else none
  | _, _ => none
def powD : D → D → Option D
  | .int a, .int b => if 0 ≤ b ∧ b ≤ 1000000 ∧ a.natAbs < 2 ^ 64 then some (.int (a ^ b.toNat)) else none
  | _, _ => none
def negD : D → Option D
  | .int a => some (.int (-a))
  | _ => none
def ltD : D → D → Option D
  | .int a, .int b => some (.bl (decide (a < b)))
  | .str a, .str b => some (.bl (decide (a < b)))
  | _, _ => none
def leD : D → D → Option D
  | .int a, .int b => some (.bl (decide (a ≤ b)))
  | _, _ => none
def gtD : D → D → Option D
  | .int a, .int b => some (.bl (decide (b < a)))
  | _, _ => none
def geD : D → D → Option D
  | .int a, .int b => some (.bl (decide (b ≤ a)))
  | _, _ => none
mutual
/-- as data of the library -/
def toPy : D → PyData
  | .non => .none
  | .bl b => .bool b
  | .int i => .int i
  | .str s => .str (mkS s)
  | .ref _ => .none
  | .tup xs => .tuple (toPys xs)
  | .tupF _ => .none
  | .tupS _ => .none
  | .lst xs => .list (toPys xs)
def toPys : List D → List PyData
  | [] => []
  | d :: ds => toPy d :: toPys ds
end
mutual
/-- no objects within, not too deep -/
def flat : Nat → D → Bool
  | _, .non => true
  | _, .bl _ => true
  | _, .int _ => true
  | _, .str _ => true
  | _, .ref _ => false
  | _, .tupF _ => false
  | _, .tupS _ => false
  | 0, .tup _ => false
  | 0, .lst _ => false
  | n + 1, .tup xs => flats n xs
  | n + 1, .lst xs => flats n xs
def flats : Nat → List D → Bool
  | _, [] => true
  | n, d :: ds => flat n d && flats n ds
end
mutual
/-- == -/
def eqB : D → D → Bool
  | .non, .non => true
  | .bl a, .bl b => a == b
  | .bl a, .int j => (if a then 1 else 0) == j
  | .int i, .bl b => i == (if b then 1 else 0)
  | .int i, .int j => i == j
  | .str x, .str y => x == y
  | .lst xs, .lst ys => eqBs xs ys
  | .tup xs, .tup ys => eqBs xs ys
  | _, _ => false
def eqBs : List D → List D → Bool
  | [], [] => true
  | x :: xs, y :: ys => eqB x y && eqBs xs ys
  | _, _ => false
end
def eqD (a b : D) : Option D := if flat 8 a && flat 8 b then some (.bl (eqB a b)) else none
def neD (a b : D) : Option D := if flat 8 a && flat 8 b then some (.bl (!eqB a b)) else none
def isN (a b : D) : Option D := match b with
  | .non => match a with
    | .non => some (.bl true)
    | _ => some (.bl false)
  | _ => none
def notN (a b : D) : Option D := match b with
  | .non => match a with
    | .non => some (.bl false)
    | _ => some (.bl true)
  | _ => none
def flat0 : D → Bool
  | .non => true
  | .bl _ => true
  | .int _ => true
  | .str _ => true
  | _ => false
/-- a stands in b, from the left -/
def isPre : List Nat → List Nat → Bool
  | [], _ => true
  | _ :: _, [] => false
  | a :: as, b :: bs => a == b && isPre as bs
def isSub (a : List Nat) : List Nat → Bool
  | [] => a.isEmpty
  | b :: bs => isPre a (b :: bs) || isSub a bs
def inB (a b : D) : Option Bool := match b with
  | .tup xs => if flat0 a && xs.all flat0 then some (xs.any fun y => eqB y a) else none
  | .lst xs => if flat0 a && xs.all flat0 then some (xs.any fun y => eqB y a) else none
  | .str t => match a with
    | .str s => some (isSub s t)
    | _ => none
  | _ => none
def inD (a b : D) : Option D := (inB a b).map D.bl
def ninD (a b : D) : Option D := (inB a b).map fun c => D.bl (!c)

/-! ### what is read -/
section
variable {W : Wd} {K : PySem.W.Frag} {H Hf : Hp} {g : W.G} {v : V}
theorem Dr.int {i : Int} (h : Dr K g Hf H v (.int i)) : v = .int i := by
  rcases h with h | ⟨_, _, _, _, e, _⟩
  · cases h; rfl
  · cases e
theorem Dr.bl {i : Bool} (h : Dr K g Hf H v (.bl i)) : v = .bl i := by
  rcases h with h | ⟨_, _, _, _, e, _⟩
  · cases h; rfl
  · cases e
theorem Dr.non (h : Dr K g Hf H v .non) : v = .non := by
  rcases h with h | ⟨_, _, _, _, e, _⟩
  · cases h; rfl
  · cases e
theorem Dr.str {i : List Nat} (h : Dr K g Hf H v (.str i)) : v = .str (mkS i) ∧ okS i := by
  rcases h with h | ⟨_, _, _, _, e, _⟩
  · cases h with | str _ ok => exact ⟨rfl, ok⟩
  · cases e
theorem Dr.lst {ds : List D} (s : Same Hf H) (h : Dr K g Hf H v (.lst ds)) : ∃ a vs, v = .ref a ∧ H a = some (.lst vs) ∧ DvAll K Hf vs ds := by
  rcases h with h | ⟨a, vs, _, e1, e, h1, h2, _⟩
  · cases h with | lst h1 h2 => exact ⟨_, _, rfl, s _ _ h1, h2⟩
  · cases e
    exact ⟨a, vs, e1, h1, h2⟩
theorem Dr.tup {ds : List D} (h : Dr K g Hf H v (.tup ds)) : ∃ a vs, v = .ref a ∧ Rd Hf a (.tup vs) ∧ DvAll K Hf vs ds := by
  rcases h with h | ⟨a, vs, _, e1, e, h1, h2, _⟩
  · cases h with | tup h1 h2 => exact ⟨_, _, rfl, h1, h2⟩
  · cases e
theorem Dv.dr {d : D} (h : Dv K Hf v d) : Dr K g Hf H v d := .inl h
end
theorem mkS_app (a b : List Nat) : mkS a ++ mkS b = mkS (a ++ b) := by
  apply TL.ext_tl
  rw [TL.tl_append]
  simp [TL.tl, mkS]
theorem okS_app {a b : List Nat} (ha : okS a) (hb : okS b) (h : a.length + b.length ≤ LIM) : okS (a ++ b) :=
  ⟨by rw [List.length_append]; exact h, fun c hc => by rcases List.mem_append.mp hc with z | z; exact ha.2 c z; exact hb.2 c z⟩
theorem okS_sub {a b : List Nat} (ha : okS a) (hl : b.length ≤ a.length) (h : ∀ c ∈ b, c ∈ a) : okS b := ⟨Nat.le_trans hl ha.1, fun c hc => ha.2 c (h c hc)⟩
theorem okS_lim {a : List Nat} (h : okS a) : (mkS a).length ≤ sizeLine := by rw [mkS_len]; exact lim_line2 h.1

section
variable {X : Cx}
theorem od_add : OpD X (binaryOp .Add) addD := by
  refine ⟨_, OpR.or op_add (OpR.or op_add_str (OpR.or op_cat op_catA)), fun W H Hf g x y a b d Q B ha hb ed k => ?_⟩
  match a, b, ed, ha, hb with
  | .int i, .int j, ed, ha, hb =>
    cases ed
    obtain rfl := ha.int
    obtain rfl := hb.int
    exact .inl ⟨i, j, rfl, rfl, k _ _ _ B (.int _)⟩
  | .str i, .str j, ed, ha, hb =>
    obtain ⟨rfl, o1⟩ := ha.str
    obtain ⟨rfl, o2⟩ := hb.str
    simp only [addD] at ed
    split at ed
    · rename_i hl
      cases ed
      refine .inr (.inl ⟨_, _, rfl, rfl, by rw [mkS_len, mkS_len]; exact lim_line2 hl, ?_⟩)
      rw [mkS_app]
      exact k _ _ _ B (.str _ (okS_app o1 o2 hl))
    · cases ed
  | .lst i, .lst j, ed, ha, hb =>
    obtain ⟨a, vs, rfl, h1, d1⟩ := ha.lst B.fh
    obtain ⟨b, ws, rfl, h2, d2⟩ := hb.lst B.fh
    simp only [addD] at ed
    split at ed
    · rename_i hl
      cases ed
      refine .inr (.inr (.inl ⟨a, b, vs, ws, rfl, rfl, h1, h2, by rw [d1.len, d2.len]; exact lim_line2 hl, fun p hp => ?_⟩))
      exact k _ _ _ (B.alloc _ hp) (.lst upd_same (DvAll.mono (same_new (B.hn hp)) _ (d1.append d2)))
    · cases ed
  | .tup i, .tup j, ed, ha, hb =>
    obtain ⟨a, vs, rfl, h1, d1⟩ := ha.tup
    obtain ⟨b, ws, rfl, h2, d2⟩ := hb.tup
    simp only [addD] at ed
    split at ed
    · rename_i hl
      cases ed
      refine .inr (.inr (.inr ⟨a, b, vs, ws, rfl, rfl, (.inl (B.rd h1)), (.inl (B.rd h2)), by rw [d1.len, d2.len]; exact lim_line2 hl, fun e => ?_, fun _ e => ?_, fun _ _ p hp => ?_⟩))
      · subst e
        cases d1
        exact k _ _ _ B (.tup h2 d2)
      · subst e
        cases d2
        refine k _ _ _ B (.tup h1 ?_)
        rw [List.append_nil]; exact d1
      · exact k _ _ _ (B.alloc _ hp) (.tup (.inl upd_same) (DvAll.mono (same_new (B.hn hp)) _ (d1.append d2)))
    · cases ed
theorem od_sub : OpD X (binaryOp .Sub) subD := by
  refine ⟨_, op_sub, fun W H Hf g x y a b d Q B ha hb ed k => ?_⟩
  match a, b, ed, ha, hb with
  | .int i, .int j, ed, ha, hb =>
    cases ed
    obtain rfl := ha.int
    obtain rfl := hb.int
    exact ⟨i, j, rfl, rfl, k _ _ _ B (.int _)⟩
theorem od_fdiv : OpD X (binaryOp .FloorDiv) fdivD := by
  refine ⟨_, op_fdiv, fun W H Hf g x y a b d Q B ha hb ed k => ?_⟩
  match a, b, ed, ha, hb with
  | .int i, .int j, ed, ha, hb =>
    obtain rfl := ha.int
    obtain rfl := hb.int
    simp only [fdivD] at ed
    split at ed
    · rename_i hc
      cases ed
      exact ⟨i, j, rfl, rfl, hc, k _ _ _ B (.int _)⟩
    · cases ed
theorem od_mod : OpD X (binaryOp .Mod) modD := by
  refine ⟨_, op_mod, fun W H Hf g x y a b d Q B ha hb ed k => ?_⟩
  match a, b, ed, ha, hb with
  | .int i, .int j, ed, ha, hb =>
    obtain rfl := ha.int
    obtain rfl := hb.int
    simp only [modD] at ed
    split at ed
    · rename_i hc
      cases ed
      exact ⟨i, j, rfl, rfl, hc, k _ _ _ B (.int _)⟩
    · cases ed
theorem od_pow : OpD X (binaryOp .Pow) powD := by
  refine ⟨_, op_pow, fun W H Hf g x y a b d Q B ha hb ed k => ?_⟩
  match a, b, ed, ha, hb with
  | .int i, .int j, ed, ha, hb =>
    obtain rfl := ha.int
    obtain rfl := hb.int
    simp only [powD] at ed
    split at ed
    · rename_i hc
      cases ed
      exact ⟨i, j, rfl, rfl, hc, k _ _ _ B (.int _)⟩
    · cases ed
theorem od_lt : OpD X (compareOp .Lt) ltD := by
  refine ⟨_, OpR.or op_lt op_lt_str, fun W H Hf g x y a b d Q B ha hb ed k => ?_⟩
  match a, b, ed, ha, hb with
  | .int i, .int j, ed, ha, hb =>
    cases ed
    obtain rfl := ha.int
    obtain rfl := hb.int
    exact .inl ⟨i, j, rfl, rfl, k _ _ _ B (.bl _)⟩
  | .str i, .str j, ed, ha, hb =>
    cases ed
    obtain ⟨rfl, o1⟩ := ha.str
    obtain ⟨rfl, o2⟩ := hb.str
    refine .inr ⟨_, _, rfl, rfl, ?_⟩
    rw [mkS_cps, mkS_cps]
    exact k _ _ _ B (.bl _)
theorem od_le : OpD X (compareOp .LtE) leD := by
  refine ⟨_, op_le, fun W H Hf g x y a b d Q B ha hb ed k => ?_⟩
  match a, b, ed, ha, hb with
  | .int i, .int j, ed, ha, hb =>
    cases ed
    obtain rfl := ha.int
    obtain rfl := hb.int
    exact ⟨i, j, rfl, rfl, k _ _ _ B (.bl _)⟩
theorem od_gt : OpD X (compareOp .Gt) gtD := by
  refine ⟨_, op_gt, fun W H Hf g x y a b d Q B ha hb ed k => ?_⟩
  match a, b, ed, ha, hb with
  | .int i, .int j, ed, ha, hb =>
    cases ed
    obtain rfl := ha.int
    obtain rfl := hb.int
    exact ⟨i, j, rfl, rfl, k _ _ _ B (.bl _)⟩
theorem od_ge : OpD X (compareOp .GtE) geD := by
  refine ⟨_, op_ge, fun W H Hf g x y a b d Q B ha hb ed k => ?_⟩
  match a, b, ed, ha, hb with
  | .int i, .int j, ed, ha, hb =>
    cases ed
    obtain rfl := ha.int
    obtain rfl := hb.int
    exact ⟨i, j, rfl, rfl, k _ _ _ B (.bl _)⟩
theorem od_isN : OpD X (compareOp .Is) isN := by
  refine ⟨_, op_isN, fun W H Hf g x y a b d Q B ha hb ed k => ?_⟩
  match b, ed, hb with
  | .non, ed, hb =>
    obtain rfl := hb.non
    refine ⟨rfl, ?_⟩
    have ha' := ha.h B.fh
    match a, ed, ha' with
    | .non, ed, h => cases ed; cases h; exact k _ _ _ B (.bl _)
    | .bl _, ed, h => cases ed; cases h; exact k _ _ _ B (.bl _)
    | .int _, ed, h => cases ed; cases h; exact k _ _ _ B (.bl _)
    | .str _, ed, h => cases ed; cases h; exact k _ _ _ B (.bl _)
    | .ref _, ed, h => cases ed; cases h; exact k _ _ _ B (.bl _)
    | .tup _, ed, h => cases ed; cases h; exact k _ _ _ B (.bl _)
    | .tupF _, ed, h => cases ed; cases h; exact k _ _ _ B (.bl _)
    | .tupS _, ed, h => cases ed; cases h; exact k _ _ _ B (.bl _)
    | .lst _, ed, h => cases ed; cases h; exact k _ _ _ B (.bl _)
theorem od_notN : OpD X (compareOp .IsNot) notN := by
  refine ⟨_, op_notN, fun W H Hf g x y a b d Q B ha hb ed k => ?_⟩
  match b, ed, hb with
  | .non, ed, hb =>
    obtain rfl := hb.non
    refine ⟨rfl, ?_⟩
    have ha' := ha.h B.fh
    match a, ed, ha' with
    | .non, ed, h => cases ed; cases h; exact k _ _ _ B (.bl _)
    | .bl _, ed, h => cases ed; cases h; exact k _ _ _ B (.bl _)
    | .int _, ed, h => cases ed; cases h; exact k _ _ _ B (.bl _)
    | .str _, ed, h => cases ed; cases h; exact k _ _ _ B (.bl _)
    | .ref _, ed, h => cases ed; cases h; exact k _ _ _ B (.bl _)
    | .tup _, ed, h => cases ed; cases h; exact k _ _ _ B (.bl _)
    | .tupF _, ed, h => cases ed; cases h; exact k _ _ _ B (.bl _)
    | .tupS _, ed, h => cases ed; cases h; exact k _ _ _ B (.bl _)
    | .lst _, ed, h => cases ed; cases h; exact k _ _ _ B (.bl _)

/-! == by the library's data -/
mutual
theorem dp_of {K : PySem.W.Frag} {H : Hp} : ∀ (n : Nat) (d : D) {v : V}, flat n d = true → Dv K H v d → Dp K H v (toPy d) ∧ (toPy d).canLay0 = true ∧ (toPy d).depth ≤ n
  | n, .non, _, f, h => by cases h; exact ⟨.non, rfl, Nat.zero_le _⟩
  | n, .bl b, _, f, h => by cases h; exact ⟨.bl b, rfl, Nat.zero_le _⟩
  | n, .int b, _, f, h => by cases h; exact ⟨.int b, rfl, Nat.zero_le _⟩
  | n, .str b, _, f, h => by
    cases h with
    | str _ ok =>
      refine ⟨.str _, ?_, Nat.zero_le _⟩
      show PyData.strOk (mkS b) = true
      unfold PyData.strOk mkS
      simp only [List.all_toArray, List.all_eq_true, decide_eq_true_eq]
      exact ok.2
  | n, .ref b, _, f, h => by cases n <;> simp [flat] at f
  | n, .tupF b, _, f, h => by cases n <;> simp [flat] at f
  | n, .tupS b, _, f, h => by cases n <;> simp [flat] at f
  | 0, .tup xs, _, f, h => by simp [flat] at f
  | 0, .lst xs, _, f, h => by simp [flat] at f
  | n + 1, .tup xs, _, f, h => by
    cases h with
    | tup h1 h2 =>
      obtain ⟨a, b, c⟩ := dps_of n xs (by simpa [flat] using f) h2
      exact ⟨.tup (.inl h1) a, b, Nat.succ_le_succ c⟩
  | n + 1, .lst xs, _, f, h => by
    cases h with
    | lst h1 h2 =>
      obtain ⟨a, b, c⟩ := dps_of n xs (by simpa [flat] using f) h2
      exact ⟨.lst (SqL.of h1) a, b, Nat.succ_le_succ c⟩
theorem dps_of {K : PySem.W.Frag} {H : Hp} : ∀ (n : Nat) (ds : List D) {vs : List V}, flats n ds = true → DvAll K H vs ds → DpAll K H vs (toPys ds) ∧ PyData.canLayAll0 (toPys ds) = true ∧ PyData.depthAll (toPys ds) ≤ n
  | n, [], _, f, h => by cases h; exact ⟨.nil, rfl, Nat.zero_le _⟩
  | n, d :: ds, _, f, h => by
    cases h with
    | cons h1 h2 =>
      have f' : flat n d = true ∧ flats n ds = true := by simpa [flats] using f
      obtain ⟨a, b, c⟩ := dp_of n d f'.1 h1
      obtain ⟨a', b', c'⟩ := dps_of n ds f'.2 h2
      refine ⟨.cons a a', ?_, ?_⟩
      · show ((toPy d).canLay0 && PyData.canLayAll0 (toPys ds)) = true
        rw [b, b']; rfl
      · show max (toPy d).depth (PyData.depthAll (toPys ds)) ≤ n
        exact Nat.max_le.mpr ⟨c, c'⟩
end
theorem mkS_beq (a b : List Nat) : (mkS a == mkS b) = (a == b) := by
  by_cases h : a = b
  · subst h; simp
  · have : ¬ mkS a = mkS b := fun z => h (mkS_inj z)
    rw [beq_eq_false_iff_ne.mpr h]
    exact beq_eq_false_iff_ne.mpr this
mutual
theorem eqv_of : ∀ (n m : Nat) (a b : D), flat n a = true → flat m b = true → PyData.eqv (toPy a) (toPy b) = eqB a b
  | n, m, a, .ref _, _, f => by cases m <;> simp [flat] at f
  | n, m, .ref _, b, f, _ => by cases n <;> simp [flat] at f
  | n, m, a, .tupF _, _, f => by cases m <;> simp [flat] at f
  | n, m, a, .tupS _, _, f => by cases m <;> simp [flat] at f
  | n, m, .tupF _, b, f, _ => by cases n <;> simp [flat] at f
  | n, m, .tupS _, b, f, _ => by cases n <;> simp [flat] at f
  | n, m, .non, .non, _, _ => rfl
  | n, m, .non, .bl _, _, _ => rfl
  | n, m, .non, .int _, _, _ => rfl
  | n, m, .non, .str _, _, _ => rfl
  | n, m, .non, .tup _, _, _ => rfl
  | n, m, .non, .lst _, _, _ => rfl
  | n, m, .bl _, .non, _, _ => rfl
  | n, m, .bl _, .bl _, _, _ => rfl
  | n, m, .bl _, .int _, _, _ => rfl
  | n, m, .bl _, .str _, _, _ => rfl
  | n, m, .bl _, .tup _, _, _ => rfl
  | n, m, .bl _, .lst _, _, _ => rfl
  | n, m, .int _, .non, _, _ => rfl
  | n, m, .int _, .bl _, _, _ => rfl
  | n, m, .int _, .int _, _, _ => rfl
  | n, m, .int _, .str _, _, _ => rfl
  | n, m, .int _, .tup _, _, _ => rfl
  | n, m, .int _, .lst _, _, _ => rfl
  | n, m, .str _, .non, _, _ => rfl
  | n, m, .str _, .bl _, _, _ => rfl
  | n, m, .str _, .int _, _, _ => rfl
  | n, m, .str a, .str b, _, _ => mkS_beq a b
  | n, m, .str _, .tup _, _, _ => rfl
  | n, m, .str _, .lst _, _, _ => rfl
  | n, m, .tup _, .non, _, _ => rfl
  | n, m, .tup _, .bl _, _, _ => rfl
  | n, m, .tup _, .int _, _, _ => rfl
  | n, m, .tup _, .str _, _, _ => rfl
  | n, m, .tup _, .lst _, _, _ => rfl
  | n, m, .lst _, .non, _, _ => rfl
  | n, m, .lst _, .bl _, _, _ => rfl
  | n, m, .lst _, .int _, _, _ => rfl
  | n, m, .lst _, .str _, _, _ => rfl
  | n, m, .lst _, .tup _, _, _ => rfl
  | 0, _, .tup _, .tup _, f, _ => by simp [flat] at f
  | _ + 1, 0, .tup _, .tup _, _, f => by simp [flat] at f
  | n + 1, m + 1, .tup xs, .tup ys, f, f' => eqvs_of n m xs ys (by simpa [flat] using f) (by simpa [flat] using f')
  | 0, _, .lst _, .lst _, f, _ => by simp [flat] at f
  | _ + 1, 0, .lst _, .lst _, _, f => by simp [flat] at f
  | n + 1, m + 1, .lst xs, .lst ys, f, f' => eqvs_of n m xs ys (by simpa [flat] using f) (by simpa [flat] using f')
theorem eqvs_of : ∀ (n m : Nat) (a b : List D), flats n a = true → flats m b = true → PyData.eqvAll (toPys a) (toPys b) = eqBs a b
  | _, _, [], [], _, _ => rfl
  | _, _, [], _ :: _, _, _ => rfl
  | _, _, _ :: _, [], _, _ => rfl
  | n, m, x :: xs, y :: ys, f, f' => by
    have g : flat n x = true ∧ flats n xs = true := by simpa [flats] using f
    have g' : flat m y = true ∧ flats m ys = true := by simpa [flats] using f'
    show (PyData.eqv (toPy x) (toPy y) && PyData.eqvAll (toPys xs) (toPys ys)) = (eqB x y && eqBs xs ys)
    rw [eqv_of n m x y g.1 g'.1, eqvs_of n m xs ys g.2 g'.2]
end
theorem shaped_of {K : PySem.W.Frag} {H : Hp} {d : D} {v : V} (f : flat 8 d = true) (h : Dv K H v d) : SeqAt.shaped (toPy d) = true := by
  obtain ⟨_, b, c⟩ := dp_of 8 d f h
  unfold SeqAt.shaped
  rw [b]
  simp only [Bool.true_and, decide_eq_true_eq]
  omega
theorem od_eq (hu : X.A.units + 64 < cLine) : OpD X (compareOp .Eq) eqD := by
  refine ⟨_, op_eqD hu, fun W H Hf g x y a b d Q B ha hb ed k => ?_⟩
  unfold eqD at ed
  split at ed
  · rename_i hc
    cases ed
    have hc' : flat 8 a = true ∧ flat 8 b = true := by simpa using hc
    have h1 := ha.h B.fh
    have h2 := hb.h B.fh
    refine ⟨toPy a, toPy b, (dp_of 8 a hc'.1 h1).1, (dp_of 8 b hc'.2 h2).1, shaped_of hc'.1 h1, shaped_of hc'.2 h2, ?_⟩
    rw [eqv_of 8 8 a b hc'.1 hc'.2]
    exact k _ _ _ B (.bl _)
  · cases ed
theorem od_ne (hu : X.A.units + 64 < cLine) : OpD X (compareOp .NotEq) neD := by
  refine ⟨_, op_neD hu, fun W H Hf g x y a b d Q B ha hb ed k => ?_⟩
  unfold neD at ed
  split at ed
  · rename_i hc
    cases ed
    have hc' : flat 8 a = true ∧ flat 8 b = true := by simpa using hc
    have h1 := ha.h B.fh
    have h2 := hb.h B.fh
    refine ⟨toPy a, toPy b, (dp_of 8 a hc'.1 h1).1, (dp_of 8 b hc'.2 h2).1, shaped_of hc'.1 h1, shaped_of hc'.2 h2, ?_⟩
    rw [eqv_of 8 8 a b hc'.1 hc'.2]
    exact k _ _ _ B (.bl _)
  · cases ed
end
end DL
namespace DL
open PySem L2

/-! ### in -/
theorem isPre_iff : ∀ (a b : List Nat), isPre a b = true ↔ b.take a.length = a
  | [], b => by simp [isPre]
  | x :: a, [] => by simp [isPre]
  | x :: a, y :: b => by
    simp only [isPre, Bool.and_eq_true, beq_iff_eq, List.length_cons, List.take_succ_cons, List.cons.injEq]
    rw [isPre_iff a b]
    constructor
    · rintro ⟨rfl, h⟩; exact ⟨rfl, h⟩
    · rintro ⟨rfl, h⟩; exact ⟨rfl, h⟩
theorem isSub_iff (a : List Nat) : ∀ t : List Nat, isSub a t = true ↔ ∃ i, i + a.length ≤ t.length ∧ (t.drop i).take a.length = a
  | [] => by
    constructor
    · intro h
      have : a = [] := by simpa [isSub] using h
      subst this
      exact ⟨0, by simp, by simp⟩
    · rintro ⟨i, h1, h2⟩
      have : a = [] := by
        have h3 : a.length = 0 := by
          have : i + a.length ≤ 0 := h1
          omega
        exact List.length_eq_zero_iff.mp h3
      subst this
      rfl
  | b :: bs => by
    have ih := isSub_iff a bs
    show (isPre a (b :: bs) || isSub a bs) = true ↔ _
    rw [Bool.or_eq_true, isPre_iff, ih]
    constructor
    · rintro (h | ⟨i, h1, h2⟩)
      · refine ⟨0, ?_, by simpa using h⟩
        have := congrArg List.length h
        rw [List.length_take] at this
        omega
      · exact ⟨i + 1, by simp; omega, by simpa using h2⟩
    · rintro ⟨i, h1, h2⟩
      cases i with
      | zero => exact .inl (by simpa using h2)
      | succ i => exact .inr ⟨i, by simp at h1; omega, by simpa using h2⟩
theorem occ_isSub (s t : List Nat) : (!(Builtin.Str.occurrences (mkS t) (mkS s) 0 (mkS t).length 1).isEmpty) = isSub s t := by
  rw [Bool.eq_iff_iff, StrLaws.found_iff, isSub_iff]
  have key : ∀ i, Builtin.Str.subAt (mkS t) (mkS s) i = true ↔ (t.drop i).take s.length = s := by
    intro i
    unfold Builtin.Str.subAt mkS
    rw [beq_iff_eq]
    simp only [Str.length, List.size_toArray, List.extract_toArray]
    constructor
    · intro h
      have := congrArg Array.toList h
      simp [List.extract] at this
      exact this
    · intro h
      congr 1
      simp only [List.extract]
      rw [show i + s.length - i = s.length by omega]
      exact h
  constructor
  · rintro ⟨i, h1, h2⟩
    rw [mkS_len, mkS_len] at h1
    exact ⟨i, h1, (key i).mp h2⟩
  · rintro ⟨i, h1, h2⟩
    exact ⟨i, by rw [mkS_len, mkS_len]; exact h1, (key i).mpr h2⟩
theorem flat0_V {K : PySem.W.Frag} {H : Hp} : ∀ {d : D} {v : V}, flat0 d = true → Dv K H v d → flatV v = true
  | .non, _, _, h => by cases h; rfl
  | .bl _, _, _, h => by cases h; rfl
  | .int _, _, _, h => by cases h; rfl
  | .str _, _, _, h => by cases h; rfl
theorem flat0_Vs {K : PySem.W.Frag} {H : Hp} : ∀ {ds : List D} {vs : List V}, ds.all flat0 = true → DvAll K H vs ds → vs.all flatV = true
  | [], _, _, h => by cases h; rfl
  | d :: ds, _, f, h => by
    cases h with
    | cons h1 h2 =>
      simp only [List.all_cons, Bool.and_eq_true] at f ⊢
      exact ⟨flat0_V f.1 h1, flat0_Vs f.2 h2⟩
theorem eqV_of {K : PySem.W.Frag} {H : Hp} : ∀ {a b : D} {x y : V}, flat0 a = true → flat0 b = true → Dv K H x a → Dv K H y b → eqV x y = eqB a b
  | .non, .non, _, _, _, _, h, h' => by cases h; cases h'; rfl
  | .non, .bl _, _, _, _, _, h, h' => by cases h; cases h'; rfl
  | .non, .int _, _, _, _, _, h, h' => by cases h; cases h'; rfl
  | .non, .str _, _, _, _, _, h, h' => by cases h; cases h'; rfl
  | .bl _, .non, _, _, _, _, h, h' => by cases h; cases h'; rfl
  | .bl _, .bl _, _, _, _, _, h, h' => by cases h; cases h'; rfl
  | .bl _, .int _, _, _, _, _, h, h' => by cases h; cases h'; rfl
  | .bl _, .str _, _, _, _, _, h, h' => by cases h; cases h'; rfl
  | .int _, .non, _, _, _, _, h, h' => by cases h; cases h'; rfl
  | .int _, .bl _, _, _, _, _, h, h' => by cases h; cases h'; rfl
  | .int _, .int _, _, _, _, _, h, h' => by cases h; cases h'; rfl
  | .int _, .str _, _, _, _, _, h, h' => by cases h; cases h'; rfl
  | .str _, .non, _, _, _, _, h, h' => by cases h; cases h'; rfl
  | .str _, .bl _, _, _, _, _, h, h' => by cases h; cases h'; rfl
  | .str _, .int _, _, _, _, _, h, h' => by cases h; cases h'; rfl
  | .str a, .str b, _, _, _, _, h, h' => by cases h; cases h'; exact mkS_beq a b
theorem inV_of {K : PySem.W.Frag} {H : Hp} {a : D} {x : V} (fa : flat0 a = true) (ha : Dv K H x a) : ∀ {ds : List D} {vs : List V}, ds.all flat0 = true → DvAll K H vs ds → inV x vs = ds.any fun y => eqB y a
  | [], _, _, h => by cases h; rfl
  | d :: ds, _, f, h => by
    cases h with
    | cons h1 h2 =>
      simp only [List.all_cons, Bool.and_eq_true] at f
      have ih := inV_of fa ha f.2 h2
      unfold inV at ih ⊢
      rw [List.any_cons, List.any_cons, ih, eqV_of f.1 fa h1 ha]
section
variable {X : Cx}
theorem in_run {W : Wd} {H Hf : Hp} {g : W.G} {x y : V} {a b : D} {c : Bool} {Q : VK} (neg : Bool) (B : Base W H Hf g H Hf g) (ha : Dr X.K g Hf H x a) (hb : Dr X.K g Hf H y b) (ed : inB a b = some c) (k : Q (.bl (if neg then !c else c)) H) :
    (∃ i j, x = .str i ∧ y = .str j ∧ Q (.bl (if neg then !(!(Builtin.Str.occurrences j i 0 j.length 1).isEmpty) else !(Builtin.Str.occurrences j i 0 j.length 1).isEmpty)) H) ∨ rIn X.K neg x y H Q := by
  unfold inB at ed
  match b, ed, hb with
  | .tup xs, ed, hb =>
    simp only at ed
    split at ed
    · rename_i hc
      cases ed
      have hc' : flat0 a = true ∧ xs.all flat0 = true := by simpa using hc
      obtain ⟨p, vs, rfl, h1, h2⟩ := hb.tup
      have h2' := DvAll.mono B.fh _ h2
      refine .inr ⟨p, vs, rfl, .inr ((.inl (B.rd h1))), flat0_V hc'.1 (ha.h B.fh), flat0_Vs hc'.2 h2', ?_⟩
      rw [inV_of hc'.1 (ha.h B.fh) hc'.2 h2']
      exact k
    · cases ed
  | .lst xs, ed, hb =>
    simp only at ed
    split at ed
    · rename_i hc
      cases ed
      have hc' : flat0 a = true ∧ xs.all flat0 = true := by simpa using hc
      obtain ⟨p, vs, rfl, h1, h2⟩ := hb.lst B.fh
      have h2' := DvAll.mono B.fh _ h2
      refine .inr ⟨p, vs, rfl, .inl (SqL.of h1), flat0_V hc'.1 (ha.h B.fh), flat0_Vs hc'.2 h2', ?_⟩
      rw [inV_of hc'.1 (ha.h B.fh) hc'.2 h2']
      exact k
    · cases ed
  | .str t, ed, hb =>
    match a, ed, ha with
    | .str s, ed, ha =>
      cases ed
      obtain ⟨rfl, _⟩ := ha.str
      obtain ⟨rfl, _⟩ := hb.str
      refine .inl ⟨_, _, rfl, rfl, ?_⟩
      rw [occ_isSub]
      exact k
theorem od_in : OpD X (compareOp .In) inD := by
  refine ⟨_, OpR.or op_in_str op_in_seq, fun W H Hf g x y a b d Q B ha hb ed k => ?_⟩
  unfold inD at ed
  obtain ⟨c, e1, rfl⟩ := Option.map_eq_some_iff.mp ed
  exact in_run false B ha hb e1 (k _ _ _ B (.bl _))
theorem od_nin : OpD X (compareOp .NotIn) ninD := by
  refine ⟨_, OpR.or op_notin_str op_notIn_seq, fun W H Hf g x y a b d Q B ha hb ed k => ?_⟩
  unfold ninD at ed
  obtain ⟨c, e1, rfl⟩ := Option.map_eq_some_iff.mp ed
  exact in_run true B ha hb e1 (k _ _ _ B (.bl _))

/-! ### times -/
theorem rep_flat (n : Nat) (a : List Nat) : (List.replicate n a.toArray).foldl (· ++ ·) #[] = ((List.replicate n a).flatten).toArray := by
  have key : ∀ (n : Nat) (acc : List Nat), (List.replicate n a.toArray).foldl (· ++ ·) acc.toArray = (acc ++ (List.replicate n a).flatten).toArray := by
    intro n
    induction n with
    | zero => intro acc; simp
    | succ n ih =>
      intro acc
      rw [List.replicate_succ, List.foldl_cons, List.append_toArray, ih, List.replicate_succ, List.flatten_cons, List.append_assoc]
  have := key n []
  simpa using this
theorem rep_len {α : Type} (n : Nat) (a : List α) : ((List.replicate n a).flatten).length = n * a.length := by
  induction n with
  | zero => simp
  | succ n ih => rw [List.replicate_succ, List.flatten_cons, List.length_append, ih, Nat.succ_mul, Nat.add_comm]
theorem op_rep_str : OpR X (binaryOp .Mult) (fun x y H Q => ∃ (s : List Nat) (k : Int), x = .str (mkS s) ∧ y = .int k ∧ 0 ≤ k ∧ k ≤ 1000 ∧ s.length ≤ 100 ∧ Q (.str (mkS (List.replicate k.toNat s).flatten)) H) := by
  intro pins s σ H x y v u Q I rx ry h
  obtain ⟨i, k, rfl, rfl, h0, h1, h2, q⟩ := h
  obtain ⟨t, rfl⟩ := rx
  obtain ⟨t', rfl⟩ := ry
  have hl : i.length * k.toNat ≤ 100000 := by
    have e1 : k.toNat ≤ 1000 := by omega
    calc i.length * k.toNat ≤ 100 * 1000 := Nat.mul_le_mul h2 e1
      _ = 100000 := rfl
  refine P.mul_str ?_ (fun hk hz => ?_) (fun hk hz => ?_) ?_
  · have a1 : ¬ k < -(2 ^ 63 : Int) := by omega
    have a2 : ¬ k ≥ (2 ^ 63 : Int) := by omega
    rw [decide_eq_false a1, decide_eq_false a2]; rfl
  · intro hgt
    rw [mkS_len] at hgt
    have e1 : (2 ^ 63 - 1 : Int) / k ≥ (2 ^ 63 - 1) / 1000 := by
      apply Int.le_ediv_of_mul_le (by omega)
      have : (2 ^ 63 - 1 : Int) / 1000 * k ≤ (2 ^ 63 - 1) / 1000 * 1000 := Int.mul_le_mul_of_nonneg_left h1 (by decide)
      omega
    omega
  · rw [mkS_len]
    unfold PySem.Builtin.Str.tooLong
    simp only [decide_eq_false_iff_not]
    have : (100000 : Nat) ≤ sizeLine := by decide
    omega
  · split
    · rename_i hk
      refine ⟨by decide, .str Str.empty, H, I.tok _, ⟨_, rfl⟩, ?_⟩
      have : k.toNat = 0 := by omega
      rw [this] at q
      exact q
    · split
      · rename_i hk hz
        refine ⟨.str (mkS i), H, I, ⟨_, rfl⟩, ?_⟩
        have : (List.replicate k.toNat i).flatten = i := by
          rcases Bool.or_eq_true_iff.mp hz with z | z
          · have : k = 1 := eq_of_beq z
            subst this
            simp
          · rw [mkS_len] at z
            have : i = [] := List.length_eq_zero_iff.mp (eq_of_beq z)
            subst this
            simp
        rw [this] at q
        exact q
      · have e : (⟨(List.replicate k.toNat (mkS i).cps).foldl (· ++ ·) #[]⟩ : Str) = mkS (List.replicate k.toNat i).flatten := by
          unfold mkS
          rw [rep_flat]
        rw [e]
        refine ⟨?_, .str _, H, I.tok _, ⟨_, rfl⟩, q⟩
        rw [mkS_len, rep_len, Nat.mul_comm]
        exact Nat.le_trans hl (by decide)
theorem od_mul : OpD X (binaryOp .Mult) mulD := by
  refine ⟨_, OpR.or op_mul (OpR.or op_rep_str (OpR.or op_rep op_repT)), fun W H Hf g x y a b d Q B ha hb ed k => ?_⟩
  match a, b, ed, ha, hb with
  | .int i, .int j, ed, ha, hb =>
    obtain rfl := ha.int
    obtain rfl := hb.int
    simp only [mulD] at ed
    split at ed
    · rename_i hc
      cases ed
      refine .inl ⟨i, j, rfl, rfl, ?_, k _ _ _ B (.int _)⟩
      unfold CMul
      simp only [smallI, Bool.or_eq_true, Bool.and_eq_true, decide_eq_true_eq] at hc
      exact hc
    · cases ed
  | .str i, .int j, ed, ha, hb =>
    obtain ⟨rfl, o1⟩ := ha.str
    obtain rfl := hb.int
    simp only [mulD] at ed
    split at ed
    · rename_i hc
      cases ed
      refine .inr (.inl ⟨i, j, rfl, rfl, hc.1, hc.2.1, hc.2.2, k _ _ _ B (.str _ ⟨?_, ?_⟩)⟩)
      · rw [rep_len]
        have e1 : j.toNat ≤ 1000 := by omega
        calc j.toNat * i.length ≤ 1000 * 100 := Nat.mul_le_mul e1 hc.2.2
          _ = 100000 := rfl
      · intro c hc'
        obtain ⟨l, h1, h2⟩ := List.mem_flatten.mp hc'
        obtain ⟨_, rfl⟩ := List.mem_replicate.mp h1
        exact o1.2 c h2
    · cases ed
  | .lst i, .int j, ed, ha, hb =>
    obtain ⟨p, vs, rfl, h1, h2⟩ := ha.lst B.fh
    obtain rfl := hb.int
    simp only [mulD] at ed
    split at ed
    · rename_i hc
      cases ed
      refine .inr (.inr (.inl ⟨p, j, vs, rfl, rfl, h1, by omega, by omega, ?_, fun q hq => ?_⟩))
      · rw [h2.len]
        have e1 : j.toNat ≤ 1000 := by omega
        calc i.length * j.toNat ≤ 100 * 1000 := Nat.mul_le_mul hc.2.2 e1
          _ ≤ sizeLine := by decide
      · exact k _ _ _ (B.alloc _ hq) (.lst upd_same (DvAll.mono (same_new (B.hn hq)) _ (h2.rep _)))
    · cases ed
  | .tup i, .int j, ed, ha, hb =>
    obtain ⟨p, vs, rfl, h1, h2⟩ := ha.tup
    obtain rfl := hb.int
    simp only [mulD] at ed
    split at ed
    · rename_i hc
      cases ed
      refine .inr (.inr (.inr ⟨p, j, vs, rfl, rfl, (.inl (B.rd h1)), ?_, hc.2.1, hc.2.2.1, by rw [h2.len]; omega, fun q hq => ?_⟩))
      · intro e
        subst e
        cases h2
        exact hc.1 rfl
      · exact k _ _ _ (B.alloc _ hq) (.tup (.inl upd_same) (DvAll.mono (same_new (B.hn hq)) _ (h2.rep _)))
    · cases ed
end
end DL
namespace DL
open PySem L2

/-! ### places and slices -/
def ixD : D → D → Option D
  | .lst xs, .int i => atI xs i
  | .tup xs, .int i => atI xs i
  | .str s, .int i => (atI s i).map fun c => .str [c]
  | _, _ => none
def cut {α : Type} (xs : List α) (lo hi : Option Int) : List α := (xs.drop (HT.sIx xs.length 0 lo)).take (HT.sIx xs.length xs.length hi - HT.sIx xs.length 0 lo)
def slD (d : D) (lo hi : Option Int) : Option D := match d with
  | .str s => some (.str (cut s lo hi))
  | .lst s => some (.lst (cut s lo hi))
  | .tup s => some (.tup (cut s lo hi))
  | _ => none
theorem atI_iff {α : Type} {xs : List α} {i : Int} {x : α} : atI xs i = some x ↔ ∃ j, ixN xs.length i = some j ∧ xs[j]? = some x := by
  unfold atI
  rw [Option.bind_eq_some_iff]
theorem DvAll.atI {K : PySem.W.Frag} {H : Hp} {vs : List V} {ds : List D} {i : Int} {d : D} (h : DvAll K H vs ds) (e : atI ds i = some d) : ∃ v, L2.atI vs i = some v ∧ Dv K H v d := by
  obtain ⟨j, e1, e2⟩ := atI_iff.mp e
  obtain ⟨v, e3, e4⟩ := h.get' e2
  exact ⟨v, atI_iff.mpr ⟨j, by rw [h.len]; exact e1, e3⟩, e4⟩
theorem cut_len {α : Type} (xs : List α) (lo hi : Option Int) : (cut xs lo hi).length ≤ xs.length := by
  unfold cut
  rw [List.length_take, List.length_drop]
  omega
theorem cut_mem {α : Type} {xs : List α} {lo hi : Option Int} {x : α} (h : x ∈ cut xs lo hi) : x ∈ xs := List.mem_of_mem_drop (List.mem_of_mem_take h)
theorem DvAll.cut {K : PySem.W.Frag} {H : Hp} {vs : List V} {ds : List D} (h : DvAll K H vs ds) (lo hi : Option Int) : DvAll K H (cutV vs lo hi) (DL.cut ds lo hi) := by
  unfold cutV DL.cut
  rw [h.len]
  exact (h.drop _).take _

section
variable {X : Cx} {Z : Cn} {E : Ent Z.W} {Wx : WX} {e a b c : Expr} {pos : Pos} {fe fa fb fc : M Z.W.G D} {ft fu : M Z.W.G Bool}
theorem de_ix (ha : DR X Z E Wx a fa) (hb : DR X Z E Wx b fb) (hs : PlainIx b := by intro _ _; rfl) : DE X Z E Wx (.Subscript a b pos) (e2 ixD fa fb) := by
  refine PE.imp (pe_ix ix_seq ha hb hs) fun σ H Q h => op_run (fun W H Hf g x y a b d Q B ha hb ed k => ?_) h
  match a, b, ed, ha, hb with
  | .lst xs, .int i, ed, ha, hb =>
    obtain ⟨p, vs, rfl, h1, h2⟩ := ha.lst B.fh
    obtain rfl := hb.int
    obtain ⟨v, e1, e2⟩ := h2.atI ed
    exact .inl ⟨p, vs, i, v, rfl, rfl, SqL.of h1, e1, k _ _ _ B e2⟩
  | .tup xs, .int i, ed, ha, hb =>
    obtain ⟨p, vs, rfl, h1, h2⟩ := ha.tup
    obtain rfl := hb.int
    obtain ⟨v, e1, e2⟩ := h2.atI ed
    exact .inr (.inl ⟨p, vs, i, v, rfl, rfl, (.inl (B.rd h1)), e1, k _ _ _ B e2⟩)
  | .str s, .int i, ed, ha, hb =>
    obtain ⟨rfl, ok⟩ := ha.str
    obtain rfl := hb.int
    obtain ⟨c, e1, rfl⟩ := Option.map_eq_some_iff.mp ed
    refine .inr (.inr ⟨mkS s, i, c, rfl, rfl, okS_lim ok, by rw [mkS_cps]; exact e1, k _ _ _ B (.str [c] ?_)⟩)
    obtain ⟨j, e1, e2⟩ := atI_iff.mp e1
    exact okS_sub ok (by
      have := (List.getElem?_eq_some_iff.mp e2).1
      simp; omega) fun x hx => by
        simp at hx
        subst hx
        exact List.mem_of_getElem? e2
def oN {G : Type} : M G (Option Int) := M.pure none
def asI : D → Option Int
  | .int i => some i
  | _ => none
theorem asI_some : ∀ {d : D} {i : Int}, asI d = some i → d = .int i
  | .int _, _, h => by cases h; rfl
def oS {G : Type} (a : M G D) : M G (Option Int) := M.bind a fun x => M.bind (M.lift (asI x)) fun i => M.pure (some i)
theorem do_none : DO X Z E Wx none oN := PO.imp po_none fun σ H Q ⟨Hf, g, sl, r, q⟩ => q _ _ _ r.base.self rfl
theorem do_some (h : DE X Z E Wx e fe) : DO X Z E Wx (some e) (oS fe) := by
  refine PO.imp (po_some h) fun σ H Q ⟨Hf, g, sl, r, q⟩ => ⟨Hf, g, sl, r, (go_bind (Rm := RlD X.K) q).mono fun x H1 ⟨Hf1, g1, c, b1, d1, q1⟩ => ?_⟩
  obtain ⟨i, ei, q2⟩ := go_bl q1
  obtain rfl := asI_some ei
  cases d1
  exact ⟨_, rfl, q2 _ _ _ b1.self rfl⟩
def eSl {G : Type} (a : M G D) (lo hi : M G (Option Int)) : M G D := M.bind a fun x => M.bind lo fun l => M.bind hi fun h => M.lift (slD x l h)
theorem de_slice {lo hi : Option Expr} {fl fh : M Z.W.G (Option Int)} {p2 : Pos} (he : DR X Z E Wx e fe) (hl : DO X Z E Wx lo fl) (hu : DO X Z E Wx hi fh) : DE X Z E Wx (.Subscript e (.Slice lo hi none p2) pos) (eSl fe fl fh) := by
  refine PE.imp (pe_slice (SlR.or sl_str (SlR.or sl_list sl_tupA)) he hl hu) fun σ H Q ⟨Hf, g, sl, r, q⟩ => ?_
  refine ⟨Hf, g, sl, r, (go_bind (Rm := RlR X.K) q).mono fun x H1 ⟨Hf1, g1, c, b1, d1, q1⟩ => ⟨Hf1, g1, sl, r.step b1, (go_bind (Rm := RlO) q1).mono fun l H2 ⟨Hf2, g2, lo, b2, e2, q2⟩ =>
    ⟨Hf2, g2, sl, r.step (b1.trans b2), (go_bind (Rm := RlO) q2).mono fun u H3 ⟨Hf3, g3, hi, b3, e3, q3⟩ => ?_⟩⟩⟩
  obtain ⟨d, ed, k⟩ := go_lift q3
  cases e2
  cases e3
  have d2 := (d1.step b2).step b3
  have B := b3.self
  match c, ed, d2 with
  | .str s, ed, d2 =>
    cases ed
    obtain ⟨rfl, ok⟩ := d2.str
    refine .inl ⟨mkS s, rfl, okS_lim ok, ?_⟩
    have e : cutS (mkS s) l u = mkS (cut s l u) := by
      unfold cutS cut
      rw [mkS_cps, mkS_len]
      rfl
    rw [e]
    exact k _ _ _ B (.str _ (okS_sub ok (cut_len _ _ _) fun c hc => cut_mem hc))
  | .lst s, ed, d2 =>
    cases ed
    obtain ⟨p, vs, rfl, h1, h2⟩ := d2.lst B.fh
    exact .inr (.inl ⟨p, vs, rfl, SqL.of h1, fun q hq => k _ _ _ (B.alloc _ hq) (.lst upd_same (DvAll.mono (same_new (B.hn hq)) _ (h2.cut l u)))⟩)
  | .tup s, ed, d2 =>
    cases ed
    obtain ⟨p, vs, rfl, h1, h2⟩ := d2.tup
    refine .inr (.inr ⟨p, vs, rfl, (.inl (B.rd h1)), fun hw => ?_, fun hw q hq => k _ _ _ (B.alloc _ hq) (.tup (.inl upd_same) (DvAll.mono (same_new (B.hn hq)) _ (h2.cut l u)))⟩)
    have e : cut s l u = s := by
      unfold cut
      rw [← h2.len, hw.1, hw.2]
      simp [h2.len]
    refine k _ _ _ B ?_
    rw [e]
    exact .tup h1 h2

/-! ### calls of built-ins with one argument -/
def C1 (X : Cx) (f : Value) (op : D → Option D) : Prop :=
  ∃ r : List V → Hp → VK → Prop, CallR X f r ∧ ∀ (W : Wd) (H Hf : Hp) (g : W.G) (x : V) (a d : D) (Q : VK), Base W H Hf g H Hf g → Dr X.K g Hf H x a → op a = some d →
    (∀ v H' Hf', Base W H Hf g H' Hf' g → Dv X.K Hf' v d → Q v H') → r [x] H Q
theorem c1_run {op : D → Option D} {r : List V → Hp → VK → Prop} {σ : St} {H : Hp} {Q : VK} (hr : ∀ (W : Wd) (H Hf : Hp) (g : W.G) (x : V) (a d : D) (Q : VK), Base W H Hf g H Hf g → Dr X.K g Hf H x a → op a = some d →
    (∀ v H' Hf', Base W H Hf g H' Hf' g → Dv X.K Hf' v d → Q v H') → r [x] H Q) (h : tG Z X.K E (RlD X.K) Wx (e1 op fa) σ H Q) : tCB r (tCons (tG Z X.K E (RlR X.K) Wx fa) tNil) σ H Q := by
  obtain ⟨Hf, g, sl, r, q⟩ := h
  refine ⟨Hf, g, sl, r, (go_bind (Rm := RlR X.K) q).mono fun x H1 ⟨Hf1, g1, a, b1, d1, q1⟩ => ?_⟩
  obtain ⟨d, ed, k⟩ := go_lift q1
  exact hr Z.W H1 Hf1 g1 x a d Q b1.self d1 ed k
theorem de_b1 {id : String} {x : Str} {p : Pos} {op : D → Option D} (hc : C1 X (.builtin id) op) (hg : Gl X x) (hm : X.mg x = none) (hv : bootBuiltins x = some (.builtin id)) (ha : DR X Z E Wx a fa) (hn : x ≠ "__name__" := by decide) (hdb : (x == ("__debug__" : Str)) = false := by decide)
    (hs : starEach [a] X.env = (false, eval a X.env) :: starEach [] X.env := by rfl) (hpl : (backTo pos (starEach [] X.env)).any (·.1) = false := by rfl) : DE X Z E Wx (.Call (.Name x p) [a] [] pos) (e1 op fa) := by
  obtain ⟨r, hr, k⟩ := hc
  exact PE.imp (pe_callB hr hg hm hv (pa_cons ha pa_nil hs) hn hdb hs hpl) fun σ H Q h => c1_run k h
theorem de_t1 {id : String} {x : Str} {p : Pos} {op : D → Option D} (hc : C1 X (.type id) op) (hg : Gl X x) (hm : X.mg x = none) (hv : bootBuiltins x = some (.type id)) (ha : DR X Z E Wx a fa) (hn : x ≠ "__name__" := by decide) (hdb : (x == ("__debug__" : Str)) = false := by decide)
    (hs : starEach [a] X.env = (false, eval a X.env) :: starEach [] X.env := by rfl) (hpl : (backTo pos (starEach [] X.env)).any (·.1) = false := by rfl) : DE X Z E Wx (.Call (.Name x p) [a] [] pos) (e1 op fa) := by
  obtain ⟨r, hr, k⟩ := hc
  exact PE.imp (pe_callTy hr hg hm hv (pa_cons ha pa_nil hs) hn hdb hs hpl) fun σ H Q h => c1_run k h
def lenD : D → Option D
  | .str s => some (.int s.length)
  | .lst s => some (.int s.length)
  | .tup s => some (.int s.length)
  | _ => none
theorem c_len : C1 X (.builtin "len") lenD := by
  refine ⟨_, call_len, fun W H Hf g x a d Q B ha ed k => ?_⟩
  match a, ed, ha with
  | .str s, ed, ha =>
    cases ed
    obtain ⟨rfl, ok⟩ := ha.str
    exact ⟨_, s.length, rfl, ⟨okS_lim ok, (mkS_len s).symm⟩, k _ _ _ B (.int _)⟩
  | .lst s, ed, ha =>
    cases ed
    obtain ⟨p, vs, rfl, h1, h2⟩ := ha.lst B.fh
    exact ⟨_, s.length, rfl, .inl ⟨vs, SqL.of h1, h2.len.symm⟩, k _ _ _ B (.int _)⟩
  | .tup s, ed, ha =>
    cases ed
    obtain ⟨p, vs, rfl, h1, h2⟩ := ha.tup
    exact ⟨_, s.length, rfl, .inr ⟨vs, (.inl (B.rd h1)), h2.len.symm⟩, k _ _ _ B (.int _)⟩
def asBs : List D → Option (List Bool)
  | [] => some []
  | .bl b :: ds => (asBs ds).map (b :: ·)
  | _ => none
theorem asBs_some : ∀ {ds : List D} {bs : List Bool}, asBs ds = some bs → ds = bs.map D.bl
  | [], _, h => by cases h; rfl
  | .bl b :: ds, bs, h => by
    obtain ⟨l, e1, rfl⟩ := Option.map_eq_some_iff.mp h
    rw [asBs_some e1]; rfl
def allD : D → Option D
  | .lst s => (asBs s).map fun bs => .bl (bs.all id)
  | _ => none
theorem c_all (hc : X.calm = true) : C1 X (.builtin "all") allD := by
  refine ⟨_, cr_all hc, fun W H Hf g x a d Q B ha ed k => ?_⟩
  match a, ed, ha with
  | .lst s, ed, ha =>
    obtain ⟨p, vs, rfl, h1, h2⟩ := ha.lst B.fh
    obtain ⟨bs, e1, rfl⟩ := Option.map_eq_some_iff.mp ed
    obtain rfl := asBs_some e1
    obtain rfl := h2.bls
    exact ⟨p, bs, rfl, SqL.of h1, k _ _ _ B (.bl _)⟩
def tupD : D → Option D
  | .lst s => some (.tup s)
  | .tup s => some (.tup s)
  | _ => none
theorem c_tuple : C1 X (.type "tuple") tupD := by
  refine ⟨_, call_tuple_of, fun W H Hf g x a d Q B ha ed k => ?_⟩
  match a, ed, ha with
  | .lst s, ed, ha =>
    cases ed
    obtain ⟨p, vs, rfl, h1, h2⟩ := ha.lst B.fh
    exact ⟨p, vs, rfl, .inl ⟨SqL.of h1, fun q hq => k _ _ _ (B.alloc _ hq) (.tup (.inl upd_same) (DvAll.mono (same_new (B.hn hq)) _ h2))⟩⟩
  | .tup s, ed, ha =>
    cases ed
    obtain ⟨p, vs, rfl, h1, h2⟩ := ha.tup
    exact ⟨p, vs, rfl, .inr ⟨(.inl (B.rd h1)), k _ _ _ B (.tup h1 h2)⟩⟩
def lisD : D → Option D
  | .lst s => some (.lst s)
  | .tup s => some (.lst s)
  | _ => none
theorem c_list : C1 X (.type "list") lisD := by
  refine ⟨_, call_list_of, fun W H Hf g x a d Q B ha ed k => ?_⟩
  match a, ed, ha with
  | .lst s, ed, ha =>
    cases ed
    obtain ⟨p, vs, rfl, h1, h2⟩ := ha.lst B.fh
    exact ⟨p, vs, rfl, .inl (SqL.of h1), fun q hq => k _ _ _ (B.alloc _ hq) (.lst upd_same (DvAll.mono (same_new (B.hn hq)) _ h2))⟩
  | .tup s, ed, ha =>
    cases ed
    obtain ⟨p, vs, rfl, h1, h2⟩ := ha.tup
    exact ⟨p, vs, rfl, .inr ((.inl (B.rd h1))), fun q hq => k _ _ _ (B.alloc _ hq) (.lst upd_same (DvAll.mono (same_new (B.hn hq)) _ h2))⟩
/-- isinstance(x, int | bool | str | tuple) -/
inductive Ty where
  | int | bool | str | tuple
def Ty.name : Ty → String
  | .int => "int"
  | .bool => "bool"
  | .str => "str"
  | .tuple => "tuple"
def isiB : Ty → D → Option Bool
  | _, .ref _ => none
  | _, .tupF _ => none
  | _, .tupS _ => none
  | .int, .int _ => some true
  | .int, .bl _ => some true
  | .bool, .bl _ => some true
  | .str, .str _ => some true
  | .tuple, .tup _ => some true
  | _, _ => some false
def isiD (T : Ty) (d : D) : Option D := (isiB T d).map D.bl
theorem isi_kit {K : PySem.W.Frag} {H : Hp} (T : Ty) : ∀ {d : D} {v : V} {b : Bool}, Dv K H v d → isiB T d = some b → ∃ t, TyX K H v t ∧ PySem.W.kitOne K t (.type T.name) = some b
  | .non, _, b, h, e => by
    cases h
    refine ⟨_, .base .non, ?_⟩
    cases T <;> cases e <;> exact kit_ty (by decide +kernel)
  | .bl x, _, b, h, e => by
    cases h
    refine ⟨_, .base (.bl x), ?_⟩
    cases T <;> cases e <;> exact kit_ty (by decide +kernel)
  | .int x, _, b, h, e => by
    cases h
    refine ⟨_, .base (.int x), ?_⟩
    cases T <;> cases e <;> exact kit_ty (by decide +kernel)
  | .str x, _, b, h, e => by
    cases h
    refine ⟨_, .base (.str _), ?_⟩
    cases T <;> cases e <;> exact kit_ty (by decide +kernel)
  | .tup x, _, b, h, e => by
    cases h with
    | tup h1 h2 =>
      rcases h1 with h1 | ⟨o, h1⟩
      · refine ⟨_, .base (.tup h1), ?_⟩
        cases T <;> cases e <;> exact kit_ty (by decide +kernel)
      · refine ⟨_, .fTuple h1, ?_⟩
        cases T <;> cases e <;> exact kit_ty (by decide +kernel)
  | .lst x, _, b, h, e => by
    cases h with
    | lst h1 h2 =>
      refine ⟨_, .base (.lst h1), ?_⟩
      cases T <;> cases e <;> exact kit_ty (by decide +kernel)
  | .ref x, _, b, h, e => by cases T <;> cases e
  | .tupF x, _, b, h, e => by cases T <;> cases e
  | .tupS x, _, b, h, e => by cases T <;> cases e
theorem de_isi (T : Ty) {p p2 : Pos} {tn : Str} (hg : Gl X "isinstance") (hm : X.mg "isinstance" = none) (hg2 : Gl X tn) (hm2 : X.mg tn = none) (hv2 : bootBuiltins tn = some (.type T.name)) (ha : DR X Z E Wx a fa)
    (hn2 : tn ≠ "__name__" := by decide) (hd2 : (tn == ("__debug__" : Str)) = false := by decide) (hs : starEach [a, .Name tn p2] X.env = (false, eval a X.env) :: starEach [.Name tn p2] X.env := by rfl) (hpl : (backTo pos (starEach [.Name tn p2] X.env)).any (·.1) = false := by rfl) :
    DE X Z E Wx (.Call (.Name "isinstance" p) [a, .Name tn p2] [] pos) (e1 (isiD T) fa) := by
  refine PE.imp (pe_callB call_isi hg hm (by decide +kernel) (pa_cons ha (pa_cons (pe_bltn (v := .ty T.name) hg2 hm2 hv2 rfl hn2 hd2) pa_nil) hs) (by decide) (by decide) hs hpl) fun σ H Q ⟨Hf, g, sl, r, q⟩ => ?_
  refine ⟨Hf, g, sl, r, (go_bind (Rm := RlR X.K) q).mono fun x H1 ⟨Hf1, g1, c, b1, d1, q1⟩ => ?_⟩
  obtain ⟨d, ed, k⟩ := go_lift q1
  obtain ⟨b, eb, rfl⟩ := Option.map_eq_some_iff.mp ed
  obtain ⟨t, ht, hk⟩ := isi_kit T (d1.h b1.fh) eb
  exact ⟨x, .ty T.name, t, _, b, rfl, .ty _, ht, hk, k _ _ _ b1.self (.bl _)⟩
/-- the truth of a value -/
def truD : D → Option Bool
  | .non => some false
  | .bl b => some b
  | .int i => some (i != 0)
  | .str s => some (!s.isEmpty)
  | .tup s => some (!s.isEmpty)
  | .lst s => some (!s.isEmpty)
  | .ref _ => none
  | .tupF _ => none
  | .tupS _ => none
def tTr {G : Type} (a : M G D) : M G Bool := M.bind a fun x => M.lift (truD x)
theorem dt_tru (ha : DR X Z E Wx a fa) (he : ∀ whole, isTrue a X.env whole = (do let v ← whole; standAt a.pos; holding [v] (truthy v)) := by intro _; rfl) : DT X Z E Wx a (tTr fa) := by
  refine PT.imp (pt_truth ha he) fun σ H Q ⟨Hf, g, sl, r, q⟩ => ⟨Hf, g, sl, r, (go_bind (Rm := RlR X.K) q).mono fun x H1 ⟨Hf1, g1, c, b1, d1, q1⟩ => ?_⟩
  obtain ⟨b, eb, k⟩ := go_lift q1
  refine ⟨b, ?_, k _ _ _ b1.self rfl⟩
  match c, eb, d1 with
  | .non, eb, d1 => cases eb; obtain rfl := d1.non; rfl
  | .bl _, eb, d1 => cases eb; obtain rfl := d1.bl; rfl
  | .int _, eb, d1 => cases eb; obtain rfl := d1.int; rfl
  | .str s, eb, d1 =>
    cases eb
    obtain ⟨rfl, ok⟩ := d1.str
    refine ⟨okS_lim ok, ?_⟩
    rw [mkS_len]
    cases s <;> simp <;> omega
  | .tup s, eb, d1 =>
    cases eb
    obtain ⟨p, vs, rfl, h1, h2⟩ := d1.tup
    refine .inr (.inl ⟨vs, (.inl (b1.rd h1)), ?_⟩)
    have := h2.len
    cases s <;> cases vs <;> simp_all
  | .lst s, eb, d1 =>
    cases eb
    obtain ⟨p, vs, rfl, h1, h2⟩ := d1.lst b1.fh
    refine .inl ⟨vs, SqL.of h1, ?_⟩
    have := h2.len
    cases s <;> cases vs <;> simp_all
theorem un_negD {a : Expr} {fa : M Z.W.G D} (ha : DR X Z E Wx a fa) : DE X Z E Wx (.UnaryOp .USub a pos) (e1 negD fa) := by
  refine PE.imp (pe_un un_neg ha) fun σ H Q ⟨Hf, g, sl, r, q⟩ => ⟨Hf, g, sl, r, (go_bind (Rm := RlR X.K) q).mono fun x H1 ⟨Hf1, g1, c, b1, d1, q1⟩ => ?_⟩
  obtain ⟨d, ed, k⟩ := go_lift q1
  match c, ed, d1 with
  | .int i, ed, d1 =>
    cases ed
    obtain rfl := d1.int
    exact ⟨i, rfl, k _ _ _ b1.self (.int _)⟩
end
end DL
namespace DL
open PySem L2

/-! ### defs -/
abbrev Fn (G : Type) := List D → G → Out G D
/-- the promise of a def that computes F on data -/
def spF (Z : Cn) (K : PySem.W.Frag) (n : Nat) (F : Fn Z.W.G) : Sp := fun vs H Q Ex => vs.length = n ∧ ∃ (Hf : Hp) (g : Z.W.G) (ds : List D), Base Z.W H Hf g H Hf g ∧ DvAll K Hf vs ds ∧
  go Z (RlD K) (fun cls d _ H' => Ex cls d H') [] (F ds g) H Hf g Q
def callM {G : Type} (F : Fn G) (fs : M G (List D)) : M G D := M.bind fs fun ds => fun _ g => F ds g
theorem go_wx {Z : Cn} {α β : Type} {Rl : Z.W.G → Hp → Hp → β → α → Prop} {Wx : WX} {σ : St} {m : Out Z.W.G α} {H Hf : Hp} {g : Z.W.G} {Q : β → Hp → Prop} (h : go Z Rl Wx σ m H Hf g Q) : go Z Rl (fun cls d _ H' => Wx cls d σ H') [] m H Hf g Q := by
  match m, h with
  | some (.ok a, g'), h => exact h
  | some (.exc c, g'), h => exact h
section
variable {X : Cx} {Z : Cn} {E : Ent Z.W} {Wx : WX} {e a b c : Expr} {pos p : Pos} {fe fa fb fc : M Z.W.G D} {ft fu : M Z.W.G Bool} {k n : Nat} {f : Addr} {fd : FuncData} {ps : List Str} {x : Str}
theorem de_call {es : List Expr} {fs : M Z.W.G (List D)} {F : Fn Z.W.G} (G : FnOk X.prog X.w X.K X.mg X.base (L2.CX X.prog X.w) k f fd ps (spF Z X.K n F)) (hr : Room k X.A) (hg : Gl X x) (hm : X.mg x = some (.ref f)) (hk : PySem.W.keepIn X.K (.ref f) = true) (hb : Binds X.K fd ps [])
    (tk : Takes X Wx) (hn : (e :: es).length = n) (ha : DA X Z E Wx (e :: es) fs) (hl : ∀ sl g ds g', fs sl g = some (.ok ds, g') → ds.length = n) (hdb : (x == ("__debug__" : Str)) = false := by decide) (he : starEach (e :: es) X.env = (false, eval e X.env) :: starEach es X.env := by rfl) (hpl : (backTo pos (starEach es X.env)).any (·.1) = false := by rfl) :
    DE X Z E Wx (.Call (.Name x p) (e :: es) [] pos) (callM F fs) := by
  refine PE.imp (pe_callS G hr hg hm hk hb (fun σ => passAt tk σ) ha hdb he hpl) fun σ H Q ⟨Hf, g, sl, r, q⟩ => ?_
  refine ⟨Hf, g, sl, r, ?_⟩
  unfold callM M.bind at q
  match eq : fs sl g with
  | none => rw [eq] at q; exact q
  | some (.exc c, g1) => rw [eq] at q; exact q
  | some (.ok ds, g1) =>
    rw [eq] at q
    intro vs H1 Hf1 b1 d1
    exact ⟨by rw [d1.len]; exact hl sl g ds g1 eq, Hf1, g1, ds, b1.self, d1, go_wx (go.later (g := g) q b1)⟩
end

/-! ### statements: the pure side -/
inductive Fl where
  | nx | bk | ct
  | rt (d : D)
  | ex (c : Nat)
abbrev SM (G : Type) := SL → G → Option (Fl × SL × G)
section
variable {G : Type}
def sSkip : SM G := fun sl g => some (.nx, sl, g)
def sSeq (f1 f2 : SM G) : SM G := fun sl g => match f1 sl g with
  | some (.nx, sl1, g1) => f2 sl1 g1
  | r => r
/-- run an expression, then go on with the slots changed -/
def sDo {α : Type} (f : M G α) (k : α → SM G) : SM G := fun sl g => match f sl g with
  | none => none
  | some (.exc c, g1) => some (.ex c, sl, g1)
  | some (.ok a, g1) => k a sl g1
def sSet (i : Nat) (x : Slot) : SM G := fun sl g => some (.nx, sl.set i (some x), g)
def sAsg (i : Nat) (f : M G Slot) : SM G := sDo f fun x => sSet i x
def sPar (i j : Nat) (f h : M G Slot) : SM G := sDo f fun x => sDo h fun y => sSeq (sSet i x) (sSet j y)
def sPar3 (i j l : Nat) (f h m : M G Slot) : SM G := sDo f fun x => sDo h fun y => sDo m fun z => sSeq (sSet i x) (sSeq (sSet j y) (sSet l z))
def sDrop (f : M G D) : SM G := sDo f fun _ => sSkip
def sRet (f : M G D) : SM G := sDo f fun d => fun sl g => some (.rt d, sl, g)
def sRetN : SM G := fun sl g => some (.rt .non, sl, g)
def sIf (c : M G Bool) (a b : SM G) : SM G := sDo c fun k => if k = true then a else b
def sBrk : SM G := fun sl g => some (.bk, sl, g)
def sCt : SM G := fun sl g => some (.ct, sl, g)
def sRaise (c : Nat) : SM G := fun sl g => some (.ex c, sl, g)
/-- a list of the frame's own is from now on left as it is -/
def frz1 (i : Nat) (sl : SL) : SL := match sl[i]? with
  | some (some (.oL xs)) => sl.set i (some (.d (.lst xs)))
  | _ => sl
def sFrz (i : Nat) (f : SM G) : SM G := fun sl g => f (frz1 i sl) g
/-- names that are not asked any more -/
def wipeS (sl : SL) : List Nat → SL
  | [] => sl
  | v :: vs => (wipeS sl vs).set v none
def sFgt (vs : List Nat) (f : SM G) : SM G := fun sl g => f (wipeS sl vs) g
abbrev Tg := D → SL → Option SL
def tg1 (i : Nat) : Tg := fun d sl => some (sl.set i (some (.d d)))
def tg2 (i j : Nat) : Tg := fun d sl => match d with
  | .tup [a, b] => some ((sl.set i (some (.d a))).set j (some (.d b)))
  | _ => none
def tg3 (i j l : Nat) : Tg := fun d sl => match d with
  | .tup [a, b, c] => some (((sl.set i (some (.d a))).set j (some (.d b))).set l (some (.d c)))
  | _ => none
def forL (tg : Tg) (b : SM G) (vs : List Nat) : List D → SM G
  | [] => fun sl g => some (.nx, sl, g)
  | d :: ds => fun sl g => match tg d sl with
    | none => none
    | some sl1 => match b sl1 g with
      | none => none
      | some (.nx, sl2, g2) => forL tg b vs ds (wipeS sl2 vs) g2
      | some (.ct, sl2, g2) => forL tg b vs ds (wipeS sl2 vs) g2
      | some (.bk, sl2, g2) => some (.nx, sl2, g2)
      | some (.rt d, sl2, g2) => some (.rt d, sl2, g2)
      | some (.ex c, sl2, g2) => some (.ex c, sl2, g2)
def sFor (it : M G (List D)) (tg : Tg) (vs : List Nat) (b : SM G) : SM G := sDo it fun ds => forL tg b vs ds
def sWhile (c : M G Bool) (vs : List Nat) (b : SM G) : Nat → SM G
  | 0 => fun _ _ => none
  | n + 1 => sDo c fun k => if k = true then (fun sl g => match b sl g with
      | none => none
      | some (.nx, sl2, g2) => sWhile c vs b n (wipeS sl2 vs) g2
      | some (.ct, sl2, g2) => sWhile c vs b n (wipeS sl2 vs) g2
      | some (.bk, sl2, g2) => some (.nx, sl2, g2)
      | some (.rt d, sl2, g2) => some (.rt d, sl2, g2)
      | some (.ex c, sl2, g2) => some (.ex c, sl2, g2)) else sSkip
end

/-! ### statements: the rules -/
def goS (Z : Cn) (K : PySem.W.Frag) (E : Ent Z.W) (Wx : WX) (Hf : Hp) (m : Option (Fl × SL × Z.W.G)) (D : Ends) : Prop :=
  match m with
  | none => False
  | some (.nx, sl', g') => ∀ σ' H' Hf', Same Hf Hf' → R K E H' Hf' g' sl' σ' → D.nx σ' H'
  | some (.bk, sl', g') => ∀ σ' H' Hf', Same Hf Hf' → R K E H' Hf' g' sl' σ' → D.bk σ' H'
  | some (.ct, sl', g') => ∀ σ' H' Hf', Same Hf Hf' → R K E H' Hf' g' sl' σ' → D.ct σ' H'
  | some (.rt d, sl', g') => ∀ v H' Hf', Base Z.W E.H E.Hf E.g H' Hf' g' → Dv K Hf' v d → D.rt v H'
  | some (.ex c, sl', g') => ∀ σ' H' Hf', R K E H' Hf' g' sl' σ' → Wx (Z.cls c) none σ' H'
def tS (Z : Cn) (K : PySem.W.Frag) (E : Ent Z.W) (Wx : WX) (f : SM Z.W.G) : TS := fun D σ H => ∃ (Hf : Hp) (g : Z.W.G) (sl : SL), R K E H Hf g sl σ ∧ goS Z K E Wx Hf (f sl g) D
section
variable {Z : Cn} {K : PySem.W.Frag} {E : Ent Z.W} {Wx : WX} {H Hf Hf1 : Hp} {g : Z.W.G} {sl : SL} {σ : St}
theorem goS.later {m : Option (Fl × SL × Z.W.G)} {D : Ends} (h : goS Z K E Wx Hf m D) (s : Same Hf Hf1) : goS Z K E Wx Hf1 m D := by
  match m, h with
  | some (.nx, sl', g'), h => exact fun σ' H' Hf' q r => h σ' H' Hf' (Same.tr s q) r
  | some (.bk, sl', g'), h => exact fun σ' H' Hf' q r => h σ' H' Hf' (Same.tr s q) r
  | some (.ct, sl', g'), h => exact fun σ' H' Hf' q r => h σ' H' Hf' (Same.tr s q) r
  | some (.rt d, sl', g'), h => exact h
  | some (.ex c, sl', g'), h => exact h
theorem goS.mono {m : Option (Fl × SL × Z.W.G)} {D D' : Ends} (h : goS Z K E Wx Hf m D) (h1 : ∀ σ H, D.nx σ H → D'.nx σ H) (h2 : ∀ σ H, D.bk σ H → D'.bk σ H) (h3 : ∀ σ H, D.ct σ H → D'.ct σ H) (h4 : ∀ σ H, D.rt σ H → D'.rt σ H) : goS Z K E Wx Hf m D' := by
  match m, h with
  | some (.nx, sl', g'), h => exact fun σ' H' Hf' q r => h1 _ _ (h σ' H' Hf' q r)
  | some (.bk, sl', g'), h => exact fun σ' H' Hf' q r => h2 _ _ (h σ' H' Hf' q r)
  | some (.ct, sl', g'), h => exact fun σ' H' Hf' q r => h3 _ _ (h σ' H' Hf' q r)
  | some (.rt d, sl', g'), h => exact fun σ' H' Hf' q r => h4 _ _ (h σ' H' Hf' q r)
  | some (.ex c, sl', g'), h => exact h
/-- an expression ahead of the rest -/
theorem goS_do {α β : Type} {Rl : Z.W.G → Hp → Hp → β → α → Prop} {f : M Z.W.G α} {k : α → SM Z.W.G} {D : Ends} (r : R K E H Hf g sl σ) (h : goS Z K E Wx Hf (sDo f k sl g) D) :
    go Z Rl Wx σ (f sl g) H Hf g (fun v H1 => ∃ (Hf1 : Hp) (g1 : Z.W.G) (a : α), Base Z.W H Hf g H1 Hf1 g1 ∧ R K E H1 Hf1 g1 sl σ ∧ Rl g1 Hf1 H1 v a ∧ goS Z K E Wx Hf1 (k a sl g1) D) := by
  unfold sDo at h
  match e : f sl g with
  | none => rw [e] at h; exact h
  | some (.exc c, g1) =>
    rw [e] at h
    exact fun H' Hf' b => h σ H' Hf' (r.step b)
  | some (.ok a, g1) =>
    rw [e] at h
    exact fun v H1 Hf1 b rl => ⟨Hf1, g1, a, b, r.step b, rl, h.later b.ff⟩
theorem goS_seq {f1 f2 : SM Z.W.G} {D : Ends} (h : goS Z K E Wx Hf (sSeq f1 f2 sl g) D) : goS Z K E Wx Hf (f1 sl g) { D with nx := tS Z K E Wx f2 D } := by
  unfold sSeq at h
  match e : f1 sl g with
  | none => rw [e] at h; exact h
  | some (.nx, sl1, g1) =>
    rw [e] at h
    exact fun σ' H' Hf' s r => ⟨Hf', g1, sl1, r, goS.later (m := f2 sl1 g1) h s⟩
  | some (.bk, sl1, g1) => rw [e] at h; exact h
  | some (.ct, sl1, g1) => rw [e] at h; exact h
  | some (.rt d, sl1, g1) => rw [e] at h; exact h
  | some (.ex d, sl1, g1) => rw [e] at h; exact h

/-! ghost steps -/
theorem wipeS_some {i : Nat} {x : Slot} : ∀ {vs : List Nat}, (wipeS sl vs)[i]? = some (some x) → sl[i]? = some (some x)
  | [], h => h
  | v :: vs, h => by
    unfold wipeS at h
    rw [List.getElem?_set] at h
    split at h
    · split at h
      · cases h
      · cases h
    · exact wipeS_some h
theorem wipeS_len : ∀ (vs : List Nat), (wipeS sl vs).length = sl.length
  | [] => rfl
  | v :: vs => by unfold wipeS; rw [List.length_set, wipeS_len vs]
theorem R.fgt (r : R K E H Hf g sl σ) (vs : List Nat) : R K E H Hf g (wipeS sl vs) σ :=
  ⟨r.base, fun i x e => r.slot i x (wipeS_some e), fun i j x y a n e1 e2 => r.apart i j x y a n (wipeS_some e1) (wipeS_some e2), by rw [wipeS_len]; exact r.len⟩
/-- also where the frame's own slots are wiped -/
theorem R.wipe (r : R K E H Hf g sl σ) (vs : List Nat) : R K E H Hf g (wipeS sl vs) (L2.wipe σ vs) := by
  have key : ∀ (vs : List Nat) (i : Nat) (x : Slot), (wipeS sl vs)[i]? = some (some x) → (L2.wipe σ vs)[i]? = σ[i]? := by
    intro vs
    induction vs with
    | nil => intro i x _; rfl
    | cons v vs ih =>
      intro i x h
      unfold wipeS at h
      unfold L2.wipe
      rw [List.getElem?_set] at h ⊢
      split at h
      · split at h
        · cases h
        · cases h
      · rename_i hv
        rw [if_neg hv]
        exact ih i x h
  refine ⟨r.base, fun i x e => ?_, fun i j x y a n e1 e2 => ?_, by rw [wipeS_len, wipe_length]; exact r.len⟩
  · rw [key vs i x e]
    exact r.slot i x (wipeS_some e)
  · rw [key vs i x e1, key vs j y e2]
    exact r.apart i j x y a n (wipeS_some e1) (wipeS_some e2)
theorem frz_step {a : Addr} {vs : List V} (b : Base Z.W E.H E.Hf E.g H Hf g) (h : H a = some (.lst vs)) (k : OwnOk E Hf g a) : Base Z.W E.H E.Hf E.g H (upd Hf a (.lst vs)) g where
  ff := Same.tr b.ff (same_new k.2.1)
  fh := fun x u e => by
    by_cases hx : x = a
    · subst hx; rw [upd_same] at e; cases e; exact h
    · rw [upd_ne hx] at e; exact b.fh x u e
  keep := b.keep
  old := fun x e => by
    have hx : x ≠ a := fun q => by subst q; exact e k.1
    rw [upd_ne hx]; exact b.old x e
  there := b.there
  rep := Wd.loc3 b.rep (same_new k.2.1)
  dis := fun x q => by
    have hx : x ≠ a := fun z => by subst z; exact k.2.2 q
    rw [upd_ne hx]; exact b.dis x q
  fpo := b.fpo
theorem OwnOk.frz {a b : Addr} {o : HO} (k : OwnOk E Hf g b) (h : b ≠ a) : OwnOk E (upd Hf a o) g b := ⟨k.1, by rw [upd_ne h]; exact k.2.1, k.2.2⟩
theorem SlotOk.frz {a : Addr} {o : HO} {v : V} (hn : Hf a = none) : ∀ {x : Slot}, SlotOk K E H Hf g v x → (x.own = true → v ≠ .ref a) → SlotOk K E H (upd Hf a o) g v x
  | .d x, h, _ => Dv.mono (same_new hn) x h
  | .oL xs, ⟨b, vs, e, h1, h2, h3⟩, n => ⟨b, vs, e, h1, DvAll.mono (same_new hn) xs h2, h3.frz fun z => n rfl (by rw [e, z])⟩
  | .oK xs, ⟨b, vs, e, h1, h2, h3⟩, n => ⟨b, vs, e, h1, KVd.mono (same_new hn) h2, h3.frz fun z => n rfl (by rw [e, z])⟩
  | .kK xs, ⟨b, vs, o, e, h1, h2⟩, n => ⟨b, vs, o, e, same_new hn _ _ h1, KVd.mono (same_new hn) h2⟩
  | .oT xs, ⟨b, vs, e, h1, h2, h3⟩, n => ⟨b, vs, e, h1, TVd.mono (same_new hn) h2, h3.frz fun z => n rfl (by rw [e, z])⟩
theorem R.frz (r : R K E H Hf g sl σ) (i : Nat) : ∃ Hf', Same Hf Hf' ∧ R K E H Hf' g (frz1 i sl) σ := by
  unfold frz1
  match e : sl[i]? with
  | some (some (.oL xs)) =>
    obtain ⟨v, h1, a, vs, rfl, h2, h3, h4⟩ := r.slot i _ e
    refine ⟨upd Hf a (.lst vs), same_new h4.2.1, frz_step r.base h2 h4, fun j x ej => ?_, fun j l x y b n ej el ox oy => ?_, by simp only; rw [List.length_set]; exact r.len⟩
    · simp only at ej
      rw [List.getElem?_set] at ej
      split at ej
      · rename_i hij
        subst hij
        split at ej
        · cases ej
          exact ⟨_, h1, .lst upd_same (DvAll.mono (same_new h4.2.1) xs h3)⟩
        · cases ej
      · rename_i hij
        obtain ⟨w, q1, q2⟩ := r.slot j x ej
        exact ⟨w, q1, q2.frz h4.2.1 fun ox z => by subst z; exact r.apart i j _ x a hij e ej rfl ox h1 q1⟩
    · have aux : ∀ (j : Nat) (x : Slot), (sl.set i (some (.d (.lst xs))))[j]? = some (some x) → x.own = true → sl[j]? = some (some x) := by
        intro j x ej ox
        rw [List.getElem?_set] at ej
        split at ej
        · split at ej
          · cases ej; cases ox
          · cases ej
        · exact ej
      exact r.apart j l x y b n (aux j x ej ox) (aux l y el oy) ox oy
  | some (some (.d x)) => exact ⟨Hf, same_refl _, r⟩
  | some (some (.oK x)) => exact ⟨Hf, same_refl _, r⟩
  | some (some (.oT x)) => exact ⟨Hf, same_refl _, r⟩
  | some (some (.kK x)) => exact ⟨Hf, same_refl _, r⟩
  | some none => exact ⟨Hf, same_refl _, r⟩
  | none => exact ⟨Hf, same_refl _, r⟩
/-- a name is stored -/
theorem R.set (r : R K E H Hf g sl σ) (i : Nat) {v : V} {x : Slot} (h : SlotOk K E H Hf g v x) (new : x.own = true → ∀ a j y, v = .ref a → sl[j]? = some (some y) → y.own = true → j ≠ i → σ[j]? ≠ some (some (.ref a))) : R K E H Hf g (sl.set i (some x)) (σ.set i (some v)) := by
  have hl := r.len
  refine ⟨r.base, fun j y e => ?_, fun j l y z a n e1 e2 o1 o2 => ?_, by rw [List.length_set, List.length_set]; exact hl⟩
  · rw [List.getElem?_set] at e ⊢
    split at e
    · rename_i hij
      subst hij
      split at e
      · rename_i hi
        cases e
        rw [if_pos rfl, if_pos (by rw [← hl]; exact hi)]
        exact ⟨v, rfl, h⟩
      · cases e
    · rename_i hij
      rw [if_neg hij]
      exact r.slot j y e
  · rw [List.getElem?_set] at e1 e2
    rw [List.getElem?_set, List.getElem?_set]
    split at e1
    · rename_i hij
      subst hij
      have hil : i ≠ l := n
      rw [if_neg hil] at e2 ⊢
      split at e1
      · rename_i hi
        cases e1
        rw [if_pos rfl, if_pos (by rw [← hl]; exact hi)]
        intro q
        have q' : v = .ref a := Option.some.inj (Option.some.inj q)
        exact new o1 a l z q' e2 o2 hil.symm
      · cases e1
    · rename_i hij
      rw [if_neg hij]
      split at e2
      · rename_i hil
        subst hil
        split at e2
        · rename_i hi
          cases e2
          rw [if_pos rfl, if_pos (by rw [← hl]; exact hi)]
          intro q z
          have q' : v = .ref a := Option.some.inj (Option.some.inj z)
          exact new o2 a j y q' e1 o1 (fun w => hij w.symm) q
        · cases e2
      · rename_i hil
        rw [if_neg hil]
        exact r.apart j l y z a n e1 e2 o1 o2
end
end DL
namespace DL
open PySem L2

theorem PS.imp {X : Cx} {st : Stmt} {t t' : TS} (h : PS X st t) (k : ∀ D σ H, t' D σ H → t D σ H) : PS X st t' := ⟨fun pins s σ H D I q => h.run pins s σ H D I (k D σ H q)⟩
theorem PSs.imp {X : Cx} {st : List Stmt} {t t' : TS} (h : PSs X st t) (k : ∀ D σ H, t' D σ H → t D σ H) : PSs X st t' := ⟨fun pins s σ H D I q => h.run pins s σ H D I (k D σ H q)⟩

/-- what a name may be given: data that stands, or something new of the frame's own -/
abbrev RlX {Z : Cn} (K : PySem.W.Frag) (E : Ent Z.W) (H0 : Hp) : Z.W.G → Hp → Hp → V → Slot → Prop := fun g Hf H v x => SlotOk K E H Hf g v x ∧ (x.own = true → ∀ a, v = .ref a → H0 a = none)
def tX (Z : Cn) (K : PySem.W.Frag) (E : Ent Z.W) (Wx : WX) (f : M Z.W.G Slot) : TE :=
  fun σ H Q => ∃ (Hf : Hp) (g : Z.W.G) (sl : SL), R K E H Hf g sl σ ∧ go Z (RlX K E H) Wx σ (f sl g) H Hf g Q
section
variable (X : Cx) (Z : Cn) (E : Ent Z.W) (Wx : WX)
abbrev DX (e : Expr) (f : M Z.W.G Slot) : Prop := PE X e (tX Z X.K E Wx f)
abbrev DS (st : Stmt) (f : SM Z.W.G) : Prop := PS X st (tS Z X.K E Wx f)
abbrev DSs (st : List Stmt) (f : SM Z.W.G) : Prop := PSs X st (tS Z X.K E Wx f)
end
def xD {G : Type} (f : M G D) : M G Slot := M.bind f fun d => M.pure (.d d)
def asL : D → Option (List D)
  | .lst xs => some xs
  | _ => none
theorem asL_some : ∀ {d : D} {xs : List D}, asL d = some xs → d = .lst xs
  | .lst _, _, h => by cases h; rfl
/-- a new list of one's own -/
def xL {G : Type} (f : M G D) : M G Slot := M.bind f fun d => M.bind (M.lift (asL d)) fun xs => M.pure (.oL xs)

section
variable {X : Cx} {Z : Cn} {E : Ent Z.W} {Wx : WX} {e a b c : Expr} {pos p : Pos} {fe fa fb fc : M Z.W.G D} {ft fu : M Z.W.G Bool} {fx fy fz : M Z.W.G Slot} {st : Stmt} {sts : List Stmt} {fs fs' : SM Z.W.G}
theorem dx_e (h : DE X Z E Wx e fe) : DX X Z E Wx e (xD fe) := by
  refine PE.imp h fun σ H Q ⟨Hf, g, sl, r, q⟩ => ⟨Hf, g, sl, r, (go_bind (Rm := RlD X.K) q).mono fun v H1 ⟨Hf1, g1, d, b1, d1, q1⟩ => ?_⟩
  exact q1 _ _ _ b1.self ⟨d1, fun z => by cases z⟩
/-- an expression that makes a new list which is not yet told to stand -/
def NewL (K : PySem.W.Frag) {Z : Cn} (H0 : Hp) : Z.W.G → Hp → Hp → V → D → Prop := fun g Hf H v d => ∃ a vs ds, v = .ref a ∧ d = .lst ds ∧ H0 a = none ∧ H a = some (.lst vs) ∧ Hf a = none ∧ DvAll K Hf vs ds ∧ ¬ Z.W.fp g a
def tN (Z : Cn) (K : PySem.W.Frag) (E : Ent Z.W) (Wx : WX) (f : M Z.W.G D) : TE :=
  fun σ H Q => ∃ (Hf : Hp) (g : Z.W.G) (sl : SL), R K E H Hf g sl σ ∧ go Z (NewL K H) Wx σ (f sl g) H Hf g Q
abbrev DN (X : Cx) (Z : Cn) (E : Ent Z.W) (Wx : WX) (e : Expr) (f : M Z.W.G D) : Prop := PE X e (tN Z X.K E Wx f)
theorem dx_n (h : DN X Z E Wx e fe) : DX X Z E Wx e (xL fe) := by
  refine PE.imp h fun σ H Q ⟨Hf, g, sl, r, q⟩ => ⟨Hf, g, sl, r, (go_bind (Rm := NewL X.K H) q).mono fun v H1 ⟨Hf1, g1, d, b1, d1, q1⟩ => ?_⟩
  obtain ⟨p, vs, ds, rfl, rfl, h0, h1, h2, h3, h4⟩ := d1
  obtain ⟨xs, ex, q2⟩ := go_bl q1
  cases ex
  have hE : E.H p = none := by
    cases e : E.H p with
    | none => rfl
    | some o => exact absurd h0 (r.base.there p (by rw [e]; simp))
  exact q2 _ _ _ b1.self ⟨⟨p, vs, rfl, h1, h3, hE, h2, h4⟩, fun _ a ea => by cases ea; exact h0⟩
/-- .. told to stand -/
theorem de_n (h : DN X Z E Wx e fe) : DE X Z E Wx e fe := by
  refine PE.imp h fun σ H Q ⟨Hf, g, sl, r, q⟩ => ⟨Hf, g, sl, r, ?_⟩
  match em : fe sl g with
  | none => rw [em] at q; exact q
  | some (.exc c, g1) => rw [em] at q; exact q
  | some (.ok d, g1) =>
    rw [em] at q
    intro v H1 Hf1 b1 ⟨p, vs, ds, e1, e2, h0, h1, h2, h3, h4⟩
    subst e1 e2
    refine q _ H1 (upd Hf1 p (.lst vs)) ?_ (.lst upd_same (DvAll.mono (same_new h2) ds h3))
    exact { ff := Same.tr b1.ff (same_new h2)
            fh := fun x u e => by
              by_cases hx : x = p
              · subst hx; rw [upd_same] at e; cases e; exact h1
              · rw [upd_ne hx] at e; exact b1.fh x u e
            keep := b1.keep
            old := fun x e => by
              have hx : x ≠ p := fun q => by subst q; exact e h0
              rw [upd_ne hx]; exact b1.old x e
            there := b1.there
            rep := Wd.loc3 b1.rep (same_new h2)
            dis := fun x q => by
              have hx : x ≠ p := fun z => by subst z; exact h4 q
              rw [upd_ne hx]; exact b1.dis x q
            fpo := b1.fpo }
theorem new_n {W : Wd} {H Hf H1 Hf1 : Hp} {g g1 : W.G} {q : Addr} (b : Base W H Hf g H1 Hf1 g1) (hq : H1 q = none) : H q = none ∧ Hf1 q = none ∧ ¬ W.fp g1 q := by
  refine ⟨?_, b.hn hq, fun z => W.there g1 H1 _ q b.rep z hq⟩
  cases e : H q with
  | none => rfl
  | some o => exact absurd hq (b.there q (by rw [e]; simp))
theorem dn_lst {es : List Expr} {fs : M Z.W.G (List D)} (h : DA X Z E Wx es fs) : DN X Z E Wx (.List es pos) (eLst fs) := by
  refine PE.imp (pe_lst h) fun σ H Q ⟨Hf, g, sl, r, q⟩ => ⟨Hf, g, sl, r, (go_bind (Rm := RlA X.K) q).mono fun vs H1 ⟨Hf1, g1, cs, b1, d1, q1⟩ => ?_⟩
  obtain ⟨d, ed, k1⟩ := go_lift q1
  split at ed
  · rename_i hl
    cases ed
    refine ⟨by rw [d1.len]; exact lim_line2 hl, fun p hp => ?_⟩
    obtain ⟨n1, n2, n3⟩ := new_n b1 hp
    exact k1 _ _ _ (b1.allocU (.lst vs) hp) ⟨p, vs, cs, rfl, rfl, n1, upd_same, n2, d1, n3⟩
  · cases ed
/-- [..] * k -/
def repD : D → D → Option D
  | .lst a, .int k => if 0 ≤ k ∧ k ≤ 1000 ∧ a.length ≤ 100 then some (.lst (List.replicate k.toNat a).flatten) else none
  | _, _ => none
theorem dn_rep (ha : DR X Z E Wx a fa) (hb : DR X Z E Wx b fb) : DN X Z E Wx (.BinOp a .Mult b pos) (e2 repD fa fb) := by
  refine PE.imp (pe_op op_rep ha hb) fun σ H Q ⟨Hf, g, sl, r, q⟩ => ⟨Hf, g, sl, r, (go_bind (Rm := RlR X.K) q).mono fun x H1 ⟨Hf1, g1, a, b1, d1, q1⟩ => ⟨Hf1, g1, sl, r.step b1, (go_bind (Rm := RlR X.K) q1).mono fun y H2 ⟨Hf2, g2, b, b2, d2, q2⟩ => ?_⟩⟩
  obtain ⟨d, ed, k⟩ := go_lift q2
  have d1' := d1.step b2
  match a, b, ed, d1', d2 with
  | .lst i, .int j, ed, ha, hb =>
    obtain ⟨p, vs, rfl, h1, h2⟩ := ha.lst b2.fh
    obtain rfl := hb.int
    simp only [repD] at ed
    split at ed
    · rename_i hc
      cases ed
      refine ⟨p, j, vs, rfl, rfl, h1, by omega, by omega, ?_, fun q hq => ?_⟩
      · rw [h2.len]
        have e1 : j.toNat ≤ 1000 := by omega
        calc i.length * j.toNat ≤ 100 * 1000 := Nat.mul_le_mul hc.2.2 e1
          _ ≤ sizeLine := by decide
      · obtain ⟨n1, n2, n3⟩ := new_n (b1.trans b2) hq
        exact k _ _ _ (b2.allocU _ hq) ⟨q, _, _, rfl, rfl, n1, upd_same, n2, h2.rep _, n3⟩
    · cases ed
/-- list(x) -/
theorem dn_list {x : Str} {p : Pos} (hg : Gl X x) (hm : X.mg x = none) (hv : bootBuiltins x = some (.type "list")) (ha : DR X Z E Wx a fa) (hn : x ≠ "__name__" := by decide) (hdb : (x == ("__debug__" : Str)) = false := by decide)
    (hs : starEach [a] X.env = (false, eval a X.env) :: starEach [] X.env := by rfl) (hpl : (backTo pos (starEach [] X.env)).any (·.1) = false := by rfl) : DN X Z E Wx (.Call (.Name x p) [a] [] pos) (e1 lisD fa) := by
  refine PE.imp (pe_callTy call_list_of hg hm hv (pa_cons ha pa_nil hs) hn hdb hs hpl) fun σ H Q ⟨Hf, g, sl, r, q⟩ => ⟨Hf, g, sl, r, (go_bind (Rm := RlR X.K) q).mono fun x H1 ⟨Hf1, g1, a, b1, d1, q1⟩ => ?_⟩
  obtain ⟨d, ed, k⟩ := go_lift q1
  match a, ed, d1 with
  | .lst s, ed, ha =>
    cases ed
    obtain ⟨p, vs, rfl, h1, h2⟩ := ha.lst b1.fh
    refine ⟨p, vs, rfl, .inl (SqL.of h1), fun q hq => ?_⟩
    obtain ⟨n1, n2, n3⟩ := new_n b1 hq
    exact k _ _ _ (b1.allocU _ hq) ⟨q, _, _, rfl, rfl, n1, upd_same, n2, h2, n3⟩
  | .tup s, ed, ha =>
    cases ed
    obtain ⟨p, vs, rfl, h1, h2⟩ := ha.tup
    refine ⟨p, vs, rfl, .inr ((.inl (b1.rd h1))), fun q hq => ?_⟩
    obtain ⟨n1, n2, n3⟩ := new_n b1 hq
    exact k _ _ _ (b1.allocU _ hq) ⟨q, _, _, rfl, rfl, n1, upd_same, n2, h2, n3⟩
/-- xs[lo:hi] of a list -/
def slL (d : D) (lo hi : Option Int) : Option D := match d with
  | .lst s => some (.lst (cut s lo hi))
  | _ => none
def eSlL {G : Type} (a : M G D) (lo hi : M G (Option Int)) : M G D := M.bind a fun x => M.bind lo fun l => M.bind hi fun h => M.lift (slL x l h)
theorem dn_slice {lo hi : Option Expr} {fl fh : M Z.W.G (Option Int)} {p2 : Pos} (he : DR X Z E Wx e fe) (hl : DO X Z E Wx lo fl) (hu : DO X Z E Wx hi fh) : DN X Z E Wx (.Subscript e (.Slice lo hi none p2) pos) (eSlL fe fl fh) := by
  refine PE.imp (pe_slice sl_list he hl hu) fun σ H Q ⟨Hf, g, sl, r, q⟩ => ?_
  refine ⟨Hf, g, sl, r, (go_bind (Rm := RlR X.K) q).mono fun x H1 ⟨Hf1, g1, c, b1, d1, q1⟩ => ⟨Hf1, g1, sl, r.step b1, (go_bind (Rm := RlO) q1).mono fun l H2 ⟨Hf2, g2, lo, b2, e2, q2⟩ =>
    ⟨Hf2, g2, sl, r.step (b1.trans b2), (go_bind (Rm := RlO) q2).mono fun u H3 ⟨Hf3, g3, hi, b3, e3, q3⟩ => ?_⟩⟩⟩
  obtain ⟨d, ed, k⟩ := go_lift q3
  cases e2
  cases e3
  have d2 := (d1.step b2).step b3
  match c, ed, d2 with
  | .lst s, ed, d2 =>
    cases ed
    obtain ⟨p, vs, rfl, h1, h2⟩ := d2.lst b3.fh
    refine ⟨p, vs, rfl, SqL.of h1, fun q hq => ?_⟩
    obtain ⟨n1, n2, n3⟩ := new_n ((b1.trans b2).trans b3) hq
    exact k _ _ _ (b3.allocU _ hq) ⟨q, _, _, rfl, rfl, n1, upd_same, n2, h2.cut l u, n3⟩

/-! ### blocks -/
theorem dss_nil : DSs X Z E Wx [] sSkip := PSs.imp pss_nil fun D σ H ⟨Hf, g, sl, r, q⟩ => q σ H Hf (same_refl _) r
theorem dss_cons (h1 : DS X Z E Wx st fs) (h2 : DSs X Z E Wx sts fs') : DSs X Z E Wx (st :: sts) (sSeq fs fs') :=
  PSs.imp (pss_cons h1 h2) fun D σ H ⟨Hf, g, sl, r, q⟩ => ⟨Hf, g, sl, r, goS_seq q⟩
theorem dss_one (h1 : DS X Z E Wx st fs) : DSs X Z E Wx [st] fs := pss_one h1
theorem ds_frz (i : Nat) (h : DS X Z E Wx st fs) : DS X Z E Wx st (sFrz i fs) := PS.imp h fun D σ H ⟨Hf, g, sl, r, q⟩ => by
  obtain ⟨Hf', s, r'⟩ := r.frz i
  exact ⟨Hf', g, _, r', goS.later (m := fs (frz1 i sl) g) q s⟩
theorem ds_fgt (vs : List Nat) (h : DS X Z E Wx st fs) : DS X Z E Wx st (sFgt vs fs) := PS.imp h fun D σ H ⟨Hf, g, sl, r, q⟩ => ⟨Hf, g, _, r.fgt vs, q⟩
theorem dss_frz (i : Nat) (h : DSs X Z E Wx sts fs) : DSs X Z E Wx sts (sFrz i fs) := PSs.imp h fun D σ H ⟨Hf, g, sl, r, q⟩ => by
  obtain ⟨Hf', s, r'⟩ := r.frz i
  exact ⟨Hf', g, _, r', goS.later (m := fs (frz1 i sl) g) q s⟩
theorem dss_fgt (vs : List Nat) (h : DSs X Z E Wx sts fs) : DSs X Z E Wx sts (sFgt vs fs) := PSs.imp h fun D σ H ⟨Hf, g, sl, r, q⟩ => ⟨Hf, g, _, r.fgt vs, q⟩
theorem ds_pass : DS X Z E Wx (.Pass pos) sSkip := PS.imp ps_pass fun D σ H ⟨Hf, g, sl, r, q⟩ => q σ H Hf (same_refl _) r
theorem ds_brk : DS X Z E Wx (.Break pos) sBrk := PS.imp ps_break fun D σ H ⟨Hf, g, sl, r, q⟩ => q σ H Hf (same_refl _) r
theorem ds_ct : DS X Z E Wx (.Continue pos) sCt := PS.imp ps_continue fun D σ H ⟨Hf, g, sl, r, q⟩ => q σ H Hf (same_refl _) r
theorem ds_drop (h : DE X Z E Wx e fe) (hs : swapsWith e none pos.line X.env = pure false := by rfl) : DS X Z E Wx (.Expr e pos) (sDrop fe) :=
  PS.imp (ps_expr h hs) fun D σ H ⟨Hf, g, sl, r, q⟩ => ⟨Hf, g, sl, r, (goS_do (Rl := RlD X.K) r q).mono fun v H1 ⟨Hf1, g1, d, b1, r1, d1, q1⟩ => q1 σ H1 Hf1 (same_refl _) r1⟩
theorem ds_ret (h : DE X Z E Wx e fe) : DS X Z E Wx (.Return (some e) pos) (sRet fe) :=
  PS.imp (ps_ret h) fun D σ H ⟨Hf, g, sl, r, q⟩ => ⟨Hf, g, sl, r, (goS_do (Rl := RlD X.K) r q).mono fun v H1 ⟨Hf1, g1, d, b1, r1, d1, q1⟩ => q1 v H1 Hf1 r1.base d1⟩
theorem ds_retN : DS X Z E Wx (.Return none pos) sRetN := PS.imp ps_retN fun D σ H ⟨Hf, g, sl, r, q⟩ => q .non H Hf r.base .non
theorem ds_if {ca cb : List Stmt} (hc : DT X Z E Wx c ft) (ha : DSs X Z E Wx ca fs) (hb : DSs X Z E Wx cb fs') : DS X Z E Wx (.If c ca cb pos) (sIf ft fs fs') := by
  refine PS.imp (ps_if hc ha hb) fun D σ H ⟨Hf, g, sl, r, q⟩ => ⟨Hf, g, sl, r, (goS_do (Rl := RlB) r q).mono fun v H1 ⟨Hf1, g1, k, b1, r1, e1, q1⟩ => ?_⟩
  cases e1
  cases v with
  | true => rw [if_pos rfl] at q1 ⊢; exact ⟨Hf1, g1, sl, r1, q1⟩
  | false => rw [if_neg (by decide)] at q1 ⊢; exact ⟨Hf1, g1, sl, r1, q1⟩
/-- x = e -/
theorem R.set_new {H Hf H1 Hf1 : Hp} {g g1 : Z.W.G} {sl : SL} {σ : St} {x : Slot} {v : V} {i : Nat} (r : R X.K E H Hf g sl σ) (r1 : R X.K E H1 Hf1 g1 sl σ) (h : RlX X.K E H g1 Hf1 H1 v x) : R X.K E H1 Hf1 g1 (sl.set i (some x)) (σ.set i (some v)) := by
  refine r1.set i h.1 fun ox a j y ea ej oy hj z => ?_
  have hn := h.2 ox a ea
  obtain ⟨w, hw, sw⟩ := r.slot j y ej
  rw [z] at hw
  cases hw
  cases y with
  | d _ => cases oy
  | kK _ => cases oy
  | oL _ => obtain ⟨_, _, e, h1, _⟩ := sw; cases e; rw [hn] at h1; cases h1
  | oK _ => obtain ⟨_, _, e, h1, _⟩ := sw; cases e; rw [hn] at h1; cases h1
  | oT _ => obtain ⟨_, _, e, h1, _⟩ := sw; cases e; rw [hn] at h1; cases h1
theorem ds_set {i : Nat} {x : Str} {pos' : Pos} (hN : X.N.Nodup) (hi : X.N[i]? = some x) (hx : Loc X.env.scope x) (he : DX X Z E Wx e fx) (hs : swapsWith e (some (.Name x pos')) pos.line X.env = pure false := by rfl)
    (hf : X.fn x = true ∨ X.env.scope.names.lookup x = some .local := by first | exact .inl rfl | exact .inr rfl | assumption) : DS X Z E Wx (.Assign [.Name x pos'] e pos) (sAsg i fx) :=
  PS.imp (ps_set hN hi hx he hs hf) fun D σ H ⟨Hf, g, sl, r, q⟩ => ⟨Hf, g, sl, r, (goS_do (Rl := RlX X.K E H) r q).mono fun v H1 ⟨Hf1, g1, s, b1, r1, d1, q1⟩ => q1 _ H1 Hf1 (same_refl _) (R.set_new r r1 d1)⟩

/-! ### a, b = x, y -/
theorem goS_dos {α β : Type} {Rl : Z.W.G → Hp → Hp → β → α → Prop} {f : M Z.W.G α} {k : α → SM Z.W.G} {D : Ends} {sl : SL} {σ : St} {H Hf : Hp} {g : Z.W.G} (r : R X.K E H Hf g sl σ) (h : goS Z X.K E Wx Hf (sDo f k sl g) D) :
    go Z Rl Wx σ (f sl g) H Hf g (fun v H1 => ∃ (Hf1 : Hp) (g1 : Z.W.G) (a : α), Base Z.W H Hf g H1 Hf1 g1 ∧ R X.K E H1 Hf1 g1 sl σ ∧ Rl g1 Hf1 H1 v a ∧ goS Z X.K E Wx Hf1 (k a sl g1) D) := goS_do r h
theorem RlX.step {H H1 Hf1 H2 Hf2 : Hp} {g1 g2 : Z.W.G} {v : V} {x : Slot} (b : Base Z.W H1 Hf1 g1 H2 Hf2 g2) (h : RlX X.K E H g1 Hf1 H1 v x) : RlX X.K E H g2 Hf2 H2 v x := ⟨h.1.step b, h.2⟩
theorem ds_par {i j : Nat} {x y : Str} {px py pt : Pos} {kt k2 pt2} (hc : X.calm = true) (hN : X.N.Nodup) (hi : X.N[i]? = some x) (hj : X.N[j]? = some y) (hij : i ≠ j)
    (hx : X.env.scope.names.lookup x = some .local) (hy : X.env.scope.names.lookup y = some .local) (ha : DX X Z E Wx a fx) (hb : DX X Z E Wx b fy)
    (hw : swappedStores [.Tuple [.Name x px, .Name y py] kt pt] (.Tuple [a, b] k2 pt2) X.env = pure (some [x, y]))
    (hs : swapsWithSole [.Tuple [.Name x px, .Name y py] kt pt] (.Tuple [a, b] k2 pt2) pos.line X.env = pure false := by rfl) (h1 : starEach [a, b] X.env = (false, eval a X.env) :: starEach [b] X.env := by rfl) (h2 : starEach [b] X.env = (false, eval b X.env) :: starEach [] X.env := by rfl) :
    DS X Z E Wx (.Assign [.Tuple [.Name x px, .Name y py] kt pt] (.Tuple [a, b] k2 pt2) pos) (sPar i j fx fy) := by
  refine PS.imp (ps_par hc hN hi hj hij hx hy (pa_cons ha (pa_cons hb pa_nil h2) h1) hw hs) fun D σ H ⟨Hf, g, sl, r, q⟩ => ?_
  refine ⟨Hf, g, sl, r, (goS_do (Rl := RlX X.K E H) r q).mono fun v H1 ⟨Hf1, g1, s1, b1, r1, d1, q1⟩ => ⟨Hf1, g1, sl, r1, (goS_do (Rl := RlX X.K E H1) r1 q1).mono fun w H2 ⟨Hf2, g2, s2, b2, r2, d2, q2⟩ => ?_⟩⟩
  refine ⟨v, w, rfl, ?_⟩
  have rA := R.set_new (X := X) (i := i) r r1 d1
  exact q2 _ H2 Hf2 (same_refl _) (R.set_new (X := X) (i := j) rA (rA.step b2) d2)
theorem ds_par3 {d : Expr} {i j l : Nat} {x y z : Str} {px py pz pt : Pos} {kt k2 pt2} (hc : X.calm = true) (hN : X.N.Nodup) (hi : X.N[i]? = some x) (hj : X.N[j]? = some y) (hl : X.N[l]? = some z) (hij : i ≠ j) (hil : i ≠ l) (hjl : j ≠ l)
    (hx : X.env.scope.names.lookup x = some .local) (hy : X.env.scope.names.lookup y = some .local) (hz : X.env.scope.names.lookup z = some .local) (ha : DX X Z E Wx a fx) (hb : DX X Z E Wx b fy) (hd : DX X Z E Wx d fz)
    (hw : swappedStores [.Tuple [.Name x px, .Name y py, .Name z pz] kt pt] (.Tuple [a, b, d] k2 pt2) X.env = pure (some [x, y, z]))
    (hs : swapsWithSole [.Tuple [.Name x px, .Name y py, .Name z pz] kt pt] (.Tuple [a, b, d] k2 pt2) pos.line X.env = pure false := by rfl) (h1 : starEach [a, b, d] X.env = (false, eval a X.env) :: starEach [b, d] X.env := by rfl)
    (h2 : starEach [b, d] X.env = (false, eval b X.env) :: starEach [d] X.env := by rfl) (h3 : starEach [d] X.env = (false, eval d X.env) :: starEach [] X.env := by rfl) :
    DS X Z E Wx (.Assign [.Tuple [.Name x px, .Name y py, .Name z pz] kt pt] (.Tuple [a, b, d] k2 pt2) pos) (sPar3 i j l fx fy fz) := by
  refine PS.imp (ps_par3 hc hN hi hj hl hij hil hjl hx hy hz (pa_cons ha (pa_cons hb (pa_cons hd pa_nil h3) h2) h1) hw hs) fun D σ H ⟨Hf, g, sl, r, q⟩ => ?_
  refine ⟨Hf, g, sl, r, (goS_do (Rl := RlX X.K E H) r q).mono fun v H1 ⟨Hf1, g1, s1, b1, r1, d1, q1⟩ => ⟨Hf1, g1, sl, r1, (goS_do (Rl := RlX X.K E H1) r1 q1).mono fun w H2 ⟨Hf2, g2, s2, b2, r2, d2, q2⟩ =>
    ⟨Hf2, g2, sl, r2, (goS_do (Rl := RlX X.K E H2) r2 q2).mono fun u H3 ⟨Hf3, g3, s3, b3, r3, d3, q3⟩ => ?_⟩⟩⟩
  refine ⟨v, w, u, rfl, ?_⟩
  have rA := R.set_new (X := X) (i := i) r r1 d1
  have rB := R.set_new (X := X) (i := j) rA (rA.step b2) d2
  exact q3 _ H3 Hf3 (same_refl _) (R.set_new (X := X) (i := l) rB (rB.step b3) d3)

end
end DL
namespace DL
open PySem L2

/-! ### targets -/
theorem wipe_out1 {σ : St} {i : Nat} {x : Option V} : ∀ {vs : List Nat}, i ∉ vs → L2.wipe (σ.set i x) vs = (L2.wipe σ vs).set i x
  | [], _ => rfl
  | v :: vs, h => by
    have hv : v ≠ i := fun e => h (by rw [e]; exact List.mem_cons_self)
    show (L2.wipe (σ.set i x) vs).set v none = ((L2.wipe σ vs).set v none).set i x
    rw [wipe_out1 (fun m => h (List.mem_cons_of_mem _ m)), List.set_comm _ _ (Ne.symm hv)]
theorem wipe_in {σ : St} {i : Nat} {x : Option V} : ∀ {vs : List Nat}, i ∈ vs → L2.wipe (σ.set i x) vs = L2.wipe σ vs
  | v :: vs, h => by
    show (L2.wipe (σ.set i x) vs).set v none = (L2.wipe σ vs).set v none
    by_cases hm : i ∈ vs
    · rw [wipe_in hm]
    · have e : i = v := by
        rcases List.mem_cons.mp h with e | e
        · exact e
        · exact absurd e hm
      subst e
      rw [wipe_out1 hm, List.set_set]
theorem wipe_wipe {σ : St} : ∀ {vs ws : List Nat}, (∀ i ∈ vs, i ∈ ws) → L2.wipe (L2.wipe σ vs) ws = L2.wipe σ ws
  | [], ws, _ => rfl
  | v :: vs, ws, h => by
    show L2.wipe ((L2.wipe σ vs).set v none) ws = L2.wipe σ ws
    rw [wipe_in (h v List.mem_cons_self), wipe_wipe fun i hi => h i (List.mem_cons_of_mem _ hi)]
/-- a target: the data given to it, the slots behind it; ixs: the slots that it changes -/
def TgOk (K : PySem.W.Frag) (u : TG) (ixs : List Nat) (t : Tg) : Prop := ∀ (Z : Cn) (E : Ent Z.W) (H Hf : Hp) (g : Z.W.G) (sl sl' : SL) (σ : St) (v : V) (d : D) (Q : St → Hp → Prop), R K E H Hf g sl σ → Dv K Hf v d → t d sl = some sl' →
  (∀ σ', R K E H Hf g sl' σ' → (∀ vs : List Nat, (∀ i ∈ ixs, i ∈ vs) → L2.wipe σ' vs = L2.wipe σ vs) → Q σ' H) → u v σ H Q
structure DG (X : Cx) (tg : Expr) (u : TG) (ixs : List Nat) (t : Tg) : Prop where
  pg : PG X tg u
  ok : TgOk X.K u ixs t
section
variable {X : Cx} {pos : Pos}
theorem R.setd {Z : Cn} {K : PySem.W.Frag} {E : Ent Z.W} {H Hf : Hp} {g : Z.W.G} {sl : SL} {σ : St} (r : R K E H Hf g sl σ) (i : Nat) {v : V} {d : D} (h : Dv K Hf v d) : R K E H Hf g (sl.set i (some (.d d))) (σ.set i (some v)) :=
  r.set i (x := .d d) h fun z => by cases z
theorem tgok1 {K : PySem.W.Frag} (i : Nat) : TgOk K (gName i) [i] (tg1 i) := by
  intro Z E H Hf g sl sl' σ v d Q r dv e k
  cases e
  exact k _ (r.setd i dv) fun vs h => wipe_in (h i (by simp))
theorem tgok2 {K : PySem.W.Frag} (i j : Nat) : TgOk K (gTup K 2 (gCons (gName i) (gCons (gName j) gNil))) [i, j] (tg2 i j) := by
  intro Z E H Hf g sl sl' σ v d Q r dv e k
  match d, e, dv with
  | .tup [a, b], e, dv =>
    cases e
    cases dv with
    | tup h1 h2 =>
      cases h2 with
      | cons ha h2 =>
        cases h2 with
        | cons hb h2 =>
          cases h2
          exact ⟨_, _, rfl, .inl (r.base.rd h1), rfl, _, _, rfl, _, _, rfl, rfl, k _ ((r.setd i ha).setd j hb) fun vs h => by rw [wipe_in (h j (by simp)), wipe_in (h i (by simp))]⟩
theorem dg_name {i : Nat} {x : Str} (hN : X.N.Nodup) (hi : X.N[i]? = some x) (hx : Loc X.env.scope x) (hf : X.fn x = true ∨ X.env.scope.names.lookup x = some .local := by first | exact .inl rfl | exact .inr rfl | assumption) : DG X (.Name x pos) (gName i) [i] (tg1 i) := by
  refine ⟨pg_name hN hi hx hf, fun Z E H Hf g sl sl' σ v d Q r dv e k => ?_⟩
  cases e
  exact k _ (r.setd i dv) fun vs h => wipe_in (h i (by simp))
theorem dg_tup2 {i j : Nat} {x y : Str} {k : Nat} {p1 p2 : Pos} (hc : X.calm = true) (hN : X.N.Nodup) (hi : X.N[i]? = some x) (hx : Loc X.env.scope x) (hj : X.N[j]? = some y) (hy : Loc X.env.scope y)
    (hf : X.fn x = true ∨ X.env.scope.names.lookup x = some .local := by first | exact .inl rfl | exact .inr rfl | assumption) (hf2 : X.fn y = true ∨ X.env.scope.names.lookup y = some .local := by first | exact .inl rfl | exact .inr rfl | assumption)
    (hn : (assignEach [.Name x p1, .Name y p2] X.env).length = 2 := by rfl) (hst : (assignEach [.Name x p1, .Name y p2] X.env).findIdx? (·.1) = none := by rfl)
    (hs : (assignEach [.Name x p1, .Name y p2] X.env).map (·.2) = assign (.Name x p1) X.env :: (assignEach [.Name y p2] X.env).map (·.2) := by rfl) (hs2 : (assignEach [.Name y p2] X.env).map (·.2) = assign (.Name y p2) X.env :: (assignEach [] X.env).map (·.2) := by rfl) :
    DG X (.Tuple [.Name x p1, .Name y p2] k pos) (gTup X.K 2 (gCons (gName i) (gCons (gName j) gNil))) [i, j] (tg2 i j) := by
  refine ⟨pg_tup hc (pgs_cons (pg_name hN hi hx hf) (pgs_cons (pg_name hN hj hy hf2) pgs_nil hs2) hs) hn hst, fun Z E H Hf g sl sl' σ v d Q r dv e k => ?_⟩
  match d, e, dv with
  | .tup [a, b], e, dv =>
    cases e
    cases dv with
    | tup h1 h2 =>
      cases h2 with
      | cons ha h2 =>
        cases h2 with
        | cons hb h2 =>
          cases h2
          exact ⟨_, _, rfl, .inl (r.base.rd h1), rfl, _, _, rfl, _, _, rfl, rfl, k _ ((r.setd i ha).setd j hb) fun vs h => by rw [wipe_in (h j (by simp)), wipe_in (h i (by simp))]⟩
theorem dg_tup3 {i j l : Nat} {x y z : Str} {k : Nat} {p1 p2 p3 : Pos} (hc : X.calm = true) (hN : X.N.Nodup) (hi : X.N[i]? = some x) (hx : Loc X.env.scope x) (hj : X.N[j]? = some y) (hy : Loc X.env.scope y) (hl : X.N[l]? = some z) (hz : Loc X.env.scope z)
    (hf : X.fn x = true ∨ X.env.scope.names.lookup x = some .local := by first | exact .inl rfl | exact .inr rfl | assumption) (hf2 : X.fn y = true ∨ X.env.scope.names.lookup y = some .local := by first | exact .inl rfl | exact .inr rfl | assumption)
    (hf3 : X.fn z = true ∨ X.env.scope.names.lookup z = some .local := by first | exact .inl rfl | exact .inr rfl | assumption)
    (hn : (assignEach [.Name x p1, .Name y p2, .Name z p3] X.env).length = 3 := by rfl) (hst : (assignEach [.Name x p1, .Name y p2, .Name z p3] X.env).findIdx? (·.1) = none := by rfl)
    (hs : (assignEach [.Name x p1, .Name y p2, .Name z p3] X.env).map (·.2) = assign (.Name x p1) X.env :: (assignEach [.Name y p2, .Name z p3] X.env).map (·.2) := by rfl) (hs2 : (assignEach [.Name y p2, .Name z p3] X.env).map (·.2) = assign (.Name y p2) X.env :: (assignEach [.Name z p3] X.env).map (·.2) := by rfl)
    (hs3 : (assignEach [.Name z p3] X.env).map (·.2) = assign (.Name z p3) X.env :: (assignEach [] X.env).map (·.2) := by rfl) :
    DG X (.Tuple [.Name x p1, .Name y p2, .Name z p3] k pos) (gTup X.K 3 (gCons (gName i) (gCons (gName j) (gCons (gName l) gNil)))) [i, j, l] (tg3 i j l) := by
  refine ⟨pg_tup hc (pgs_cons (pg_name hN hi hx hf) (pgs_cons (pg_name hN hj hy hf2) (pgs_cons (pg_name hN hl hz hf3) pgs_nil hs3) hs2) hs) hn hst, fun Z E H Hf g sl sl' σ v d Q r dv e k => ?_⟩
  match d, e, dv with
  | .tup [a, b, c], e, dv =>
    cases e
    cases dv with
    | tup h1 h2 =>
      cases h2 with
      | cons ha h2 =>
        cases h2 with
        | cons hb h2 =>
          cases h2 with
          | cons hc h2 =>
            cases h2
            exact ⟨_, _, rfl, .inl (r.base.rd h1), rfl, _, _, rfl, _, _, rfl, _, _, rfl, rfl, k _ (((r.setd i ha).setd j hb).setd l hc) fun vs h => by rw [wipe_in (h l (by simp)), wipe_in (h j (by simp)), wipe_in (h i (by simp))]⟩
end

/-! ### what is walked -/
/-- how a turn's item lies to the data: as it stands, or in a new tuple -/
def YD (K : PySem.W.Frag) (Hf0 : Hp) (ds : List D) : Nat → Hp → V → Hp → Prop := fun i H x H' => ∃ d, ds[i]? = some d ∧ ((H' = H ∧ Dv K Hf0 x d) ∨ ∃ (T : Addr) (vs : List V) (es : List D), x = .ref T ∧ H T = none ∧ H' = upd H T (.tup vs) ∧ d = .tup es ∧ DvAll K Hf0 vs es)
abbrev WalkD (K : PySem.W.Frag) (J : It) (ds : List D) (Hf0 : Hp) : Prop := Walk J ds.length (fun H => Same Hf0 H) (YD K Hf0 ds)
def tI (Z : Cn) (K : PySem.W.Frag) (E : Ent Z.W) (Wx : WX) (f : M Z.W.G (List D)) : TI := fun σ H Rk => ∃ (Hf : Hp) (g : Z.W.G) (sl : SL), R K E H Hf g sl σ ∧ go Z (fun _ Hf' _ J ds => WalkD K J ds Hf') Wx σ (f sl g) H Hf g Rk
def DI (X : Cx) (Z : Cn) (E : Ent Z.W) (Wx : WX) (tg iter : Expr) (f : M Z.W.G (List D)) : Prop := PI X tg iter (tI Z X.K E Wx f)
theorem PI.imp {X : Cx} {tg iter : Expr} {t t' : TI} (h : PI X tg iter t) (k : ∀ σ H Q, t' σ H Q → t σ H Q) : PI X tg iter t' := ⟨fun pins s σ H Rk I q => h.run pins s σ H Rk I (k σ H Rk q)⟩
/-- behind a turn -/
theorem YD.run {W : Wd} {K : PySem.W.Frag} {Hf0 H Hf H' : Hp} {g : W.G} {ds : List D} {i : Nat} {x : V} (b : Base W H Hf g H Hf g) (s : Same Hf0 Hf) (y : YD K Hf0 ds i H x H') : ∃ d Hf', ds[i]? = some d ∧ Base W H Hf g H' Hf' g ∧ Dv K Hf' x d := by
  obtain ⟨d, e, ⟨rfl, h⟩ | ⟨T, vs, es, rfl, hT, rfl, rfl, h⟩⟩ := y
  · exact ⟨d, Hf, e, b, Dv.mono s d h⟩
  · exact ⟨_, upd Hf T (.tup vs), e, b.alloc _ hT, .tup (.inl upd_same) (DvAll.mono (Same.tr s (same_new (b.hn hT))) es h)⟩

section
variable {X : Cx} {Z : Cn} {E : Ent Z.W} {Wx : WX} {e a b c tg : Expr} {pos p : Pos} {fe fa fb fc : M Z.W.G D} {ft fu : M Z.W.G Bool} {fs fs' : SM Z.W.G}
theorem ds_for {iter : Expr} {body : List Stmt} {fi : M Z.W.G (List D)} {u : TG} {ixs : List Nat} {t : Tg} {vs : List Nat} (hp : PassesOwn (model X.prog X.w) X.A X.env X.xe) (hc : X.calm = true) (hi : DI X Z E Wx tg iter fi) (hg : DG X tg u ixs t) (hb : DSs X Z E Wx body fs)
    (hs : ∀ x, foldedSetIterable iter X.env x = pure x := by intro _; rfl) : DS X Z E Wx (.For tg iter body [] pos) (sFor fi t vs fs) := by
  obtain ⟨pg, kg⟩ := hg
  refine PS.imp (ps_for hp hc hi pg hb hs) fun D σ H ⟨Hf, g, sl, r, q⟩ => ?_
  refine ⟨Hf, g, sl, r, (goS_do (Rl := fun _ Hf' _ J ds => WalkD X.K J ds Hf') r q).mono fun J H1 ⟨Hf1, g1, ds, b1, r1, wk, q1⟩ => ?_⟩
  refine for_it wk (fun i σ H => ∃ (Hf2 : Hp) (g2 : Z.W.G) (sl2 : SL), Same Hf1 Hf2 ∧ R X.K E H Hf2 g2 sl2 σ ∧ goS Z X.K E Wx Hf2 (forL t fs vs (ds.drop i) sl2 g2) D) ⟨Hf1, g1, sl, same_refl _, r1, q1⟩ ?_ ?_ ?_
  · rintro i σ H _ ⟨Hf2, g2, sl2, s2, r2, q2⟩
    exact Same.tr s2 r2.base.fh
  · rintro i x σ H H' hi ⟨Hf2, g2, sl2, s2, r2, q2⟩ y
    obtain ⟨d, Hf3, ed, b3, dv⟩ := y.run r2.base.self s2
    have ed' : ds.drop i = d :: ds.drop (i + 1) := by
      obtain ⟨hlt, ee⟩ := List.getElem?_eq_some_iff.mp ed
      rw [List.drop_eq_getElem_cons hlt, ee]
    rw [ed'] at q2
    unfold forL at q2
    have r3 := r2.step b3
    match et : t d sl2 with
    | none => rw [et] at q2; exact q2.elim
    | some sl3 =>
      rw [et] at q2
      refine kg Z E H' Hf3 g2 sl2 sl3 σ x d _ r3 dv et fun σ' r4 _ => ⟨Hf3, g2, sl3, r4, ?_⟩
      simp only at q2
      match eb : fs sl3 g2 with
      | none => rw [eb] at q2; exact q2.elim
      | some (.nx, sl4, g4) =>
        rw [eb] at q2
        exact fun σ5 H5 Hf5 s5 r5 => ⟨Hf5, g4, _, Same.tr s2 (Same.tr b3.ff s5), r5.fgt vs, goS.later (m := forL t fs vs (ds.drop (i + 1)) (wipeS sl4 vs) g4) q2 (Same.tr b3.ff s5)⟩
      | some (.ct, sl4, g4) =>
        rw [eb] at q2
        exact fun σ5 H5 Hf5 s5 r5 => ⟨Hf5, g4, _, Same.tr s2 (Same.tr b3.ff s5), r5.fgt vs, goS.later (m := forL t fs vs (ds.drop (i + 1)) (wipeS sl4 vs) g4) q2 (Same.tr b3.ff s5)⟩
      | some (.bk, sl4, g4) =>
        rw [eb] at q2
        exact fun σ5 H5 Hf5 s5 r5 => q2 σ5 H5 Hf5 (Same.tr b3.ff s5) r5
      | some (.rt d, sl4, g4) => rw [eb] at q2; exact q2
      | some (.ex d, sl4, g4) => rw [eb] at q2; exact q2
  · rintro σ H ⟨Hf2, g2, sl2, s2, r2, q2⟩
    rw [List.drop_length] at q2
    exact q2 σ H Hf2 (same_refl _) r2
theorem ds_while {body : List Stmt} {vs : List Nat} (n : Nat) (hp : PassesOwn (model X.prog X.w) X.A X.env X.xe) (hc : DT X Z E Wx c ft) (hb : DSs X Z E Wx body fs) : DS X Z E Wx (.While c body [] pos) (sWhile ft vs fs n) := by
  refine PS.imp (ps_while hp hc hb) fun D σ H ⟨Hf, g, sl, r, q⟩ => ?_
  refine ⟨fun m σ H => ∃ (Hf2 : Hp) (g2 : Z.W.G) (sl2 : SL), R X.K E H Hf2 g2 sl2 σ ∧ goS Z X.K E Wx Hf2 (sWhile ft vs fs m sl2 g2) D, ⟨n, Hf, g, sl, r, q⟩, ?_⟩
  rintro m σ H ⟨Hf2, g2, sl2, r2, q2⟩
  cases m with
  | zero => exact q2.elim
  | succ m =>
    unfold sWhile at q2
    refine ⟨Hf2, g2, sl2, r2, (goS_do (Rl := RlB) r2 q2).mono fun v H1 ⟨Hf1, g1, k, b1, r1, e1, q1⟩ => ?_⟩
    cases e1
    cases v with
    | false =>
      rw [if_neg (by decide)] at q1 ⊢
      exact q1 σ H1 Hf1 (same_refl _) r1
    | true =>
      rw [if_pos rfl] at q1 ⊢
      refine ⟨fun σ H => ∃ (Hf2 : Hp) (g2 : Z.W.G) (sl2 : SL), R X.K E H Hf2 g2 sl2 σ ∧ goS Z X.K E Wx Hf2 (sWhile ft vs fs m sl2 g2) D, fun σ' H' z => ⟨m, Nat.lt_succ_self _, z⟩, Hf1, g1, sl2, r1, ?_⟩
      match eb : fs sl2 g1 with
      | none => rw [eb] at q1; exact q1.elim
      | some (.nx, sl4, g4) =>
        rw [eb] at q1
        exact fun σ5 H5 Hf5 s5 r5 => ⟨Hf5, g4, _, r5.fgt vs, goS.later (m := sWhile ft vs fs m (wipeS sl4 vs) g4) q1 s5⟩
      | some (.ct, sl4, g4) =>
        rw [eb] at q1
        exact fun σ5 H5 Hf5 s5 r5 => ⟨Hf5, g4, _, r5.fgt vs, goS.later (m := sWhile ft vs fs m (wipeS sl4 vs) g4) q1 s5⟩
      | some (.bk, sl4, g4) =>
        rw [eb] at q1
        exact q1
      | some (.rt d, sl4, g4) => rw [eb] at q1; exact q1
      | some (.ex d, sl4, g4) => rw [eb] at q1; exact q1

/-! iterables -/
def asSeq : D → Option (List D)
  | .lst xs => some xs
  | .tup xs => some xs
  | .str s => some (s.map fun c => .str [c])
  | _ => none
def iSeq {G : Type} (f : M G D) : M G (List D) := M.bind f fun d => M.lift (asSeq d)
def asT : D → Option (List D)
  | .tup xs => some xs
  | _ => none
theorem walk_dl {K : PySem.W.Frag} {a : Addr} {xs : List V} {ds : List D} {Hf : Hp} (h : Hf a = some (.lst xs)) (d : DvAll K Hf xs ds) : WalkD K (Itl K a) ds Hf := by
  unfold WalkD
  rw [← d.len]
  refine (walk_list (xs := xs)).mono (fun H s => SqL.of (s _ _ h)) fun i H x H' _ _ y => ?_
  obtain ⟨d', e1, e2⟩ := d.get y.2
  exact ⟨d', e1, .inl ⟨y.1, e2⟩⟩
theorem walk_dt {K : PySem.W.Frag} {a : Addr} {xs : List V} {ds : List D} {Hf : Hp} (h : Rd Hf a (.tup xs)) (d : DvAll K Hf xs ds) : WalkD K (Itt K a) ds Hf := by
  unfold WalkD
  rw [← d.len]
  refine (walk_tup (xs := xs)).mono (fun H s => .inl (Same.rd s h)) fun i H x H' _ _ y => ?_
  obtain ⟨d', e1, e2⟩ := d.get y.2
  exact ⟨d', e1, .inl ⟨y.1, e2⟩⟩
theorem walk_ds {K : PySem.W.Frag} {s : List Nat} {Hf : Hp} (ok : okS s) : WalkD K (Its (mkS s)) (s.map fun c => D.str [c]) Hf := by
  unfold WalkD
  have hn : (s.map fun c => D.str [c]).length = (mkS s).cps.size := by simp [mkS]
  rw [hn]
  refine (walk_str (z := mkS s)).mono (fun H s => True.intro) fun i H x H' _ _ y => ?_
  obtain ⟨e, c, h1, rfl⟩ := y
  have h2 : s[i]? = some c := by simpa [mkS] using h1
  refine ⟨.str [c], by simp [h2], .inl ⟨e, .str [c] (okS_sub ok ?_ fun x hx => ?_)⟩⟩
  · have := (List.getElem?_eq_some_iff.mp h2).1
    simp; omega
  · simp at hx; subst hx; exact List.mem_of_getElem? h2
/-- a list, a tuple or a text: three rules, one for each (the text of the program tells which) -/
def iL {G : Type} (f : M G D) : M G (List D) := M.bind f fun d => M.lift (asL d)
def iT {G : Type} (f : M G D) : M G (List D) := M.bind f fun d => M.lift (asT d)
def asS : D → Option (List Nat)
  | .str s => some s
  | _ => none
def iS {G : Type} (f : M G D) : M G (List D) := M.bind f fun d => M.bind (M.lift (asS d)) fun s => M.pure (s.map fun c => .str [c])
theorem di_list (h : DE X Z E Wx e fe) : DI X Z E Wx tg e (iL fe) := by
  refine PI.imp (pi_list h) fun σ H Rk ⟨Hf, g, sl, r, q⟩ => ⟨Hf, g, sl, r, (go_bind (Rm := RlD X.K) q).mono fun v H1 ⟨Hf1, g1, d, b1, d1, q1⟩ => ?_⟩
  obtain ⟨xs, ex, k⟩ := go_lift q1
  obtain rfl := asL_some ex
  cases d1 with
  | lst h1 h2 => exact ⟨_, rfl, ⟨_, SqL.of (b1.fh _ _ h1)⟩, k _ _ _ b1.self (walk_dl h1 h2)⟩
theorem di_tup (h : DE X Z E Wx e fe) : DI X Z E Wx tg e (iT fe) := by
  refine PI.imp (pi_tup h) fun σ H Rk ⟨Hf, g, sl, r, q⟩ => ⟨Hf, g, sl, r, (go_bind (Rm := RlD X.K) q).mono fun v H1 ⟨Hf1, g1, d, b1, d1, q1⟩ => ?_⟩
  obtain ⟨xs, ex, k⟩ := go_lift q1
  match d, ex, d1 with
  | .tup ds, ex, d1 =>
    cases ex
    cases d1 with
    | tup h1 h2 => exact ⟨_, rfl, ⟨_, (.inl (b1.rd h1))⟩, k _ _ _ b1.self (walk_dt h1 h2)⟩
theorem di_str (h : DE X Z E Wx e fe) : DI X Z E Wx tg e (iS fe) := by
  refine PI.imp (pi_str h) fun σ H Rk ⟨Hf, g, sl, r, q⟩ => ⟨Hf, g, sl, r, (go_bind (Rm := RlD X.K) q).mono fun v H1 ⟨Hf1, g1, d, b1, d1, q1⟩ => ?_⟩
  obtain ⟨s, es, q2⟩ := go_bl q1
  match d, es, d1 with
  | .str s, es, d1 =>
    cases es
    cases d1 with
    | str _ ok => exact ⟨mkS s, rfl, q2 _ _ _ b1.self (walk_ds ok)⟩
/-- range(n), range(a, b) -/
def rgD (lo hi : Int) : List D := (List.range (hi - lo).toNat).map fun i => .int (lo + (i : Nat))
def rgOk (lo hi : Int) : Bool := decide (-(2 ^ 62) ≤ lo) && decide (lo < 2 ^ 62) && decide (-(2 ^ 62) ≤ hi) && decide (hi < 2 ^ 62)
def iR1 {G : Type} (f : M G D) : M G (List D) := M.bind f fun d => M.bind (M.lift (asI d)) fun n => M.lift (if rgOk 0 n then some (rgD 0 n) else none)
def iR2 {G : Type} (f h : M G D) : M G (List D) := M.bind f fun d => M.bind h fun e => M.bind (M.lift (asI d)) fun n => M.bind (M.lift (asI e)) fun m => M.lift (if rgOk n m then some (rgD n m) else none)
theorem walk_dr {K : PySem.W.Frag} {lo hi : Int} {Hf : Hp} : WalkD K (Itr lo (hi - lo).toNat) (rgD lo hi) Hf := by
  unfold WalkD
  have hn : (rgD lo hi).length = (hi - lo).toNat := by simp [rgD]
  rw [hn]
  refine (walk_range (lo := lo)).mono (fun H s => True.intro) fun i H x H' hi _ y => ?_
  obtain ⟨e, rfl⟩ := y
  exact ⟨.int (lo + i), by simp [rgD, hi], .inl ⟨e, .int _⟩⟩
theorem di_range1 (hg : Gl X "range") (hm : X.mg "range" = none) (ha : DE X Z E Wx a fa) (hs : starEach [a] X.env = [(false, eval a X.env)] := by rfl) : DI X Z E Wx tg (.Call (.Name "range" p) [a] [] pos) (iR1 fa) := by
  refine PI.imp (pi_range1 hg hm (pa_cons ha pa_nil hs) hs) fun σ H Rk ⟨Hf, g, sl, r, q⟩ => ⟨Hf, g, sl, r, (go_bind (Rm := RlD X.K) q).mono fun v H1 ⟨Hf1, g1, d, b1, d1, q1⟩ => ?_⟩
  obtain ⟨n, en, q2⟩ := go_bl q1
  obtain rfl := asI_some en
  cases d1
  obtain ⟨xs, ex, k⟩ := go_lift q2
  split at ex
  · rename_i hc
    cases ex
    simp only [rgOk, Bool.and_eq_true, decide_eq_true_eq] at hc
    refine ⟨n, rfl, hc.1.2, hc.2, ?_⟩
    have := k _ _ _ b1.self (walk_dr (K := X.K) (lo := 0) (hi := n) (Hf := Hf1))
    rw [show (n - 0) = n by omega] at this
    exact this
  · cases ex
theorem di_range2 (hg : Gl X "range") (hm : X.mg "range" = none) (ha : DE X Z E Wx a fa) (hb : DE X Z E Wx b fb) (hs : starEach [a, b] X.env = [(false, eval a X.env), (false, eval b X.env)] := by rfl) (hs2 : starEach [b] X.env = [(false, eval b X.env)] := by rfl) :
    DI X Z E Wx tg (.Call (.Name "range" p) [a, b] [] pos) (iR2 fa fb) := by
  refine PI.imp (pi_range2 hg hm (pa_cons ha (pa_cons hb pa_nil hs2) (hs.trans (by rw [hs2]))) hs hs2) fun σ H Rk ⟨Hf, g, sl, r, q⟩ => ⟨Hf, g, sl, r, (go_bind (Rm := RlD X.K) q).mono fun v H1 ⟨Hf1, g1, d, b1, d1, q1⟩ =>
    ⟨Hf1, g1, sl, r.step b1, (go_bind (Rm := RlD X.K) q1).mono fun w H2 ⟨Hf2, g2, d', b2, d2, q2⟩ => ?_⟩⟩
  obtain ⟨n, en, q3⟩ := go_bl q2
  obtain ⟨m, em, q4⟩ := go_bl q3
  obtain rfl := asI_some en
  obtain rfl := asI_some em
  cases d1
  cases d2
  obtain ⟨xs, ex, k⟩ := go_lift q4
  split at ex
  · rename_i hc
    cases ex
    simp only [rgOk, Bool.and_eq_true, decide_eq_true_eq] at hc
    exact ⟨n, m, rfl, ⟨hc.1.1.1, hc.1.1.2, hc.1.2, hc.2⟩, k _ _ _ b2.self walk_dr⟩
  · cases ex
end
end DL
namespace L2
open PySem PySem.Spec PyProof.Rows
/-! ### enumerate(tuple), enumerate(text), zip(text, text) -/
def IeT (K : PySem.W.Frag) (a : Addr) : It :=
  ⟨fun i H => ∃ (xs : List V) (x : V), SqT K H a xs ∧ xs[i]? = some x, fun i H v H' => ∃ T x, v = .ref T ∧ H T = none ∧ H' = upd H T (.tup [.int (i : Nat), x]) ∧ ∀ xs, SqT K H a xs → xs[i]? = some x, fun i H => ∃ xs : List V, SqT K H a xs ∧ xs.length = i⟩
theorem turn_enumT {P : Program} {w : World} {K : PySem.W.Frag} {elts : List Expr} {kk : Nat} {tpos : Pos} (a e it : Addr) :
    Turn P w K (.Tuple elts kk tpos) (IeT K a) [e, it] e (fun i h => (∃ old, IsEnum h e it ((i : Nat) : Int) old) ∧ h.IsTupleIter it a i ∧ e ≠ it ∧ a ≠ it ∧ a ≠ e) where
  mem := by simp
  obj := fun i h st b hb => by
    obtain ⟨⟨old, he⟩, ⟨o, ho, hc, hd⟩, _⟩ := st
    have e' : b = e ∨ b = it := by simpa using hb
    rcases e' with z | z
    · rw [z]; exact ⟨_, he, fun v q => nomatch q⟩
    · rw [z]; exact ⟨o, ho, fun v q => by rw [hd] at q; cases q⟩
  keep := fun i h h' st k => let ⟨⟨old, he⟩, hi, hne⟩ := st; ⟨⟨old, k e (by simp) _ he⟩, hi.at fun o q => k it (by simp) o q, hne⟩
  item := by
    intro X hP hw hK hc i pins s σ H E I hf st hg
    subst hP hw hK
    obtain ⟨⟨old, he⟩, hit, hne, hna, hnb⟩ := st
    obtain ⟨xs, x, hq, hx⟩ := hg
    obtain ⟨its, rv, p, hz⟩ := I.tuple hq
    have hel : e < s.heap.objs.size := Heap.lt_size he
    have hil : it < s.heap.objs.size := by obtain ⟨_, q, _⟩ := hit; exact Heap.lt_size q
    have hlt : i < its.toArray.size := by
      have := (List.getElem?_eq_some_iff.mp hx).1
      rw [List.size_toArray, ← rv.length]; exact this
    refine wpAny_pyNext_enum_itemD (Draws.tuple (show X.A.in1.handled = none from I.ok.hd hc) it a hna its.toArray) he ⟨hit, p⟩ hlt hne (by simp; exact ⟨hne, fun z => hnb z.symm⟩) fun u h' tk hu ho hst' hT hsz hk => ?_
    have hu' : its[i]? = some u := by simpa using hu
    obtain ⟨u2, hu2, ru⟩ := rv.get hx
    rw [hu'] at hu2
    cases hu2
    refine ⟨_, rfl, wpAny_letOwnedTupleGo_enum (s := { s with heap := h', toks := tk + 1 }) ho fun h'' he' sb => ?_⟩
    have hT2 : h''.get? s.heap.objs.size = some { cls := .type "tuple", data := .seq #[.int i tk, u] } := (sb.2 _ (Nat.ne_of_gt hel)).trans hT
    have new : ObjOk X.prog X.w (upd H s.heap.objs.size (.tup [.int (i : Nat), x])) h'' s.heap.objs.size (.tup [.int (i : Nat), x]) :=
      ⟨by show 2 ≤ sizeLine; decide, [.int i tk, u], .cons ⟨_, rfl⟩ (.cons ru .nil), ⟨_, hT2, rfl, _, rfl⟩⟩
    have I1 : Inv X pins σ (upd H s.heap.objs.size (.tup [.int (i : Nat), x])) { s with heap := h'', toks := tk + 1 } :=
      I.turnedNew (ch := [e, it]) (fun b ob hb q => (sb.2 b (fun z => hb (by simp [z]))).trans (hk b ob (fun z => hb (by simp [z])) (fun z => hb (by simp [z])) q)) hf (Nat.le_refl _) new
    refine ⟨.ref s.heap.objs.size, _, I1, rfl, ⟨_, x, rfl, I.hok.fresh (Nat.le_refl _), rfl, fun ys hy => by rw [I.tuple_inj hy hq]; exact hx⟩, ⟨⟨u, ?_⟩, hst'.1.at fun o q => (sb.2 it (Ne.symm hne)).trans q, hne, hna, hnb⟩, fun b hb => ?_⟩
    · have e1 : ((i + 1 : Nat) : Int) = (i : Int) + 1 := by omega
      rw [e1]; exact he'
    · have hb' : b < s.heap.objs.size := by
        have e' : b = e ∨ b = it := by simpa using hb
        rcases e' with z | z
        · rw [z]; exact hel
        · rw [z]; exact hil
      rw [upd_ne (Nat.ne_of_lt hb')]
      exact (hf b hb).1
  done := by
    intro X hP hw hK hc i pins s σ H E I hf st hg
    subst hP hw hK
    obtain ⟨⟨old, he⟩, hit, hne, hna, hnb⟩ := st
    obtain ⟨xs, hq, hx⟩ := hg
    obtain ⟨its, rv, p, hz⟩ := I.tuple hq
    obtain ⟨f0, f1, f2, f3, f4, f5⟩ := hf it (by simp)
    have hl := rv.length
    have hn : its.toArray.size = i := by rw [List.size_toArray]; omega
    exact wpAny_pyNext_enum_endD (Draws.tuple (show X.A.in1.handled = none from I.ok.hd hc) it a hna its.toArray) he ⟨by rw [hn]; exact hit, p⟩ fun h' eb => ⟨rfl, I.turned (t' := s.toks) (fun b o hb q => eb b o hb q) f0 f1 f3 f4 f5⟩
  self := fun A i s Q E st h => let ⟨⟨_, he⟩, _⟩ := st; wpAny_pyIter_enum he h
/-- enumerate's making, of any thing that begins -/
theorem meets_enum1B {v : Value} {o : Obj} {Hh : Heap → Prop} (B : Begins v o Hh) :
    Meets (Builtin.«enumerate.__new__» ⟨[.type "enumerate", v], []⟩) (fun _ R s => Hh s.heap ∧
      R (.ok (.ret (.ref (s.heap.push o).objs.size))) { s with heap := (s.heap.push o).push { cls := .type "enumerate", data := .fields #[.none, .bool false, .ref s.heap.objs.size, rawInt 0, .none, .none] } }) :=
  .of_wp fun prog w A R s h => by
    obtain ⟨hp, g, d, tk, os⟩ := s; obtain ⟨hl, h⟩ := h
    have hsub := sub_enumerate
    have key : ∀ (A : Around) (E : Value → Shared → Prop) (Q : Value → Shared → Prop), Q (.ref hp.objs.size) ⟨hp.push o, g, d, tk, os⟩ → wpAny (model prog w) A (pyIter v) Q E ⟨hp, g, d, tk, os⟩ := fun A E Q q => B.iter prog w A E ⟨hp, g, d, tk, os⟩ Q hl q
    wp_walk
    refine wpAny_stack_any fun st => wpAny_pure ?_
    split
    · rename_i c _ _ _ _ _
      cases (c == Value.type "enumerate")
      · wp_walk using key
        exact ⟨_, rfl, h⟩
      · wp_walk using key
        exact ⟨_, rfl, h⟩
    · wp_walk using key
      exact ⟨_, rfl, h⟩
theorem enum1_begins {prog : Program} {w : World} {A : Around} {E : Value → Shared → Prop} {s : Shared} {v : Value} {o : Obj} {Hh : Heap → Prop} {Q : Value → Shared → Prop} (B : Begins v o Hh) (h1 : Hh s.heap)
    (h : ∀ h', IsEnum h' (s.heap.objs.size + 1) s.heap.objs.size 0 .none → h'.get? s.heap.objs.size = some o → h'.objs.size = s.heap.objs.size + 2 →
      (∀ b o, s.heap.get? b = some o → h'.get? b = some o) → Q (.ref (s.heap.objs.size + 1)) { s with heap := h' }) :
    wpAny (model prog w) A (call (.type "enumerate") [v]) Q E s := by
  refine callType_new F.called_enumerate (by decide) (F.typeCall_enumerate_1 _) (F.newCall_enumerate_1 _) (fun obj => F.args_object_init_2 obj _) F.entry_enumerate_new
    (meets_enum1B B) ⟨h1, ?_⟩
  have hz : (s.heap.push o).objs.size = s.heap.objs.size + 1 := Heap.size_push ..
  show _ ∧ _
  rw [hz]
  have he : IsEnum ((s.heap.push o).push { cls := .type "enumerate", data := .fields #[.none, .bool false, .ref s.heap.objs.size, rawInt 0, .none, .none] }) (s.heap.objs.size + 1) s.heap.objs.size 0 .none := by
    have := Heap.get?_push_size (s.heap.push o) (o := { cls := .type "enumerate", data := .fields #[.none, .bool false, .ref s.heap.objs.size, rawInt 0, .none, .none] }) rfl
    rw [hz] at this; exact this
  refine ⟨⟨_, he, rfl⟩, h _ he (Heap.get?_push_of_some _ (Heap.get?_push_size _ B.free)) (by rw [Heap.size_push, hz]) fun b o x => Heap.get?_push_of_some _ (Heap.get?_push_of_some _ x)⟩
def iEnumT (K : PySem.W.Frag) (ta : TA) : TI := fun σ H R => ta σ H fun vs H1 => ∃ a xs, vs = [.ref a] ∧ SqT K H1 a xs ∧ R (IeT K a) H1
theorem pi_enumT {X : Cx} {e : Expr} {ta : TA} {p pos tpos : Pos} {elts : List Expr} {kk : Nat} (hg : Gl X "enumerate") (hm : X.mg "enumerate" = none) (ha : PA X [e] ta) (hs : starEach [e] X.env = [(false, eval e X.env)] := by rfl) :
    PI X (.Tuple elts kk tpos) (.Call (.Name "enumerate" p) [e] [] pos) (iEnumT X.K ta) := by
  refine ⟨fun pins s σ H R I h => ?_⟩
  refine Call_ (ld_blt I hg hm boot_enumerate (PyProof.Rows.callWith_type1 (thn (ha.run pos pins s σ H _ I h) fun us s1 ⟨vs, H1, I1, r1, q1⟩ => ?_) hs rfl))
  obtain ⟨a, xs, ex, hq, q⟩ := q1
  subst ex
  cases r1 with
  | cons r rr =>
    cases rr
    cases r
    obtain ⟨its, rv, p', hz⟩ := I1.tuple hq
    refine enum1_begins (begins_tuple a its.toArray) p' fun h' he hit hsz hk => wpAny_pyIter_enum he ?_
    have I2 : Inv X pins σ H1 { s1 with heap := h' } := I1.kept (t' := s1.toks) hk
    have hlt : a < s1.heap.objs.size := p'.lt
    refine ⟨s1.heap.objs.size + 1, [s1.heap.objs.size + 1, s1.heap.objs.size], _, _, H1, rfl, I2, turn_enumT a (s1.heap.objs.size + 1) s1.heap.objs.size, ⟨⟨.none, he⟩, ⟨_, hit, rfl, rfl⟩, Nat.succ_ne_self _, Nat.ne_of_lt hlt, Nat.ne_of_lt (Nat.lt_succ_of_lt hlt)⟩, fun b hb => ?_, q⟩
    have e' : b = s1.heap.objs.size + 1 ∨ b = s1.heap.objs.size := by simpa using hb
    have hle : s1.heap.objs.size ≤ b := by
      rcases e' with z | z
      · rw [z]; exact Nat.le_add_right _ _
      · rw [z]; exact Nat.le_refl _
    exact I1.fpOk hle (I1.hok.fresh hle)
/-! a text -/
def IeS (x : Str) : It :=
  ⟨fun i _ => i < x.cps.size, fun i H v H' => ∃ T c, v = .ref T ∧ H T = none ∧ H' = upd H T (.tup [.int (i : Nat), .str ⟨#[c]⟩]) ∧ x.cps[i]? = some c, fun i _ => x.cps.size = i⟩
theorem turn_enumS {P : Program} {w : World} {K : PySem.W.Frag} {elts : List Expr} {kk : Nat} {tpos : Pos} (x : Str) (t : Tok) (e it : Addr) :
    Turn P w K (.Tuple elts kk tpos) (IeS x) [e, it] e (fun i h => (∃ old, IsEnum h e it ((i : Nat) : Int) old) ∧ h.IsStrIter it (strIterType x) x t i ∧ e ≠ it) where
  mem := by simp
  obj := fun i h st b hb => by
    obtain ⟨⟨old, he⟩, ⟨o, ho, hc, hd⟩, _⟩ := st
    have e' : b = e ∨ b = it := by simpa using hb
    rcases e' with z | z
    · rw [z]; exact ⟨_, he, fun v q => nomatch q⟩
    · rw [z]; exact ⟨o, ho, fun v q => by rw [hd] at q; cases q⟩
  keep := fun i h h' st k => let ⟨⟨old, he⟩, ⟨o, ho, r⟩, hne⟩ := st; ⟨⟨old, k e (by simp) _ he⟩, ⟨o, k it (by simp) o ho, r⟩, hne⟩
  item := by
    intro X hP hw hK hc i pins s σ H E I hf st hg
    subst hP hw hK
    obtain ⟨⟨old, he⟩, hit, hne⟩ := st
    have hel : e < s.heap.objs.size := Heap.lt_size he
    have hil : it < s.heap.objs.size := by obtain ⟨_, q, _⟩ := hit; exact Heap.lt_size q
    refine wpAny_pyNext_enum_itemD (Draws.text (show X.A.in1.handled = none from I.ok.hd hc) it x t) he hit hg hne (by simp; exact hne) fun u h' tk hu ho hst' hT hsz hk => ?_
    obtain ⟨c, t', hcx, rfl⟩ := hu
    refine ⟨_, rfl, wpAny_letOwnedTupleGo_enum (s := { s with heap := h', toks := tk + 1 }) ho fun h'' he' sb => ?_⟩
    have hT2 : h''.get? s.heap.objs.size = some { cls := .type "tuple", data := .seq #[.int i tk, .str ⟨#[c]⟩ t'] } := (sb.2 _ (Nat.ne_of_gt hel)).trans hT
    have new : ObjOk X.prog X.w (upd H s.heap.objs.size (.tup [.int (i : Nat), .str ⟨#[c]⟩])) h'' s.heap.objs.size (.tup [.int (i : Nat), .str ⟨#[c]⟩]) :=
      ⟨by show 2 ≤ sizeLine; decide, [.int i tk, .str ⟨#[c]⟩ t'], .cons ⟨_, rfl⟩ (.cons ⟨_, rfl⟩ .nil), ⟨_, hT2, rfl, _, rfl⟩⟩
    have I1 : Inv X pins σ (upd H s.heap.objs.size (.tup [.int (i : Nat), .str ⟨#[c]⟩])) { s with heap := h'', toks := tk + 1 } :=
      I.turnedNew (ch := [e, it]) (fun b ob hb q => (sb.2 b (fun z => hb (by simp [z]))).trans (hk b ob (fun z => hb (by simp [z])) (fun z => hb (by simp [z])) q)) hf (Nat.le_refl _) new
    obtain ⟨os, hos, hrs⟩ := hst'
    refine ⟨.ref s.heap.objs.size, _, I1, rfl, ⟨_, c, rfl, I.hok.fresh (Nat.le_refl _), rfl, hcx⟩, ⟨⟨.str ⟨#[c]⟩ t', ?_⟩, ⟨os, (sb.2 it (Ne.symm hne)).trans hos, hrs⟩, hne⟩, fun b hb => ?_⟩
    · have e1 : ((i + 1 : Nat) : Int) = (i : Int) + 1 := by omega
      rw [e1]; exact he'
    · have hb' : b < s.heap.objs.size := by
        have e' : b = e ∨ b = it := by simpa using hb
        rcases e' with z | z
        · rw [z]; exact hel
        · rw [z]; exact hil
      rw [upd_ne (Nat.ne_of_lt hb')]
      exact (hf b hb).1
  done := by
    intro X hP hw hK hc i pins s σ H E I hf st hg
    subst hP hw hK
    obtain ⟨⟨old, he⟩, hit, hne⟩ := st
    have hn : x.cps.size = i := hg
    obtain ⟨f0, f1, f2, f3, f4, f5⟩ := hf it (by simp)
    exact wpAny_pyNext_enum_endD (Draws.text (show X.A.in1.handled = none from I.ok.hd hc) it x t) he (by rw [hn]; exact hit) fun h' eb => ⟨rfl, I.turned (t' := s.toks) (fun b o hb q => eb b o hb q) f0 f1 f3 f4 f5⟩
  self := fun A i s Q E st h => let ⟨⟨_, he⟩, _⟩ := st; wpAny_pyIter_enum he h
def iEnumS (ta : TA) : TI := fun σ H R => ta σ H fun vs H1 => ∃ x, vs = [.str x] ∧ R (IeS x) H1
theorem pi_enumS {X : Cx} {e : Expr} {ta : TA} {p pos tpos : Pos} {elts : List Expr} {kk : Nat} (hg : Gl X "enumerate") (hm : X.mg "enumerate" = none) (ha : PA X [e] ta) (hs : starEach [e] X.env = [(false, eval e X.env)] := by rfl) :
    PI X (.Tuple elts kk tpos) (.Call (.Name "enumerate" p) [e] [] pos) (iEnumS ta) := by
  refine ⟨fun pins s σ H R I h => ?_⟩
  refine Call_ (ld_blt I hg hm boot_enumerate (PyProof.Rows.callWith_type1 (thn (ha.run pos pins s σ H _ I h) fun us s1 ⟨vs, H1, I1, r1, q1⟩ => ?_) hs rfl))
  obtain ⟨x, ex, q⟩ := q1
  subst ex
  cases r1 with
  | cons r rr =>
    cases rr
    obtain ⟨t, rfl⟩ := r
    refine enum1_begins (begins_text x t) True.intro fun h' he hit hsz hk => wpAny_pyIter_enum he ?_
    have I2 : Inv X pins σ H1 { s1 with heap := h' } := I1.kept (t' := s1.toks) hk
    refine ⟨s1.heap.objs.size + 1, [s1.heap.objs.size + 1, s1.heap.objs.size], _, _, H1, rfl, I2, turn_enumS x t (s1.heap.objs.size + 1) s1.heap.objs.size, ⟨⟨.none, he⟩, ⟨_, hit, rfl, rfl⟩, Nat.succ_ne_self _⟩, fun b hb => ?_, q⟩
    have e' : b = s1.heap.objs.size + 1 ∨ b = s1.heap.objs.size := by simpa using hb
    have hle : s1.heap.objs.size ≤ b := by
      rcases e' with z | z
      · rw [z]; exact Nat.le_add_right _ _
      · rw [z]; exact Nat.le_refl _
    exact I1.fpOk hle (I1.hok.fresh hle)
/-! zip of two texts -/
def IzS (x y : Str) : It :=
  ⟨fun i _ => i < x.cps.size ∧ i < y.cps.size, fun i H v H' => ∃ T c d, v = .ref T ∧ H T = none ∧ H' = upd H T (.tup [.str ⟨#[c]⟩, .str ⟨#[d]⟩]) ∧ x.cps[i]? = some c ∧ y.cps[i]? = some d, fun i _ => min x.cps.size y.cps.size = i⟩
theorem turn_zipS {P : Program} {w : World} {K : PySem.W.Frag} {elts : List Expr} {kk : Nat} {tpos : Pos} (x y : Str) (t u : Tok) {z TI TO i1 i2 : Addr} (D : ZipSep2 z TI TO i1 i2 [i1] [i2]) :
    Turn P w K (.Tuple elts kk tpos) (IzS x y) [z, TI, TO, i1, i2] z (fun i h => IsZip h z TI TO .none ∧ IsTupOf2 h TI (.ref i1) (.ref i2) ∧ (∃ x y, IsTupOf2 h TO x y) ∧ h.IsStrIter i1 (strIterType x) x t i ∧ h.IsStrIter i2 (strIterType y) y u i) where
  mem := by simp
  obj := fun i h st c hc => by
    obtain ⟨hz, hTI, ⟨x, y, hTO⟩, ⟨o1, e1, _, d1⟩, ⟨o2, e2, _, d2⟩⟩ := st
    have e' : c = z ∨ c = TI ∨ c = TO ∨ c = i1 ∨ c = i2 := by simpa using hc
    rcases e' with q | q | q | q | q
    · rw [q]; exact ⟨_, hz, fun v q => nomatch q⟩
    · rw [q]; exact ⟨_, hTI, fun v q => nomatch q⟩
    · rw [q]; exact ⟨_, hTO, fun v q => nomatch q⟩
    · rw [q]; exact ⟨o1, e1, fun v q => by rw [d1] at q; cases q⟩
    · rw [q]; exact ⟨o2, e2, fun v q => by rw [d2] at q; cases q⟩
  keep := fun i h h' st k => by
    obtain ⟨hz, hTI, ⟨x, y, hTO⟩, ⟨o1, e1, r1⟩, ⟨o2, e2, r2⟩⟩ := st
    exact ⟨k z (by simp) _ hz, k TI (by simp) _ hTI, ⟨x, y, k TO (by simp) _ hTO⟩, ⟨o1, k i1 (by simp) o1 e1, r1⟩, ⟨o2, k i2 (by simp) o2 e2, r2⟩⟩
  item := by
    intro X hP hw hK hc i pins s σ H E I hf st hg
    subst hP hw hK
    obtain ⟨hz, hTI, ⟨x0, y0, hTO⟩, h1, h2⟩ := st
    have hh : X.A.in1.handled = none := I.ok.hd hc
    have hzl : z < s.heap.objs.size := Heap.lt_size hz
    refine wpAny_pyNext_zipD2_item D (Draws.text hh i1 x t) (Draws.text hh i2 y u) hz hTI hTO h1 h2 hg.1 hg.2 fun v1 v2 h' tk p1 p2 z' TO' h1' h2' hT hsz hk => ?_
    obtain ⟨c, t1, hcx, rfl⟩ := p1
    obtain ⟨d, t2, hdy, rfl⟩ := p2
    refine ⟨_, rfl, wpAny_letOwnedTupleGo_zip (s := { s with heap := h', toks := tk }) z' fun h'' z'' sb => ?_⟩
    have hT2 : h''.get? s.heap.objs.size = some { cls := .type "tuple", data := .seq #[.str ⟨#[c]⟩ t1, .str ⟨#[d]⟩ t2] } := (sb.2 _ (Nat.ne_of_gt hzl)).trans hT
    have new : ObjOk X.prog X.w (upd H s.heap.objs.size (.tup [.str ⟨#[c]⟩, .str ⟨#[d]⟩])) h'' s.heap.objs.size (.tup [.str ⟨#[c]⟩, .str ⟨#[d]⟩]) :=
      ⟨by show 2 ≤ sizeLine; decide, [.str ⟨#[c]⟩ t1, .str ⟨#[d]⟩ t2], .cons ⟨_, rfl⟩ (.cons ⟨_, rfl⟩ .nil), ⟨_, hT2, rfl, _, rfl⟩⟩
    have I1 : Inv X pins σ (upd H s.heap.objs.size (.tup [.str ⟨#[c]⟩, .str ⟨#[d]⟩])) { s with heap := h'', toks := tk } :=
      I.turnedNew (t' := tk) (ch := [z, TI, TO, i1, i2]) (fun c o hb q => (sb.2 c (fun q' => hb (by simp [q']))).trans (hk c o (fun q' => hb (by simp [q'])) (fun q' => hb (by simp [q'])) (fun q' => hb (by simp [q'])) (fun q' => hb (by simp [q'])) q)) hf (Nat.le_refl _) new
    obtain ⟨o1, e1, r1⟩ := h1'
    obtain ⟨o2, e2, r2⟩ := h2'
    refine ⟨.ref s.heap.objs.size, _, I1, rfl, ⟨_, c, d, rfl, I.hok.fresh (Nat.le_refl _), rfl, hcx, hdy⟩, ⟨z'', ?_, ⟨.str ⟨#[c]⟩ t1, .str ⟨#[d]⟩ t2, ?_⟩, ⟨o1, (sb.2 _ D.zi1.symm).trans e1, r1⟩, ⟨o2, (sb.2 _ D.zi2.symm).trans e2, r2⟩⟩, fun c hcm => ?_⟩
    · exact (sb.2 _ D.TIz).trans (hk _ _ D.TIz D.TITO D.TIi1 D.TIi2 hTI)
    · exact (sb.2 _ D.TOz).trans TO'
    · have hlt : c < s.heap.objs.size := by
        have e' : c = z ∨ c = TI ∨ c = TO ∨ c = i1 ∨ c = i2 := by simpa using hcm
        rcases e' with q | q | q | q | q
        · rw [q]; exact hzl
        · rw [q]; exact Heap.lt_size hTI
        · rw [q]; exact Heap.lt_size hTO
        · rw [q]; obtain ⟨_, e1, _⟩ := h1; exact Heap.lt_size e1
        · rw [q]; obtain ⟨_, e2, _⟩ := h2; exact Heap.lt_size e2
      rw [upd_ne (Nat.ne_of_lt hlt)]
      exact (hf c hcm).1
  done := by
    intro X hP hw hK hc i pins s σ H E I hf st hg
    subst hP hw hK
    obtain ⟨hz, hTI, ⟨x0, y0, hTO⟩, h1, h2⟩ := st
    have hh : X.A.in1.handled = none := I.ok.hd hc
    have hn : min x.cps.size y.cps.size = i := hg
    exact wpAny_pyNext_zipD2_end D (Draws.text hh i1 x t) (Draws.text hh i2 y u) hz hTI hTO h1 h2 (by omega) (by omega) (by omega) fun h' tk hk => ⟨rfl, I.turnedL (t' := tk) (ch := [z, TI, TO, i1, i2]) (fun c o hb q =>
      hk c o (fun q' => hb (by simp [q'])) (fun q' => hb (by simp [q'])) (fun q' => hb (by simp [q'])) (fun q' => hb (by simp [q'])) q) hf⟩
  self := fun A i s Q E st h => wpAny_pyIter_zip st.1 h
def iZipS (ta : TA) : TI := fun σ H R => ta σ H fun vs H1 => ∃ x y, vs = [.str x, .str y] ∧ R (IzS x y) H1
theorem pi_zipS {X : Cx} {e e2 : Expr} {ta : TA} {p pos tpos : Pos} {elts : List Expr} {kk : Nat} (hg : Gl X "zip") (hm : X.mg "zip" = none) (ha : PA X [e, e2] ta)
    (hs : starEach [e, e2] X.env = (false, eval e X.env) :: starEach [e2] X.env := by rfl) (hpl : (backTo pos (starEach [e2] X.env)).any (·.1) = false := by rfl) :
    PI X (.Tuple elts kk tpos) (.Call (.Name "zip" p) [e, e2] [] pos) (iZipS ta) := by
  refine ⟨fun pins s σ H R I h => ?_⟩
  refine Call_ (ld_blt I hg hm PyProof.Rows.boot_zip (PyProof.Rows.callWith_type1 (thn (ha.run pos pins s σ H _ I h) fun us s1 ⟨vs, H1, I1, r1, q1⟩ => ?_) hs hpl))
  obtain ⟨x, y, ex, q⟩ := q1
  subst ex
  cases r1 with
  | cons r rr =>
    cases rr with
    | cons r' rr =>
      cases rr
      obtain ⟨t, rfl⟩ := r
      obtain ⟨u, rfl⟩ := r'
      have fresh5 : ∀ c, c ∈ [s1.heap.objs.size + 4, s1.heap.objs.size + 2, s1.heap.objs.size + 3, s1.heap.objs.size, s1.heap.objs.size + 1] → FpOk X pins H1 c := fun c hcm => by
        have e' : c = s1.heap.objs.size + 4 ∨ c = s1.heap.objs.size + 2 ∨ c = s1.heap.objs.size + 3 ∨ c = s1.heap.objs.size ∨ c = s1.heap.objs.size + 1 := by simpa using hcm
        have hle : s1.heap.objs.size ≤ c := by
          rcases e' with z | z | z | z | z
          · rw [z]; exact Nat.le_add_right _ _
          · rw [z]; exact Nat.le_add_right _ _
          · rw [z]; exact Nat.le_add_right _ _
          · rw [z]; exact Nat.le_refl _
          · rw [z]; exact Nat.le_add_right _ _
        exact I1.fpOk hle (I1.hok.fresh hle)
      refine zip_begins2 (begins_text x t) (begins_text y u) True.intro True.intro fun h' hz hTI hTO h1 h2 hsz hk => wpAny_pyIter_zip hz ?_
      have I2 : Inv X pins σ H1 { s1 with heap := h' } := I1.kept (t' := s1.toks) hk
      have sep : ZipSep2 (s1.heap.objs.size + 4) (s1.heap.objs.size + 2) (s1.heap.objs.size + 3) s1.heap.objs.size (s1.heap.objs.size + 1) [s1.heap.objs.size] [s1.heap.objs.size + 1] := by
        constructor <;> simp
      exact ⟨s1.heap.objs.size + 4, [s1.heap.objs.size + 4, s1.heap.objs.size + 2, s1.heap.objs.size + 3, s1.heap.objs.size, s1.heap.objs.size + 1], _, _, H1, rfl, I2, turn_zipS x y t u sep, ⟨hz, hTI, ⟨_, _, hTO⟩, ⟨_, h1, rfl, rfl⟩, ⟨_, h2, rfl, rfl⟩⟩, fresh5, q⟩
end L2
namespace DL
open PySem L2

/-! ### enumerate, zip -/
def enumD (k : Nat) : List D → List D
  | [] => []
  | d :: ds => .tup [.int (k : Nat), d] :: enumD (k + 1) ds
def zipD : List D → List D → List D
  | a :: as, b :: bs => .tup [a, b] :: zipD as bs
  | _, _ => []
theorem enumD_get : ∀ (ds : List D) (k i : Nat), (enumD k ds)[i]? = (ds[i]?).map fun d => .tup [.int ((k + i : Nat) : Int), d]
  | [], k, i => by simp [enumD]
  | d :: ds, k, 0 => by simp [enumD]
  | d :: ds, k, i + 1 => by
    show (enumD (k + 1) ds)[i]? = _
    rw [enumD_get ds (k + 1) i]
    simp only [List.getElem?_cons_succ]
    congr 1
    funext d
    congr 3
    have : k + 1 + i = k + (i + 1) := by omega
    rw [this]
theorem enumD_len : ∀ (ds : List D) (k : Nat), (enumD k ds).length = ds.length
  | [], k => rfl
  | d :: ds, k => by simp [enumD, enumD_len ds (k + 1)]
theorem zipD_get : ∀ (as bs : List D) (i : Nat) (a b : D), as[i]? = some a → bs[i]? = some b → (zipD as bs)[i]? = some (.tup [a, b])
  | [], _, _, _, _, h, _ => by simp at h
  | _ :: _, [], _, _, _, _, h => by simp at h
  | x :: as, y :: bs, 0, a, b, h, h' => by simp at h h'; subst h h'; rfl
  | x :: as, y :: bs, i + 1, a, b, h, h' => by
    show (zipD as bs)[i]? = _
    exact zipD_get as bs i a b (by simpa using h) (by simpa using h')
theorem zipD_len : ∀ (as bs : List D), (zipD as bs).length = min as.length bs.length
  | [], _ => by simp [zipD]
  | _ :: _, [] => by simp [zipD]
  | x :: as, y :: bs => by simp [zipD, zipD_len as bs]
def iEnT {G : Type} (f : M G D) : M G (List D) := M.bind f fun d => M.bind (M.lift (asT d)) fun xs => M.pure (enumD 0 xs)
def iEnS {G : Type} (f : M G D) : M G (List D) := M.bind f fun d => M.bind (M.lift (asS d)) fun xs => M.pure (enumD 0 (xs.map fun c => .str [c]))
def iEnL {G : Type} (f : M G D) : M G (List D) := M.bind f fun d => M.bind (M.lift (asL d)) fun xs => M.pure (enumD 0 xs)
def iZpT {G : Type} (f h : M G D) : M G (List D) := M.bind f fun d => M.bind h fun e => M.bind (M.lift (asT d)) fun xs => M.bind (M.lift (asT e)) fun ys => M.pure (zipD xs ys)
def iZpS {G : Type} (f h : M G D) : M G (List D) := M.bind f fun d => M.bind h fun e => M.bind (M.lift (asS d)) fun xs => M.bind (M.lift (asS e)) fun ys => M.pure (zipD (xs.map fun c => .str [c]) (ys.map fun c => .str [c]))
theorem asT_some : ∀ {d : D} {xs : List D}, asT d = some xs → d = .tup xs
  | .tup _, _, h => by cases h; rfl
theorem asS_some : ∀ {d : D} {xs : List Nat}, asS d = some xs → d = .str xs
  | .str _, _, h => by cases h; rfl
theorem ok1 {s : List Nat} {i c : Nat} (ok : okS s) (h : s[i]? = some c) : okS [c] := okS_sub ok (by
  have := (List.getElem?_eq_some_iff.mp h).1
  simp; omega) fun x hx => by simp at hx; subst hx; exact List.mem_of_getElem? h

section
variable {X : Cx} {Z : Cn} {E : Ent Z.W} {Wx : WX} {e a b c tg : Expr} {pos p tpos : Pos} {fe fa fb fc : M Z.W.G D} {ft fu : M Z.W.G Bool} {fs fs' : SM Z.W.G} {elts : List Expr} {kk : Nat}
theorem di_enT (hg : Gl X "enumerate") (hm : X.mg "enumerate" = none) (h : DE X Z E Wx e fe) (hs : starEach [e] X.env = [(false, eval e X.env)] := by rfl) : DI X Z E Wx (.Tuple elts kk tpos) (.Call (.Name "enumerate" p) [e] [] pos) (iEnT fe) := by
  refine PI.imp (pi_enumT hg hm (pa_cons h pa_nil hs) hs) fun σ H Rk ⟨Hf, g, sl, r, q⟩ => ⟨Hf, g, sl, r, (go_bind (Rm := RlD X.K) q).mono fun v H1 ⟨Hf1, g1, d, b1, d1, q1⟩ => ?_⟩
  obtain ⟨xs, ex, q2⟩ := go_bl q1
  obtain rfl := asT_some ex
  cases d1 with
  | tup h1 h2 =>
    refine ⟨_, _, rfl, (.inl (b1.rd h1)), q2 _ _ _ b1.self ?_⟩
    show Walk _ _ _ _
    rw [enumD_len, ← h2.len]
    refine ⟨fun i H hi s => ⟨_, _, (.inl (Same.rd s h1)), List.getElem?_eq_getElem hi⟩, fun H s => ⟨_, (.inl (Same.rd s h1)), rfl⟩, fun i H x H' hi s y => ?_⟩
    obtain ⟨T, x', e1, e2, e3, e4⟩ := y
    have hx := e4 _ ((.inl (Same.rd s h1)))
    obtain ⟨d, ed, dv⟩ := h2.get hx
    refine ⟨_, by rw [enumD_get, ed]; rfl, .inr ⟨T, _, _, e1, e2, e3, rfl, ?_⟩⟩
    rw [Nat.zero_add]
    exact .cons (.int _) (.cons dv .nil)
theorem di_enS (hg : Gl X "enumerate") (hm : X.mg "enumerate" = none) (h : DE X Z E Wx e fe) (hs : starEach [e] X.env = [(false, eval e X.env)] := by rfl) : DI X Z E Wx (.Tuple elts kk tpos) (.Call (.Name "enumerate" p) [e] [] pos) (iEnS fe) := by
  refine PI.imp (pi_enumS hg hm (pa_cons h pa_nil hs) hs) fun σ H Rk ⟨Hf, g, sl, r, q⟩ => ⟨Hf, g, sl, r, (go_bind (Rm := RlD X.K) q).mono fun v H1 ⟨Hf1, g1, d, b1, d1, q1⟩ => ?_⟩
  obtain ⟨xs, ex, q2⟩ := go_bl q1
  obtain rfl := asS_some ex
  cases d1 with
  | str _ ok =>
    refine ⟨mkS xs, rfl, q2 _ _ _ b1.self ?_⟩
    show Walk _ _ _ _
    rw [enumD_len, List.length_map]
    have hn : (mkS xs).cps.size = xs.length := by simp [mkS]
    refine ⟨fun i H hi s => ?_, fun H s => hn, fun i H x H' hi s y => ?_⟩
    · show i < (mkS xs).cps.size
      rw [hn]; exact hi
    · obtain ⟨T, c, e1, e2, e3, e4⟩ := y
      have hx : xs[i]? = some c := by simpa [mkS] using e4
      refine ⟨_, by rw [enumD_get, List.getElem?_map, hx]; rfl, .inr ⟨T, _, _, e1, e2, e3, rfl, ?_⟩⟩
      rw [Nat.zero_add]
      exact .cons (.int _) (.cons (.str [c] (ok1 ok hx)) .nil)
theorem di_enL (hg : Gl X "enumerate") (hm : X.mg "enumerate" = none) (h : DE X Z E Wx e fe) (hs : starEach [e] X.env = [(false, eval e X.env)] := by rfl) : DI X Z E Wx (.Tuple elts kk tpos) (.Call (.Name "enumerate" p) [e] [] pos) (iEnL fe) := by
  refine PI.imp (pi_enum hg hm (pa_cons h pa_nil hs) hs) fun σ H Rk ⟨Hf, g, sl, r, q⟩ => ⟨Hf, g, sl, r, (go_bind (Rm := RlD X.K) q).mono fun v H1 ⟨Hf1, g1, d, b1, d1, q1⟩ => ?_⟩
  obtain ⟨xs, ex, q2⟩ := go_bl q1
  obtain rfl := asL_some ex
  cases d1 with
  | lst h1 h2 =>
    refine ⟨_, _, rfl, SqL.of (b1.fh _ _ h1), q2 _ _ _ b1.self ?_⟩
    show Walk _ _ _ _
    rw [enumD_len, ← h2.len]
    refine walk_enum.mono (fun H s => SqL.of (s _ _ h1)) fun i H x H' hi s y => ?_
    obtain ⟨T, x', y', e1, e2, e3, e4, e5⟩ := y
    cases e4
    obtain ⟨d, ed, dv⟩ := h2.get e5
    refine ⟨_, by rw [enumD_get, ed]; rfl, .inr ⟨T, _, _, e1, e2, e3, rfl, ?_⟩⟩
    rw [Nat.zero_add]
    exact .cons (.int _) (.cons dv .nil)
theorem di_zpT (hg : Gl X "zip") (hm : X.mg "zip" = none) (ha : DE X Z E Wx a fa) (hb : DE X Z E Wx b fb) (hs : starEach [a, b] X.env = (false, eval a X.env) :: starEach [b] X.env := by rfl) (hs2 : starEach [b] X.env = (false, eval b X.env) :: starEach [] X.env := by rfl)
    (hpl : (backTo pos (starEach [b] X.env)).any (·.1) = false := by rfl) : DI X Z E Wx (.Tuple elts kk tpos) (.Call (.Name "zip" p) [a, b] [] pos) (iZpT fa fb) := by
  refine PI.imp (RZ.pi_zipA hg hm (pa_cons ha (pa_cons hb pa_nil hs2) hs) hs hpl) fun σ H Rk ⟨Hf, g, sl, r, q⟩ => ⟨Hf, g, sl, r, (go_bind (Rm := RlD X.K) q).mono fun v H1 ⟨Hf1, g1, d, b1, d1, q1⟩ =>
    ⟨Hf1, g1, sl, r.step b1, (go_bind (Rm := RlD X.K) q1).mono fun w H2 ⟨Hf2, g2, d', b2, d2, q2⟩ => ?_⟩⟩
  obtain ⟨xs, ex, q3⟩ := go_bl q2
  obtain ⟨ys, ey, q4⟩ := go_bl q3
  obtain rfl := asT_some ex
  obtain rfl := asT_some ey
  have d1' := Dv.mono b2.ff _ d1
  cases d1' with
  | tup h1 h2 =>
    cases d2 with
    | tup h3 h4 =>
      refine ⟨_, _, _, _, rfl, .inr ⟨(.inl (b2.rd h1)), (.inl (b2.rd h3)), q4 _ _ _ b2.self ?_⟩⟩
      show Walk _ _ _ _
      rw [zipD_len, ← h2.len, ← h4.len]
      refine ⟨fun i H hi s => ?_, fun H s => ⟨_, _, (.inl (Same.rd s h1)), (.inl (Same.rd s h3)), by omega⟩, fun i H x H' hi s y => ?_⟩
      · exact ⟨_, _, _, _, (.inl (Same.rd s h1)), (.inl (Same.rd s h3)), List.getElem?_eq_getElem (by omega), List.getElem?_eq_getElem (by omega)⟩
      · obtain ⟨T, x', y', e1, e2, e3, e4, e5⟩ := y
        obtain ⟨d, ed, dv⟩ := h2.get (e4 _ ((.inl (Same.rd s h1))))
        obtain ⟨d', ed', dv'⟩ := h4.get (e5 _ ((.inl (Same.rd s h3))))
        exact ⟨_, zipD_get _ _ i d d' ed ed', .inr ⟨T, _, _, e1, e2, e3, rfl, .cons dv (.cons dv' .nil)⟩⟩
theorem di_zpS (hg : Gl X "zip") (hm : X.mg "zip" = none) (ha : DE X Z E Wx a fa) (hb : DE X Z E Wx b fb) (hs : starEach [a, b] X.env = (false, eval a X.env) :: starEach [b] X.env := by rfl) (hs2 : starEach [b] X.env = (false, eval b X.env) :: starEach [] X.env := by rfl)
    (hpl : (backTo pos (starEach [b] X.env)).any (·.1) = false := by rfl) : DI X Z E Wx (.Tuple elts kk tpos) (.Call (.Name "zip" p) [a, b] [] pos) (iZpS fa fb) := by
  refine PI.imp (pi_zipS hg hm (pa_cons ha (pa_cons hb pa_nil hs2) hs) hs hpl) fun σ H Rk ⟨Hf, g, sl, r, q⟩ => ⟨Hf, g, sl, r, (go_bind (Rm := RlD X.K) q).mono fun v H1 ⟨Hf1, g1, d, b1, d1, q1⟩ =>
    ⟨Hf1, g1, sl, r.step b1, (go_bind (Rm := RlD X.K) q1).mono fun w H2 ⟨Hf2, g2, d', b2, d2, q2⟩ => ?_⟩⟩
  obtain ⟨xs, ex, q3⟩ := go_bl q2
  obtain ⟨ys, ey, q4⟩ := go_bl q3
  obtain rfl := asS_some ex
  obtain rfl := asS_some ey
  cases d1 with
  | str _ o1 =>
    cases d2 with
    | str _ o2 =>
      refine ⟨mkS xs, mkS ys, rfl, q4 _ _ _ b2.self ?_⟩
      show Walk _ _ _ _
      rw [zipD_len, List.length_map, List.length_map]
      have n1 : (mkS xs).cps.size = xs.length := by simp [mkS]
      have n2 : (mkS ys).cps.size = ys.length := by simp [mkS]
      refine ⟨fun i H hi s => ?_, fun H s => ?_, fun i H x H' hi s y => ?_⟩
      · show i < (mkS xs).cps.size ∧ i < (mkS ys).cps.size
        rw [n1, n2]; omega
      · show min (mkS xs).cps.size (mkS ys).cps.size = _
        rw [n1, n2]
      · obtain ⟨T, c, d, e1, e2, e3, e4, e5⟩ := y
        have hx : xs[i]? = some c := by simpa [mkS] using e4
        have hy : ys[i]? = some d := by simpa [mkS] using e5
        exact ⟨_, zipD_get _ _ i (.str [c]) (.str [d]) (by rw [List.getElem?_map, hx]; rfl) (by rw [List.getElem?_map, hy]; rfl), .inr ⟨T, _, _, e1, e2, e3, rfl, .cons (.str [c] (ok1 o1 hx)) (.cons (.str [d] (ok1 o2 hy)) .nil)⟩⟩

/-! ### comprehensions -/
section
variable {G : Type}
def compL (tg : Tg) (cnd : M G Bool) (elt : M G D) : List D → SL → G → Out G (List D)
  | [], _, g => some (.ok [], g)
  | d :: ds, sl, g => match tg d sl with
    | none => none
    | some sl1 => match cnd sl1 g with
      | some (.ok true, g1) => match elt sl1 g1 with
        | some (.ok x, g2) => match compL tg cnd elt ds sl g2 with
          | some (.ok xs, g3) => some (.ok (x :: xs), g3)
          | _ => none
        | _ => none
      | some (.ok false, g1) => compL tg cnd elt ds sl g1
      | _ => none
def eComp (it : M G (List D)) (vs : List Nat) (tg : Tg) (cnd : M G Bool) (elt : M G D) : M G D := M.bind it fun ds => fun sl g => match compL tg cnd elt ds (wipeS sl vs) g with
  | some (.ok xs, g') => if xs.length ≤ LIM then some (.ok (.lst xs), g') else none
  | _ => none
def tYesM : M G Bool := M.pure true
end
theorem compL_len {G : Type} {tg : Tg} {cnd : M G Bool} {elt : M G D} : ∀ {ds : List D} {sl : SL} {g g' : G} {xs : List D}, compL tg cnd elt ds sl g = some (.ok xs, g') → xs.length ≤ ds.length
  | [], _, _, _, _, h => by cases h; simp
  | d :: ds, sl, g, g', xs, h => by
    unfold compL at h
    split at h
    · cases h
    · split at h
      · split at h
        · split at h
          · rename_i hh
            cases h
            have := compL_len hh
            simp; omega
          · cases h
        · cases h
      · have := compL_len h
        simp; omega
      · cases h
/-- the new list of a comprehension is changed: it is told of nowhere else -/
theorem Base.updFresh {W : Wd} {H0 Hf0 H Hf : Hp} {g0 g : W.G} {D : Addr} (o : HO) (b : Base W H0 Hf0 g0 H Hf g) (h0 : H0 D = none) (h1 : Hf D = none) (h2 : ¬ W.fp g D) : Base W H0 Hf0 g0 (upd H D o) Hf g where
  ff := b.ff
  fh := fun x u e => by
    have hx : x ≠ D := fun z => by subst z; rw [h1] at e; cases e
    rw [upd_ne hx]; exact b.fh x u e
  keep := fun x u e n => by
    have hx : x ≠ D := fun z => by subst z; rw [h0] at e; cases e
    rw [upd_ne hx]; exact b.keep x u e n
  old := b.old
  there := fun x e => by
    by_cases hx : x = D
    · subst hx; exact absurd h0 e
    · rw [upd_ne hx]; exact b.there x e
  rep := Wd.loc1 b.rep fun x q => by
    have hx : x ≠ D := fun z => by subst z; exact h2 q
    rw [upd_ne hx]
  dis := b.dis
  fpo := b.fpo
theorem R.updFresh {H0 Hf0 H Hf : Hp} {g0 g : Z.W.G} {sl : SL} {σ : St} {D : Addr} (o : HO) (r0 : R X.K E H0 Hf0 g0 sl σ) (b : Base Z.W H0 Hf0 g0 H Hf g) (h0 : H0 D = none) (h1 : Hf D = none) (h2 : ¬ Z.W.fp g D) : R X.K E (upd H D o) Hf g sl σ :=
  r0.step (b.updFresh o h0 h1 h2)
abbrev W0 : WX := fun _ _ _ _ => False
theorem lc_run {fi : M Z.W.G (List D)} {u : TG} {ixs vs : List Nat} {t : Tg} {σ : St} {H Hf : Hp} {g : Z.W.G} {sl : SL} {Q : VK} (r : R X.K E H Hf g sl σ) (q : go Z (NewL X.K H) Wx σ (eComp fi vs t ft fe sl g) H Hf g Q) (hix : ∀ i ∈ ixs, i ∈ vs) (kg : TgOk X.K u ixs t) :
    tLc (tI Z X.K E Wx fi) u (tG Z X.K E RlB W0 ft) (tG Z X.K E (RlD X.K) W0 fe) vs σ H Q := by
  refine ⟨Hf, g, sl, r, (go_bind (Rm := fun _ Hf' _ J ds => WalkD X.K J ds Hf') q).mono fun J H1 ⟨Hf1, g1, ds, b1, wk, q1⟩ Dd hD => ?_⟩
  match em : compL t ft fe ds (wipeS sl vs) g1 with
  | none => rw [em] at q1; exact q1.elim
  | some (.exc c, g') => rw [em] at q1; exact q1.elim
  | some (.ok total, gE) =>
    rw [em] at q1
    simp only at q1
    split at q1
    · rename_i hlim
      have rW : R X.K E H1 Hf1 g1 (wipeS sl vs) (L2.wipe σ vs) := (r.step b1).wipe vs
      obtain ⟨n1, n2, n3⟩ := new_n b1 hD
      refine lc_it wk (fun i Hc => ∃ (Hf2 : Hp) (g2 : Z.W.G) (accv : List V) (acc rest : List D), Base Z.W H1 Hf1 g1 Hc Hf2 g2 ∧ Hc Dd = some (.lst accv) ∧ Hf2 Dd = none ∧ ¬ Z.W.fp g2 Dd ∧ DvAll X.K Hf2 accv acc ∧
        compL t ft fe (ds.drop i) (wipeS sl vs) g2 = some (.ok rest, gE) ∧ acc ++ rest = total) ⟨Hf1, g1, [], [], total, b1.allocU _ hD, upd_same, n2, n3, .nil, em, rfl⟩ ?_ ?_ ?_
      · rintro i Hc _ ⟨Hf2, g2, accv, acc, rest, b2, _⟩
        exact Same.tr b2.ff b2.fh
      · rintro i x Hc Hc' hi ⟨Hf2, g2, accv, acc, rest, b2, hd, hfd, hfp, dv, er, et⟩ y
        obtain ⟨d, Hf3, ed, b3, dx⟩ := y.run b2.self b2.ff
        have ed' : ds.drop i = d :: ds.drop (i + 1) := by
          obtain ⟨hlt, ee⟩ := List.getElem?_eq_some_iff.mp ed
          rw [List.drop_eq_getElem_cons hlt, ee]
        rw [ed'] at er
        unfold compL at er
        have r3 := (rW.step b2).step b3
        split at er
        · cases er
        · rename_i sl1 et1
          refine kg Z E Hc' Hf3 g2 _ sl1 _ x d _ r3 dx et1 fun σ' r4 hw => ⟨?_, ?_⟩
          · rw [hw vs hix, wipe_wipe fun _ h => h]
          · refine ⟨Hf3, g2, sl1, r4, ?_⟩
            split at er
            · rename_i g3 ec
              rw [ec]
              intro bv H4 Hf4 b4 eb
              cases eb
              rw [if_pos rfl]
              refine ⟨Hf4, g3, sl1, r4.step b4, ?_⟩
              split at er
              · rename_i xv g4 ee
                rw [ee]
                intro yv H5 Hf5 b5 dy
                split at er
                · rename_i xs g5 ex
                  cases er
                  have bb := (b3.trans b4).trans b5
                  have hd5 : H5 Dd = some (.lst accv) := bb.keep _ _ hd hfp
                  have hf5 : Hf5 Dd = none := (bb.old Dd (by rw [hd]; simp)).trans hfd
                  have hp5 : ¬ Z.W.fp g4 Dd := fun z => by
                    rcases bb.fpo Dd z with w | w
                    · exact hfp w
                    · rw [hd] at w; cases w
                  refine ⟨accv, hd5, ?_, Hf5, g4, accv ++ [yv], acc ++ [xv], xs, (b2.trans bb).updFresh _ hD hf5 hp5, upd_same, hf5, hp5, (DvAll.mono bb.ff _ dv).append (.cons dy .nil), ex, by rw [List.append_assoc]; exact et⟩
                  rw [dv.len]
                  refine lim_lt ?_
                  have := congrArg List.length et
                  rw [List.length_append] at this
                  omega
                · cases er
              · cases er
            · rename_i g3 ec
              rw [ec]
              intro bv H4 Hf4 b4 eb
              cases eb
              rw [if_neg (by decide)]
              have bb := b3.trans b4
              refine ⟨Hf4, g3, accv, acc, rest, b2.trans bb, bb.keep _ _ hd hfp, (bb.old Dd (by rw [hd]; simp)).trans hfd, fun z => ?_, DvAll.mono bb.ff _ dv, er, et⟩
              rcases bb.fpo Dd z with w | w
              · exact hfp w
              · rw [hd] at w; cases w
            · cases er
      · rintro Hc ⟨Hf2, g2, accv, acc, rest, b2, hd, hfd, hfp, dv, er, et⟩
        rw [List.drop_length] at er
        cases er
        rw [List.append_nil] at et
        subst et
        exact q1 _ _ _ b2 ⟨Dd, accv, acc, rfl, rfl, n1, hd, hfd, dv, hfp⟩
    · exact q1.elim
theorem dn_comp {elt iter : Expr} {ifs : List Expr} {scope : Scope} {own : List (Str × Nat)} {fi : M Z.W.G (List D)} {u : TG} {ixs : List Nat} {t : Tg} (hc : X.calm = true) (hN : X.N.Nodup) (hi : DI X Z E Wx tg iter fi) (ok : BlkOk X.N X.env.scope scope own)
    (hg : ∀ (s : Shared) (H : Hp) (C : Addr) (cl : List (Str × Addr)) (fp : List Addr), PG (X.blk s H scope (compEnvC scope cl C X.env) fp) tg u) (hk : TgOk X.K u ixs t)
    (ht : ∀ (s : Shared) (H : Hp) (C : Addr) (cl : List (Str × Addr)) (fp : List Addr), PTs (X.blk s H scope (compEnvC scope cl C X.env) fp) ifs (tG Z X.K E RlB W0 ft))
    (he : ∀ (s : Shared) (H : Hp) (C : Addr) (cl : List (Str × Addr)) (fp : List Addr), DE (X.blk s H scope (compEnvC scope cl C X.env) fp) Z E W0 elt fe) (hix : ∀ i ∈ ixs, i ∈ own.map (·.2)) (hs : ∀ x, foldedSetIterable iter X.env x = pure x := by intro _; rfl) :
    DN X Z E Wx (.ListComp elt [⟨tg, iter, ifs, 0⟩] scope pos) (eComp fi (own.map (·.2)) t ft fe) := by
  refine PE.imp (pe_lc (te := tG Z X.K E (RlD X.K) W0 fe) hc hN hi ok hg ht he hs) fun σ H Q ⟨Hf, g, sl, r, q⟩ => ?_
  exact lc_run r q hix hk
end
end DL
namespace DL
open PySem L2

section
variable {G : Type}
/-- the list of the frame's own in slot i is changed -/
def sMutL (i : Nat) (h : List D → Option (List D)) : SM G := fun sl g => match sl[i]? with
  | some (some (.oL xs)) => match h xs with
    | some ys => some (.nx, sl.set i (some (.oL ys)), g)
    | none => none
  | _ => none
def sOwnL (i : Nat) (k : SM G) : SM G := fun sl g => match sl[i]? with
  | some (some (.oL _)) => k sl g
  | _ => none
def sApp (i : Nat) (fe : M G D) : SM G := sOwnL i <| sDo fe fun d => sMutL i fun xs => if xs.length < LIM then some (xs ++ [d]) else none
def sExt (i : Nat) (fe : M G D) : SM G := sOwnL i <| sDo fe fun d => sMutL i fun xs => match d with
  | .lst ys => if xs.length + ys.length ≤ LIM then some (xs ++ ys) else none
  | _ => none
def sSetI (i : Nat) (fk fv : M G D) : SM G := sOwnL i <| sDo fv fun d => sDo fk fun k => sMutL i fun xs => match k with
  | .int z => match ixN xs.length z with
    | some j => some (xs.set j d)
    | none => none
  | _ => none
/-- y = xs.pop(0) -/
def sPop0 (j i : Nat) : SM G := fun sl g => match sl[i]? with
  | some (some (.oL (x :: xs))) => some (.nx, (sl.set i (some (.oL xs))).set j (some (.d x)), g)
  | _ => none
/-- the def's denotation -/
def fnD (m : Nat) (fs : SM G) : Fn G := fun ds g => match fs (ds.map (fun d => some (.d d)) ++ List.replicate (m - ds.length) none) g with
  | some (.rt d, _, g') => some (.ok d, g')
  | some (.nx, _, g') => some (.ok .non, g')
  | some (.ex c, _, g') => some (.exc c, g')
  | _ => none
end
section
variable {X : Cx} {Z : Cn} {E : Ent Z.W} {Wx : WX} {e a b c : Expr} {pos p ap cp : Pos} {fe fa fb fc : M Z.W.G D} {fs fs' : SM Z.W.G}
/-- the own list at a is written -/
theorem R.updOwn {H Hf : Hp} {g : Z.W.G} {sl : SL} {σ : St} {i : Nat} {xs ys : List D} {q : Addr} {ws : List V} (r : R X.K E H Hf g sl σ) (hi : sl[i]? = some (some (.oL xs))) (hq : σ[i]? = some (some (.ref q))) (d : DvAll X.K Hf ws ys) :
    R X.K E (upd H q (.lst ws)) Hf g (sl.set i (some (.oL ys))) σ := by
  obtain ⟨v, h1, a, vs, e1, h2, h3, h4⟩ := r.slot i _ hi
  rw [hq] at h1
  cases h1
  cases e1
  have key : ∀ (j : Nat) (y : Slot), (sl.set i (some (.oL ys)))[j]? = some (some y) → (j = i ∧ y = .oL ys) ∨ (j ≠ i ∧ sl[j]? = some (some y)) := by
    intro j y ej
    rw [List.getElem?_set] at ej
    split at ej
    · rename_i hij
      split at ej
      · cases ej; exact .inl ⟨hij.symm, rfl⟩
      · cases ej
    · rename_i hij
      exact .inr ⟨fun z => hij z.symm, ej⟩
  refine ⟨r.base.updFresh _ h4.1 h4.2.1 h4.2.2, fun j y ej => ?_, fun j l y z b n ej el oy oz => ?_, by rw [List.length_set]; exact r.len⟩
  · rcases key j y ej with ⟨rfl, rfl⟩ | ⟨hj, ej'⟩
    · exact ⟨_, hq, q, ws, rfl, upd_same, d, h4⟩
    · obtain ⟨w, q1, q2⟩ := r.slot j y ej'
      refine ⟨w, q1, ?_⟩
      have hw : y.own = true → w ≠ .ref q := fun oy z => by subst z; exact r.apart i j _ y q (Ne.symm hj) hi ej' rfl oy hq q1
      match y, q2, hw with
      | .d x, q2, _ => exact q2
      | .oL zs, ⟨b, us, e1, k1, k2, k3⟩, hw => exact ⟨b, us, e1, by rw [upd_ne (fun z => hw rfl (by rw [e1, z]))]; exact k1, k2, k3⟩
      | .oK zs, ⟨b, us, e1, k1, k2, k3⟩, hw => exact ⟨b, us, e1, by rw [upd_ne (fun z => hw rfl (by rw [e1, z]))]; exact k1, k2, k3⟩
      | .kK zs, q2, _ => exact q2
      | .oT zs, ⟨b, us, e1, k1, k2, k3⟩, hw => exact ⟨b, us, e1, by rw [upd_ne (fun z => hw rfl (by rw [e1, z]))]; exact k1, k2, k3⟩
  · have aux : ∀ (j : Nat) (y : Slot), (sl.set i (some (.oL ys)))[j]? = some (some y) → y.own = true → ∃ y', sl[j]? = some (some y') ∧ y'.own = true := by
      intro j y ej oy
      rcases key j y ej with ⟨rfl, rfl⟩ | ⟨hj, ej'⟩
      · exact ⟨_, hi, rfl⟩
      · exact ⟨y, ej', oy⟩
    obtain ⟨y', e1, o1⟩ := aux j y ej oy
    obtain ⟨z', e2, o2⟩ := aux l z el oz
    exact r.apart j l y' z' b n e1 e2 o1 o2
theorem mutL_inv {G : Type} {sl : SL} {g : G} {i : Nat} {h : List D → Option (List D)} {m : Fl × SL × G} (e : sMutL i h sl g = some m) : ∃ xs ys, sl[i]? = some (some (.oL xs)) ∧ h xs = some ys ∧ m = (.nx, sl.set i (some (.oL ys)), g) := by
  unfold sMutL at e
  split at e
  · rename_i xs hx
    split at e
    · rename_i ys hy
      cases e
      exact ⟨xs, ys, hx, hy, rfl⟩
    · cases e
  · cases e
theorem goS_some {K : PySem.W.Frag} {Hf : Hp} {m : Option (Fl × SL × Z.W.G)} {D : Ends} (h : goS Z K E Wx Hf m D) : ∃ r, m = some r := by
  match m, h with
  | some r, _ => exact ⟨r, rfl⟩
theorem R.own {H Hf : Hp} {g : Z.W.G} {sl : SL} {σ : St} {i : Nat} {xs : List D} (r : R X.K E H Hf g sl σ) (hi : sl[i]? = some (some (.oL xs))) : ∃ q vs, σ[i]? = some (some (.ref q)) ∧ H q = some (.lst vs) ∧ DvAll X.K Hf vs xs := by
  obtain ⟨v, h1, a, vs, e1, h2, h3, h4⟩ := r.slot i _ hi
  exact ⟨a, vs, by rw [h1, e1], h2, h3⟩
theorem ownL_inv {G : Type} {sl : SL} {g : G} {i : Nat} {k : SM G} {m : Fl × SL × G} (e : sOwnL i k sl g = some m) : ∃ xs, sl[i]? = some (some (.oL xs)) ∧ k sl g = some m := by
  unfold sOwnL at e
  split at e
  · rename_i xs hx
    exact ⟨xs, hx, e⟩
  · cases e
theorem goS_own {K : PySem.W.Frag} {Hf : Hp} {sl : SL} {g : Z.W.G} {i : Nat} {k : SM Z.W.G} {D : Ends} (h : goS Z K E Wx Hf (sOwnL i k sl g) D) : ∃ xs, sl[i]? = some (some (.oL xs)) ∧ goS Z K E Wx Hf (k sl g) D := by
  obtain ⟨m, em⟩ := goS_some h
  obtain ⟨xs, h1, h2⟩ := ownL_inv em
  rw [em] at h
  exact ⟨xs, h1, by rw [h2]; exact h⟩
theorem goS_mut {H Hf : Hp} {sl : SL} {σ : St} {g : Z.W.G} {i : Nat} {h : List D → Option (List D)} {xs : List D} {D : Ends} (r : R X.K E H Hf g sl σ) (hi : sl[i]? = some (some (.oL xs))) (q : goS Z X.K E Wx Hf (sMutL i h sl g) D) :
    ∃ ys : List DL.D, h xs = some ys ∧ ∀ q ws, σ[i]? = some (some (.ref q)) → DvAll X.K Hf ws ys → D.nx σ (upd H q (.lst ws)) := by
  obtain ⟨m, em⟩ := goS_some q
  obtain ⟨xs', ys, h1, h2, rfl⟩ := mutL_inv em
  rw [hi] at h1
  cases h1
  rw [em] at q
  exact ⟨ys, h2, fun a ws ha d => q σ _ Hf (same_refl _) (r.updOwn hi ha d)⟩
section
variable {i : Nat} {x : Str} (hN : X.N[i]? = some x := by rfl) (hv : Vis X.env.scope x := by first | exact Or.inl rfl | exact Or.inr (Or.inl rfl) | exact Or.inr (Or.inr rfl)) (hd : (x == ("__debug__" : Str)) = false := by decide)
  (hcd : (x == ("__classdict__" : Str)) = false := by decide)
theorem ds_app {i : Nat} {x : Str} (he : DE X Z E Wx e fe) (hN : X.N[i]? = some x := by rfl) (hv : Vis X.env.scope x := by first | exact Or.inl rfl | exact Or.inr (Or.inl rfl) | exact Or.inr (Or.inr rfl)) (hd : (x == ("__debug__" : Str)) = false := by decide)
    (hcd : (x == ("__classdict__" : Str)) = false := by decide) (hbase : attributeBase (.Name x p) "append" X.env (eval (.Name x p) X.env) = eval (.Name x p) X.env := by rfl)
    (hfew : ((backTo cp (starEach [e] X.env)).all (fun x => !x.1) && (backToKw cp (keywordEach [] X.env)).all (fun x => x.1.isSome)
      && decide ([e].length + ([] : List Keyword).length + (if ([] : List Keyword).isEmpty then 0 else 1) < 30)) = true := by rfl)
    (hline : (ap.endLine == cp.line) = true := by rfl) (hst : starEach [e] X.env = (false, eval e X.env) :: starEach [] X.env := by rfl) (hplain : (backTo cp (starEach [] X.env)).any (·.1) = false := by rfl)
    (hs : swapsWith (.Call (.Attribute (.Name x p) "append" ap) [e] [] cp) none pos.line X.env = pure false := by rfl) : DS X Z E Wx (.Expr (.Call (.Attribute (.Name x p) "append" ap) [e] [] cp) pos) (sApp i fe) := by
  refine PS.imp (ps_expr (pe_bm PySem.F.plainAttrs_list PySem.F.slot_list_append PySem.F.type_list_append mt_append (pe_var hN hv hd hcd) (pa_cons he pa_nil hst) hbase hfew hline hst hplain) hs) fun D σ H ⟨Hf, g, sl, r, q⟩ => ?_
  obtain ⟨xs, hi, q⟩ := goS_own q
  obtain ⟨l, vs, hl, hH, dv⟩ := r.own hi
  refine ⟨_, hl, .inl ⟨rfl, vs, SqL.of hH⟩, Hf, g, sl, r, (goS_do (Rl := RlD X.K) r q).mono fun v H1 ⟨Hf1, g1, d, b1, r1, d1, q1⟩ => ?_⟩
  obtain ⟨ys, ey, k⟩ := goS_mut r1 hi q1
  obtain ⟨l1, vs1, hl1, hH1, dv1⟩ := r1.own hi
  rw [hl] at hl1
  cases hl1
  split at ey
  · rename_i hlen
    cases ey
    exact ⟨l, vs1, v, rfl, rfl, hH1, by rw [dv1.len]; exact lim_lt (Nat.le_of_lt hlen), k l _ hl (dv1.append (.cons d1 .nil))⟩
  · cases ey
theorem ds_ext {i : Nat} {x : Str} (he : DE X Z E Wx e fe) (hN : X.N[i]? = some x := by rfl) (hv : Vis X.env.scope x := by first | exact Or.inl rfl | exact Or.inr (Or.inl rfl) | exact Or.inr (Or.inr rfl)) (hd : (x == ("__debug__" : Str)) = false := by decide)
    (hcd : (x == ("__classdict__" : Str)) = false := by decide) (hbase : attributeBase (.Name x p) "extend" X.env (eval (.Name x p) X.env) = eval (.Name x p) X.env := by rfl)
    (hfew : ((backTo cp (starEach [e] X.env)).all (fun x => !x.1) && (backToKw cp (keywordEach [] X.env)).all (fun x => x.1.isSome)
      && decide ([e].length + ([] : List Keyword).length + (if ([] : List Keyword).isEmpty then 0 else 1) < 30)) = true := by rfl)
    (hline : (ap.endLine == cp.line) = true := by rfl) (hst : starEach [e] X.env = (false, eval e X.env) :: starEach [] X.env := by rfl) (hplain : (backTo cp (starEach [] X.env)).any (·.1) = false := by rfl)
    (hs : swapsWith (.Call (.Attribute (.Name x p) "extend" ap) [e] [] cp) none pos.line X.env = pure false := by rfl) : DS X Z E Wx (.Expr (.Call (.Attribute (.Name x p) "extend" ap) [e] [] cp) pos) (sExt i fe) := by
  refine PS.imp (ps_expr (pe_bm PySem.F.plainAttrs_list PySem.F.slot_list_extend PySem.F.type_list_extend mt_extend (pe_var hN hv hd hcd) (pa_cons he pa_nil hst) hbase hfew hline hst hplain) hs) fun D σ H ⟨Hf, g, sl, r, q⟩ => ?_
  obtain ⟨xs, hi, q⟩ := goS_own q
  obtain ⟨l, vs, hl, hH, dv⟩ := r.own hi
  refine ⟨_, hl, .inl ⟨rfl, vs, SqL.of hH⟩, Hf, g, sl, r, (goS_do (Rl := RlD X.K) r q).mono fun v H1 ⟨Hf1, g1, d, b1, r1, d1, q1⟩ => ?_⟩
  obtain ⟨ys, ey, k⟩ := goS_mut r1 hi q1
  obtain ⟨l1, vs1, hl1, hH1, dv1⟩ := r1.own hi
  rw [hl] at hl1
  cases hl1
  match d, ey, d1 with
  | .lst zs, ey, d1 =>
    simp only at ey
    split at ey
    · rename_i hlen
      cases ey
      cases d1 with
      | lst h1 h2 => exact ⟨l, _, vs1, _, rfl, rfl, hH1, b1.fh _ _ h1, by rw [dv1.len, h2.len]; exact lim_line2 hlen, k l _ hl (dv1.append h2)⟩
    · cases ey
theorem ds_seti {i : Nat} {x : Str} {ps : Pos} (hk : DE X Z E Wx a fa) (he : DE X Z E Wx e fe) (hN : X.N[i]? = some x := by rfl) (hv : Vis X.env.scope x := by first | exact Or.inl rfl | exact Or.inr (Or.inl rfl) | exact Or.inr (Or.inr rfl)) (hd : (x == ("__debug__" : Str)) = false := by decide)
    (hcd : (x == ("__classdict__" : Str)) = false := by decide)
    (ha : ∀ v, assign (.Subscript (.Name x p) a ps) X.env v = (do
      let ov ← holding [v] (eval (.Name x p) X.env)
      let iv ← holding [v, ov] (eval a X.env)
      standAt ps
      holding [v, ov, iv] (setItem ov iv v)
      release [v, ov, iv] []) := by intro _; rfl)
    (hs : swapsWithSole [.Subscript (.Name x p) a ps] e pos.line X.env = pure false := by rfl) (hw : swappedStores [.Subscript (.Name x p) a ps] e X.env = pure none := by rfl) :
    DS X Z E Wx (.Assign [.Subscript (.Name x p) a ps] e pos) (sSetI i fa fe) := by
  refine PS.imp (ps_asg he (pg_sub (pe_var hN hv hd hcd) hk set_list ha) hs hw) fun D σ H ⟨Hf, g, sl, r, q⟩ => ?_
  obtain ⟨xs, hi, q⟩ := goS_own q
  refine ⟨Hf, g, sl, r, (goS_do (Rl := RlD X.K) r q).mono fun v H1 ⟨Hf1, g1, d, b1, r1, d1, q1⟩ => ?_⟩
  obtain ⟨l, vs, hl, hH, dv⟩ := r1.own hi
  refine ⟨_, hl, Hf1, g1, sl, r1, (goS_do (Rl := RlD X.K) r1 q1).mono fun kv H2 ⟨Hf2, g2, kd, b2, r2, d2, q2⟩ => ?_⟩
  obtain ⟨ys, ey, k⟩ := goS_mut r2 hi q2
  obtain ⟨l1, vs1, hl1, hH1, dv1⟩ := r2.own hi
  rw [hl] at hl1
  cases hl1
  match kd, ey, d2 with
  | .int z, ey, d2 =>
    cases d2
    simp only at ey
    split at ey
    · rename_i j hj
      cases ey
      exact ⟨l, vs1, z, j, rfl, rfl, hH1, by rw [dv1.len]; exact hj, k l _ hl (dv1.set j (Dv.mono b2.ff _ d1))⟩
    · cases ey
theorem ds_pop0 {i j : Nat} {x y : Str} {py p0 : Pos} {k0 : Nat} (hnd : X.N.Nodup) (hij : i ≠ j) (hj : X.N[j]? = some y) (hy : Loc X.env.scope y) (hN : X.N[i]? = some x := by rfl) (hv : Vis X.env.scope x := by first | exact Or.inl rfl | exact Or.inr (Or.inl rfl) | exact Or.inr (Or.inr rfl)) (hd : (x == ("__debug__" : Str)) = false := by decide)
    (hcd : (x == ("__classdict__" : Str)) = false := by decide) (hbase : attributeBase (.Name x p) "pop" X.env (eval (.Name x p) X.env) = eval (.Name x p) X.env := by rfl)
    (hfew : ((backTo cp (starEach [.Constant (.int 0) k0 p0] X.env)).all (fun x => !x.1) && (backToKw cp (keywordEach [] X.env)).all (fun x => x.1.isSome)
      && decide ([(.Constant (.int 0) k0 p0 : Expr)].length + ([] : List Keyword).length + (if ([] : List Keyword).isEmpty then 0 else 1) < 30)) = true := by rfl)
    (hline : (ap.endLine == cp.line) = true := by rfl) (hst : starEach [.Constant (.int 0) k0 p0] X.env = (false, eval (.Constant (.int 0) k0 p0) X.env) :: starEach [] X.env := by rfl) (hplain : (backTo cp (starEach [] X.env)).any (·.1) = false := by rfl)
    (hs : swapsWith (.Call (.Attribute (.Name x p) "pop" ap) [.Constant (.int 0) k0 p0] [] cp) (some (.Name y py)) pos.line X.env = pure false := by rfl) (hf : X.fn y = true ∨ X.env.scope.names.lookup y = some .local := by first | exact .inl rfl | exact .inr rfl | assumption) :
    DS X Z E Wx (.Assign [.Name y py] (.Call (.Attribute (.Name x p) "pop" ap) [.Constant (.int 0) k0 p0] [] cp) pos) (sPop0 j i) := by
  refine PS.imp (ps_set hnd hj hy (pe_bm PySem.F.plainAttrs_list PySem.F.slot_list_pop PySem.F.type_list_pop mt_popAt (pe_var hN hv hd hcd) (pa_cons pe_int pa_nil hst) hbase hfew hline hst hplain) hs hf) fun D σ H ⟨Hf, g, sl, r, q⟩ => ?_
  unfold sPop0 at q
  match ei : sl[i]? with
  | some (some (.oL (d :: xs))) =>
    rw [ei] at q
    obtain ⟨l, vs, hl, hH, dv⟩ := r.own ei
    cases dv with
    | cons d1 d2 =>
      rename_i v vs'
      refine ⟨_, hl, .inl ⟨rfl, _, SqL.of hH⟩, l, _, 0, 0, v, rfl, rfl, hH, by decide, by decide, (ixN_seq (n := (v :: vs').length) (i := 0) (j := 0) (by simp [ixN])).1, rfl, ?_⟩
      have r2 := r.updOwn ei hl (ws := vs') (ys := xs) d2
      exact q _ _ Hf (same_refl _) (r2.setd j d1)
  | some (some (.oL [])) => rw [ei] at q; exact q.elim
  | some (some (.d y)) => rw [ei] at q; exact q.elim
  | some (some (.oK y)) => rw [ei] at q; exact q.elim
  | some (some (.oT y)) => rw [ei] at q; exact q.elim
  | some (some (.kK y)) => rw [ei] at q; exact q.elim
  | some none => rw [ei] at q; exact q.elim
  | none => rw [ei] at q; exact q.elim
end
/-- raise X('..') -/
theorem ds_raise {C : Addr} {bmB : List Value} {B newId initId : String} {x m : Str} {j : Nat} {p2 cp : Pos} (n : Nat) (hn : Z.cls n = .ref C) (hc : X.calm = true) (tk : Takes X Wx) (F : ExcBaseFacts B newId initId bmB) (q : PySem.W.excIn X.K C bmB newId = true) (gC : X.mg x = some (.ref C)) (kC : PySem.W.keepIn X.K (.ref C) = true) (r : Raises X (.ref C)) (hg : Gl X x)
    (hdb : (x == ("__debug__" : Str)) = false := by decide) : DS X Z E Wx (.Raise (some (.Call (.Name x p) [.Constant (.str m) j p2] [] cp)) none pos) (sRaise n) := by
  refine PS.imp (ps_raise hc tk (pmk_own F q gC kC r hg hdb)) fun D σ H ⟨Hf, g, sl, r, q⟩ => ?_
  have := q σ H Hf r
  rw [hn] at this
  exact this
/-- a raise that is not reached -/
theorem ds_never {st : Stmt} : DS X Z E Wx st (fun _ _ => none) := PS.imp ps_never fun D σ H ⟨Hf, g, sl, r, q⟩ => q
/-- f() -/
theorem de_call0 {F : Fn Z.W.G} {k : Nat} {f : Addr} {fd : FuncData} {x : Str} (G : FnOk X.prog X.w X.K X.mg X.base (L2.CX X.prog X.w) k f fd [] (spF Z X.K 0 F)) (hr : Room k X.A) (hg : Gl X x) (hm : X.mg x = some (.ref f)) (hk : PySem.W.keepIn X.K (.ref f) = true) (hb : Binds X.K fd [] [])
    (tk : Takes X Wx) (hdb : (x == ("__debug__" : Str)) = false := by decide) : DE X Z E Wx (.Call (.Name x p) [] [] pos) (fun _ g => F [] g) := by
  refine ⟨fun pins s σ H Q I ⟨Hf, g, sl, r, q⟩ => ?_⟩
  refine wpAny_Call_Name_kw (ld_glob I hg hm ?_ hdb)
  refine PySem.W.callWith_K0 I.kIn hk (run_fnS (us := []) (vs := []) (E := WE Wx) G hr hb (passAt tk σ) I .nil ⟨rfl, Hf, g, [], r.base.self, .nil, go_wx q⟩)

/-! ### a def -/
theorem start_R {P : Program} {K : PySem.W.Frag} {H Hf : Hp} {g : Z.W.G} {N : List Str} {vs : List V} {ds : List D} (B : Base Z.W H Hf g H Hf g) (dv : DvAll K Hf vs ds) (hl : ds.length ≤ N.length) :
    R K ⟨H, Hf, g⟩ H Hf g (ds.map (fun d => some (Slot.d d)) ++ List.replicate (N.length - ds.length) none) (L2.start N vs) := by
  have key : ∀ (i : Nat) (x : Slot), (ds.map (fun d => some (Slot.d d)) ++ List.replicate (N.length - ds.length) none)[i]? = some (some x) → ∃ d, ds[i]? = some d ∧ x = .d d := by
    intro i x e
    rw [List.getElem?_append] at e
    split at e
    · rename_i hi
      rw [List.getElem?_map] at e
      cases ed : ds[i]? with
      | none => rw [ed] at e; cases e
      | some d =>
        rw [ed] at e
        cases e
        exact ⟨d, rfl, rfl⟩
    · rw [List.getElem?_replicate] at e
      split at e
      · cases e
      · cases e
  refine ⟨B, fun i x e => ?_, fun i j x y a n e1 e2 o1 _ => ?_, ?_⟩
  · obtain ⟨d, ed, rfl⟩ := key i x e
    obtain ⟨v, ev, dd⟩ := dv.get' ed
    refine ⟨v, ?_, dd⟩
    unfold L2.start
    have hi : i < vs.length := (List.getElem?_eq_some_iff.mp ev).1
    rw [List.getElem?_append_left (by simpa using hi), List.getElem?_map, ev]
    rfl
  · obtain ⟨d, _, rfl⟩ := key i x e1
    cases o1
  · unfold L2.start
    rw [List.length_append, List.length_append, List.length_map, List.length_map, List.length_replicate, List.length_replicate, dv.len]
theorem fn_ok {P : Program} {w : World} {K : PySem.W.Frag} {mg : Str → Option Value} {base : Heap} {x qual : Str} {st : Stmt} {f : Addr} {fd : FuncData} {N ps : List Str} {k : Nat} {fs : SM Z.W.G} (F : Fun K x qual st f fd) (S : FnScope N ps (defScope st)) (hl : ps.length ≤ N.length)
    (body : ∀ (cdv : Value) (A : Around) (outer : List Env) (s : Shared) (H : Hp) (E : Ent Z.W) (Ex : XK), Room k (A.deeper (PyProof.Rows.envOfC qual (defScope st) s.heap.objs.size f cdv)) →
      DSs (cxOf (L2.CX P w) P w K mg base N qual (defScope st) f cdv A outer s H Ex) Z E (fun cls d _ H => Ex cls d H) (defBody st) fs) :
    FnOk P w K mg base (L2.CX P w) (k + 1) f fd ps (spF Z K ps.length (fnD N.length fs)) := by
  refine F.okX S (fun vs H Q E h => h.1) fun cdv A outer s H vs Q Ex hr ⟨hv, Hf, g, ds, B, dv, q⟩ => ⟨_, body cdv A outer s H ⟨H, Hf, g⟩ Ex hr, Hf, g, _, start_R (P := P) B dv (by rw [← dv.len, hv]; exact hl), ?_⟩
  unfold fnD at q
  match em : fs (ds.map (fun d => some (.d d)) ++ List.replicate (N.length - ds.length) none) g with
  | none => rw [em] at q; exact q.elim
  | some (.nx, sl', g') => rw [em] at q ⊢; exact fun σ' H' Hf' _ r => q .non H' Hf' r.base .non
  | some (.bk, sl', g') => rw [em] at q; exact q.elim
  | some (.ct, sl', g') => rw [em] at q; exact q.elim
  | some (.rt d, sl', g') => rw [em] at q ⊢; exact q
  | some (.ex c, sl', g') => rw [em] at q ⊢; exact fun σ' H' Hf' r => q H' Hf' r.base
end
end DL
namespace DL
open PySem L2

/-! ### small things for the printed derivations -/
def LenM {G : Type} (fs : M G (List D)) (n : Nat) : Prop := ∀ sl g ds g', fs sl g = some (.ok ds, g') → ds.length = n
theorem len_nil {G : Type} : LenM (G := G) aNil 0 := fun sl g ds g' h => by cases h; rfl
theorem len_cons {G : Type} {fe : M G D} {fs : M G (List D)} {n : Nat} (h : LenM fs n) : LenM (aCons fe fs) (n + 1) := fun sl g ds g' e => by
  unfold aCons M.bind at e
  split at e
  · cases e
  · cases e
  · simp only at e
    split at e
    · cases e
    · cases e
    · rename_i h2
      cases e
      rw [List.length_cons, h _ _ _ _ h2]
section
variable {X : Cx} {Z : Cn} {E : Ent Z.W} {Wx : WX} {e a b c : Expr} {pos p ap cp : Pos} {fe fa fb fc : M Z.W.G D} {ft : M Z.W.G Bool} {fs fs' : SM Z.W.G}
theorem dts_nil {K : PySem.W.Frag} : PTs X [] (tG Z K E RlB Wx tYesM) := ⟨fun pins s σ H Q I ⟨Hf, g, sl, r, q⟩ => pts_nil.run pins s σ H Q I (q true H Hf r.base.self rfl)⟩
theorem dts_one (h : DT X Z E Wx c ft) : PTs X [c] (tG Z X.K E RlB Wx ft) := pts_one h
/-- sep.join(xs), xs a list or tuple of texts -/
def asSs : List D → Option (List (List Nat))
  | [] => some []
  | .str s :: ds => (asSs ds).map (s :: ·)
  | _ => none
theorem asSs_some : ∀ {ds : List D} {ss : List (List Nat)}, asSs ds = some ss → ds = ss.map D.str
  | [], _, h => by cases h; rfl
  | .str b :: ds, bs, h => by
    obtain ⟨l, e1, rfl⟩ := Option.map_eq_some_iff.mp h
    rw [asSs_some e1]; rfl
def joinS (sep : List Nat) : List (List Nat) → List Nat
  | [] => []
  | [p] => p
  | p :: q :: r => p ++ (sep ++ joinS sep (q :: r))
def joinD (sep : List Nat) : D → Option D
  | .lst xs => (asSs xs).bind fun ss => if (joinS sep ss).length ≤ LIM ∧ (ss.map List.length).sum + ss.length * sep.length ≤ LIM then some (.str (joinS sep ss)) else none
  | .tup xs => (asSs xs).bind fun ss => if (joinS sep ss).length ≤ LIM ∧ (ss.map List.length).sum + ss.length * sep.length ≤ LIM then some (.str (joinS sep ss)) else none
  | _ => none
def eJoin {G : Type} (a b : M G D) : M G D := M.bind a fun x => M.bind (M.lift (asS x)) fun s => M.bind b fun y => M.lift (joinD s y)
theorem join_mkS (sep : List Nat) (ss : List (List Nat)) : Txt.join (mkS sep) (ss.map mkS) = mkS (joinS sep ss) := by
  rw [TL.join_eq]
  apply TL.ext_tl
  rw [TL.tl_join]
  have h1 : TL.tl (mkS sep) = sep := by simp [TL.tl, mkS]
  have h2 : (ss.map mkS).map TL.tl = ss := by
    rw [List.map_map]
    have : (TL.tl ∘ mkS) = id := by funext s; simp [TL.tl, mkS]
    rw [this, List.map_id]
  have h3 : TL.tl (mkS (joinS sep ss)) = joinS sep ss := by simp [TL.tl, mkS]
  rw [h1, h2, h3]
  have key : ∀ l : List (List Nat), TL.joinL sep l = joinS sep l := by
    intro l
    induction l with
    | nil => rfl
    | cons p l ih =>
      cases l with
      | nil => rfl
      | cons q l => show p ++ (sep ++ TL.joinL sep (q :: l)) = p ++ (sep ++ joinS sep (q :: l)); rw [ih]
  exact key ss
theorem joinS_mem {sep : List Nat} : ∀ {ss : List (List Nat)} {c : Nat}, c ∈ joinS sep ss → c ∈ sep ∨ ∃ s ∈ ss, c ∈ s
  | [], c, h => by cases h
  | [p], c, h => .inr ⟨p, by simp, h⟩
  | p :: q :: r, c, h => by
    rcases List.mem_append.mp h with h | h
    · exact .inr ⟨p, by simp, h⟩
    · rcases List.mem_append.mp h with h | h
      · exact .inl h
      · rcases joinS_mem h with h | ⟨s, hs, h⟩
        · exact .inl h
        · exact .inr ⟨s, List.mem_cons_of_mem _ hs, h⟩
theorem join_run {W : Wd} {H Hf : Hp} {g : W.G} {y : V} {sep : List Nat} {b d : D} {Q : VK} (B : Base W H Hf g H Hf g) (o1 : okS sep) (hb : Dr X.K g Hf H y b) (ed : joinD sep b = some d) (k : ∀ v H' Hf', Base W H Hf g H' Hf' g → Dv X.K Hf' v d → Q v H') :
    (∃ a p, ∃ ys : List Str, V.str (mkS sep) = .str a ∧ [y] = [.ref p] ∧ (SqL X.K H p (ys.map V.str) ∨ SqT X.K H p (ys.map V.str)) ∧
    (ys.map (·.length)).sum + ys.length * a.length ≤ 16777216 ∧ Q (.str (Txt.join a ys)) H) := by
  have core : ∀ (ss : List (List Nat)) (vs : List V) (q : Addr), DvAll X.K Hf vs (ss.map D.str) → ((joinS sep ss).length ≤ LIM ∧ (ss.map List.length).sum + ss.length * sep.length ≤ LIM) → (SqL X.K H q vs ∨ SqT X.K H q vs) → d = .str (joinS sep ss) →
      (∃ a p, ∃ ys : List Str, V.str (mkS sep) = .str a ∧ [V.ref q] = [.ref p] ∧ (SqL X.K H p (ys.map V.str) ∨ SqT X.K H p (ys.map V.str)) ∧ (ys.map (·.length)).sum + ys.length * a.length ≤ 16777216 ∧ Q (.str (Txt.join a ys)) H) := by
    intro ss vs q dv hl hq ed
    subst ed
    have hvs := dv.strs
    subst hvs
    refine ⟨mkS sep, q, ss.map mkS, rfl, rfl, hq, ?_, ?_⟩
    · rw [List.map_map, List.length_map, mkS_len]
      have : ((fun s : Str => s.length) ∘ mkS) = List.length := by funext s; simp [mkS_len]
      rw [this]
      exact Nat.le_trans hl.2 (by unfold LIM; decide)
    · rw [join_mkS]
      refine k _ _ _ B (.str _ ⟨hl.1, fun c hc => ?_⟩)
      rcases joinS_mem hc with h | ⟨s, hs, h⟩
      · exact o1.2 c h
      · exact (dv.oks s hs).2 c h
  match b, ed, hb with
  | .lst xs, ed, hb =>
    obtain ⟨q, vs, rfl, h1, h2⟩ := hb.lst B.fh
    simp only [joinD] at ed
    obtain ⟨ss, es, ed2⟩ := Option.bind_eq_some_iff.mp ed
    obtain rfl := asSs_some es
    split at ed2
    · rename_i hl
      cases ed2
      exact core ss vs q h2 hl (.inl (SqL.of h1)) rfl
    · cases ed2
  | .tup xs, ed, hb =>
    obtain ⟨q, vs, rfl, h1, h2⟩ := hb.tup
    simp only [joinD] at ed
    obtain ⟨ss, es, ed2⟩ := Option.bind_eq_some_iff.mp ed
    obtain rfl := asSs_some es
    split at ed2
    · rename_i hl
      cases ed2
      exact core ss vs q h2 hl (.inr ((.inl (B.rd h1)))) rfl
    · cases ed2
theorem de_join (ha : DE X Z E Wx a fa) (hb : DR X Z E Wx b fb) (hs : starEach [b] X.env = [(false, eval b X.env)] := by rfl) (hbase : attributeBase a "join" X.env (eval a X.env) = eval a X.env := by rfl) (hline : (ap.endLine == cp.line) = true := by rfl) :
    DE X Z E Wx (.Call (.Attribute a "join" ap) [b] [] cp) (eJoin fa fb) := by
  refine PE.imp (pe_m1 PySem.F.slot_str_join PySem.F.type_str_join mt_join ha hb hs hbase hline) fun σ H Q ⟨Hf, g, sl, r, q⟩ => ?_
  refine ⟨Hf, g, sl, r, (go_bind (Rm := RlD X.K) q).mono fun x H1 ⟨Hf1, g1, a, b1, d1, q1⟩ => ?_⟩
  obtain ⟨s, es, q2⟩ := go_bl q1
  obtain rfl := asS_some es
  cases d1 with
  | str _ ok =>
    refine ⟨⟨_, rfl⟩, Hf1, g1, sl, r.step b1, (go_bind (Rm := RlR X.K) q2).mono fun y H2 ⟨Hf2, g2, b, b2, d2, q3⟩ => ?_⟩
    obtain ⟨d, ed, k⟩ := go_lift q3
    exact join_run b2.self ok d2 ed k
/-! the built-ins' names -/
theorem bt_len : bootBuiltins "len" = some (.builtin "len") := by decide +kernel
theorem bt_all : bootBuiltins "all" = some (.builtin "all") := by decide +kernel
theorem bt_sorted : bootBuiltins "sorted" = some (.builtin "sorted") := by decide +kernel
theorem bt_min : bootBuiltins "min" = some (.builtin "min") := by decide +kernel
theorem bt_max : bootBuiltins "max" = some (.builtin "max") := by decide +kernel
theorem bt_int : bootBuiltins "int" = some (.type "int") := by decide +kernel
theorem bt_bool : bootBuiltins "bool" = some (.type "bool") := by decide +kernel
theorem bt_str : bootBuiltins "str" = some (.type "str") := by decide +kernel
theorem bt_tuple : bootBuiltins "tuple" = some (.type "tuple") := by decide +kernel
theorem bt_list : bootBuiltins "list" = some (.type "list") := by decide +kernel
theorem bt_dict : bootBuiltins "dict" = some (.type "dict") := by decide +kernel
theorem bt_set : bootBuiltins "set" = some (.type "set") := by decide +kernel
end
end DL
namespace DL
open PySem L2

/-! ### the town: the script, what was drawn -/
structure Tw where
  inn : Bool
  sc : Addr
  ns : List Int
  tn : Option (Addr × Addr)
  ct : Int
  rs : List (Int × Int)
def Tw.fp (g : Tw) (b : Addr) : Prop := (g.inn = true ∧ b = g.sc) ∨ ∃ t q, g.tn = some (t, q) ∧ (b = t ∨ b = q)
def rsV (rs : List (Int × Int)) : List (Key × V) := rs.map fun p => (.inl p.1, .int p.2)
def tnV (ct : Int) (q : Addr) : List (Key × V) := [(.inr "count", .int ct), (.inr "rests", .ref q)]
structure Tw.rep (K : PySem.W.Frag) (g : Tw) (H : Hp) : Prop where
  s : SqL K (if g.inn = true then H else fun _ => none) g.sc (g.ns.map V.int)
  th : g.inn = true → H g.sc ≠ none
  tn : ∀ t q, g.tn = some (t, q) → H t = some (.dK (tnV g.ct q)) ∧ H q = some (.dK (rsV g.rs)) ∧ t ≠ q ∧ (g.inn = true → g.sc ≠ t ∧ g.sc ≠ q)
theorem sql_loc {K : PySem.W.Frag} {H H' : Hp} {a : Addr} {xs : List V} (h : SqL K H a xs) (e : H' a = H a) : SqL K H' a xs := by
  rcases h with h | h
  · rcases h with h | ⟨o, h⟩
    · exact .inl (.inl (by rw [e]; exact h))
    · exact .inl (.inr ⟨o, by rw [e]; exact h⟩)
  · exact .inr h
theorem sql_none {K : PySem.W.Frag} {H : Hp} {a : Addr} {xs : List V} (h : SqL K (fun _ => none) a xs) : SqL K H a xs := by
  rcases h with h | h
  · rcases h with h | ⟨o, h⟩
    · cases h
    · cases h
  · exact .inr h
theorem Tw.rep.sq {K : PySem.W.Frag} {g : Tw} {H : Hp} (r : g.rep K H) : SqL K H g.sc (g.ns.map V.int) := by
  have := r.s
  split at this
  · exact this
  · exact sql_none this
theorem Tw.rep.loc {K : PySem.W.Frag} {g : Tw} {H H' : Hp} (r : g.rep K H) (e : ∀ b, g.fp b → H' b = H b) : g.rep K H' := by
  refine ⟨?_, fun hi => ?_, fun t q ht => ?_⟩
  · have := r.s
    by_cases hi : g.inn = true
    · rw [if_pos hi] at this ⊢
      exact sql_loc this (e _ (.inl ⟨hi, rfl⟩))
    · rw [if_neg hi] at this ⊢
      exact this
  · rw [e _ (.inl ⟨hi, rfl⟩)]; exact r.th hi
  · obtain ⟨h1, h2, h3, h4⟩ := r.tn t q ht
    exact ⟨by rw [e _ (.inr ⟨t, q, ht, .inl rfl⟩)]; exact h1, by rw [e _ (.inr ⟨t, q, ht, .inr rfl⟩)]; exact h2, h3, h4⟩
theorem Tw.rep.there {K : PySem.W.Frag} {g : Tw} {H : Hp} {b : Addr} (r : g.rep K H) (h : g.fp b) : H b ≠ none := by
  rcases h with ⟨hi, rfl⟩ | ⟨t, q, ht, hb⟩
  · exact r.th hi
  · obtain ⟨h1, h2, _⟩ := r.tn t q ht
    rcases hb with rfl | rfl
    · rw [h1]; simp
    · rw [h2]; simp
/-- the world: the town and what else there is -/
def TW (K : PySem.W.Frag) (Vw : Wd) : Wd where
  G := Tw × Vw.G
  rep := fun g H Hf => g.1.rep K H ∧ Vw.rep g.2 H Hf ∧ ∀ b, g.1.fp b → ¬ Vw.fp g.2 b
  fp := fun g b => g.1.fp b ∨ Vw.fp g.2 b
  loc := fun g H H' Hf Hf' r e x => ⟨r.1.loc fun b hb => e b (.inl hb), Vw.loc g.2 H H' Hf Hf' r.2.1 (fun b hb => e b (.inr hb)) x, r.2.2⟩
  there := fun g H Hf b r h => h.elim (fun z => r.1.there z) (fun z => Vw.there g.2 H Hf b r.2.1 z)
/-- nothing else -/
def W0d : Wd where
  G := Unit
  rep := fun _ _ _ => True
  fp := fun _ _ => False
  loc := fun _ _ _ _ _ _ _ _ => trivial
  there := fun _ _ _ _ _ h => h.elim
abbrev TZ (K : PySem.W.Frag) (Vw : Wd) (cls : Nat → Value) : Cn := ⟨TW K Vw, cls⟩

/-- the world is written -/
theorem Base.world {W : Wd} {H Hf H' : Hp} {g g' : W.G} (b : Base W H Hf g H Hf g) (rep : W.rep g' H' Hf) (hk : ∀ x o, H x = some o → ¬ W.fp g x → H' x = some o) (hfp : ∀ x, W.fp g' x → W.fp g x ∨ H x = none) (th : ∀ x, H x ≠ none → H' x ≠ none) : Base W H Hf g H' Hf g' where
  ff := same_refl _
  fh := fun x o h => hk x o (b.fh x o h) fun q => by rw [b.dis x q] at h; cases h
  keep := hk
  old := fun _ _ => rfl
  there := th
  rep := rep
  dis := fun x q => by
    rcases hfp x q with z | z
    · exact b.dis x z
    · exact b.hn z
  fpo := hfp

section
variable {X : Cx} {Vw : Wd} {cls : Nat → Value}
theorem base_count {H Hf : Hp} {g : Tw × Vw.G} {t q : Addr} (n : Int) (b : Base (TW X.K Vw) H Hf g H Hf g) (ht : g.1.tn = some (t, q)) : Base (TW X.K Vw) H Hf g (upd H t (.dK (tnV n q))) Hf ({ g.1 with ct := n }, g.2) := by
  obtain ⟨h1, h2, h3, h4⟩ := b.rep.1.tn t q ht
  have hfp : (TW X.K Vw).fp g t := .inl (.inr ⟨t, q, ht, .inl rfl⟩)
  have hS : ∀ x, x ≠ t → upd H t (.dK (tnV n q)) x = H x := fun x hx => upd_ne hx
  refine b.world ⟨⟨?_, fun hi => ?_, fun t' q' e => ?_⟩, ?_, ?_⟩ ?_ ?_ ?_
  · have := b.rep.1.s
    by_cases hi : g.1.inn = true
    · simp only [hi, if_true] at this ⊢
      exact sql_loc this (hS _ (h4 hi).1)
    · simp only [hi] at this ⊢
      exact this
  · rw [hS _ (h4 hi).1]; exact b.rep.1.th hi
  · have e2 : some (t, q) = some (t', q') := ht.symm.trans e
    cases e2
    exact ⟨upd_same, by rw [hS _ h3.symm]; exact h2, h3, h4⟩
  · exact Wd.loc1 b.rep.2.1 fun x hx => hS x fun z => by subst z; exact b.rep.2.2 x (.inr ⟨x, q, ht, .inl rfl⟩) hx
  · exact b.rep.2.2
  · intro x o h hn
    rw [hS x fun z => by subst z; exact hn hfp]; exact h
  · exact fun x h => .inl h
  · intro x hx
    by_cases e : x = t
    · subst e; rw [upd_same]; simp
    · rw [hS x e]; exact hx
theorem base_rests {H Hf : Hp} {g : Tw × Vw.G} {t q : Addr} (rs : List (Int × Int)) (b : Base (TW X.K Vw) H Hf g H Hf g) (ht : g.1.tn = some (t, q)) : Base (TW X.K Vw) H Hf g (upd H q (.dK (rsV rs))) Hf ({ g.1 with rs := rs }, g.2) := by
  obtain ⟨h1, h2, h3, h4⟩ := b.rep.1.tn t q ht
  have hfp : (TW X.K Vw).fp g q := .inl (.inr ⟨t, q, ht, .inr rfl⟩)
  have hS : ∀ x, x ≠ q → upd H q (.dK (rsV rs)) x = H x := fun x hx => upd_ne hx
  refine b.world ⟨⟨?_, fun hi => ?_, fun t' q' e => ?_⟩, ?_, ?_⟩ ?_ ?_ ?_
  · have := b.rep.1.s
    by_cases hi : g.1.inn = true
    · simp only [hi, if_true] at this ⊢
      exact sql_loc this (hS _ (h4 hi).2)
    · simp only [hi] at this ⊢
      exact this
  · rw [hS _ (h4 hi).2]; exact b.rep.1.th hi
  · have e2 : some (t, q) = some (t', q') := ht.symm.trans e
    cases e2
    exact ⟨by rw [hS _ h3]; exact h1, upd_same, h3, h4⟩
  · exact Wd.loc1 b.rep.2.1 fun x hx => hS x fun z => by subst z; exact b.rep.2.2 x (.inr ⟨t, x, ht, .inr rfl⟩) hx
  · exact b.rep.2.2
  · intro x o h hn
    rw [hS x fun z => by subst z; exact hn hfp]; exact h
  · exact fun x h => .inl h
  · intro x hx
    by_cases e : x = q
    · subst e; rw [upd_same]; simp
    · rw [hS x e]; exact hx

/-! the pure side -/
section
variable {G : Type}
/-- slot i holds the script; slot i holds the town -/
def mScr (i : Nat) : M (Tw × G) (List Int) := fun sl g => match sl[i]? with
  | some (some (.d (.ref a))) => if a = g.1.sc then some (.ok g.1.ns, g) else none
  | _ => none
def mTwn (i : Nat) : M (Tw × G) Tw := fun sl g => match sl[i]? with
  | some (some (.d (.ref a))) => if g.1.tn.map (·.1) = some a then some (.ok g.1, g) else none
  | _ => none
def eScrLen (i : Nat) : M (Tw × G) D := M.bind (mScr i) fun ns => M.pure (.int ns.length)
def tScr (i : Nat) : M (Tw × G) Bool := M.bind (mScr i) fun ns => M.pure (!ns.isEmpty)
def eScrAt (i : Nat) (fa : M (Tw × G) D) : M (Tw × G) D := M.bind (mScr i) fun _ => M.bind fa fun k => M.bind (mScr i) fun ns => M.lift (match k with
  | .int z => (atI ns z).map D.int
  | _ => none)
def eCount (i : Nat) : M (Tw × G) D := M.bind (mTwn i) fun t => M.pure (.int t.ct)
def rsGet (rs : List (Int × Int)) (k : Int) : Option Int := (rs.find? fun p => decide (p.1 = k)).map (·.2)
def rsPut (rs : List (Int × Int)) (k v : Int) : List (Int × Int) :=
  if (rs.any fun p => decide (p.1 = k)) = true then rs.map (fun p => if p.1 = k then (p.1, v) else p) else rs ++ [(k, v)]
def eRest (i : Nat) (fk fd : M (Tw × G) D) : M (Tw × G) D := M.bind (mTwn i) fun t => M.bind fk fun k => M.bind fd fun d => fun sl g => match k, d with
  | .int z, .int y => if g.1.tn = t.tn then some (.ok (.int ((rsGet g.1.rs z).getD y)), g) else none
  | _, _ => none
def sCount (i : Nat) (fv : M (Tw × G) D) : SM (Tw × G) := sDo fv fun v => sDo (mTwn i) fun _ => fun sl g => match v with
  | .int z => some (.nx, sl, ({ g.1 with ct := z }, g.2))
  | _ => none
def sRest (i : Nat) (fk fv : M (Tw × G) D) : SM (Tw × G) := sDo fv fun v => sDo (mTwn i) fun t => sDo fk fun k => fun sl g => match k, v with
  | .int z, .int y => if g.1.tn = t.tn ∧ g.1.rs.length < LIM then some (.nx, sl, ({ g.1 with rs := rsPut g.1.rs z y }, g.2)) else none
  | _, _ => none
end
theorem rsV_get (rs : List (Int × Int)) (k : Int) : valV (rsV rs) (.inl k) = (rsGet rs k).map V.int := by
  unfold valV rsV rsGet
  induction rs with
  | nil => rfl
  | cons p rs ih =>
    rw [List.map_cons, List.find?_cons, List.find?_cons]
    by_cases h : p.1 = k
    · simp [h]
    · have h2 : ¬ ((Sum.inl p.1 : Key) = Sum.inl k) := fun z => h (Sum.inl.inj z)
      simp only [h, h2, decide_false]
      exact ih
theorem rsV_put (rs : List (Int × Int)) (k v : Int) : putK (rsV rs) (.inl k) (.int v) = rsV (rsPut rs k v) := by
  unfold putK rsV rsPut
  have h1 : ((rs.map fun p => ((.inl p.1 : Key), V.int p.2)).any fun kv => decide (kv.1 = .inl k)) = rs.any fun p => decide (p.1 = k) := by
    rw [List.any_map]
    congr 1
    funext p
    by_cases h : p.1 = k
    · simp [h]
    · have h2 : ¬ ((Sum.inl p.1 : Key) = Sum.inl k) := fun z => h (Sum.inl.inj z)
      simp [h, h2]
  rw [h1]
  split
  · rw [List.map_map, List.map_map]
    congr 1
    funext p
    show (if (Sum.inl p.1 : Key) = Sum.inl k then _ else _) = _
    by_cases h : p.1 = k
    · rw [if_pos (by rw [h])]; simp [h]
    · have h2 : ¬ ((Sum.inl p.1 : Key) = Sum.inl k) := fun z => h (Sum.inl.inj z)
      rw [if_neg h2]; simp [h]
  · rw [List.map_append]; rfl

/-! the rules -/
variable {E : Ent (TW X.K Vw)} {Wx : WX} {e a b c : Expr} {pos p ap cp : Pos} {fe fa fb fc : M (Tw × Vw.G) D}
theorem scr_inv {G : Type} {i : Nat} {sl : SL} {g : Tw × G} {α β : Type} {k : List Int → M (Tw × G) α} {m : Res α × (Tw × G)} (h : M.bind (mScr i) k sl g = some m) : sl[i]? = some (some (.d (.ref g.1.sc))) ∧ k g.1.ns sl g = some m := by
  unfold M.bind mScr at h
  match e : sl[i]? with
  | some (some (.d (.ref a))) =>
    rw [e] at h
    by_cases ha : a = g.1.sc
    · simp only [ha, if_true] at h ⊢
      exact ⟨trivial, h⟩
    · simp only [ha, if_false] at h
      cases h
  | some (some (.d .non)) => rw [e] at h; cases h
  | some (some (.d (.bl _))) => rw [e] at h; cases h
  | some (some (.d (.int _))) => rw [e] at h; cases h
  | some (some (.d (.str _))) => rw [e] at h; cases h
  | some (some (.d (.tup _))) => rw [e] at h; cases h
  | some (some (.d (.tupF _))) => rw [e] at h; cases h
  | some (some (.d (.tupS _))) => rw [e] at h; cases h
  | some (some (.d (.lst _))) => rw [e] at h; cases h
  | some (some (.oL y)) => rw [e] at h; cases h
  | some (some (.oK y)) => rw [e] at h; cases h
  | some (some (.oT y)) => rw [e] at h; cases h
  | some (some (.kK y)) => rw [e] at h; cases h
  | some none => rw [e] at h; cases h
  | none => rw [e] at h; cases h
theorem twn_inv {G : Type} {i : Nat} {sl : SL} {g : Tw × G} {α β : Type} {k : Tw → M (Tw × G) α} {m : Res α × (Tw × G)} (h : M.bind (mTwn i) k sl g = some m) : ∃ t q, sl[i]? = some (some (.d (.ref t))) ∧ g.1.tn = some (t, q) ∧ k g.1 sl g = some m := by
  unfold M.bind mTwn at h
  match e : sl[i]? with
  | some (some (.d (.ref a))) =>
    rw [e] at h
    by_cases ha : g.1.tn.map (·.1) = some a
    · simp only [ha, if_true] at h
      obtain ⟨⟨t, q⟩, e1, rfl⟩ := Option.map_eq_some_iff.mp ha
      exact ⟨t, q, rfl, e1, h⟩
    · simp only [ha, if_false] at h
      cases h
  | some (some (.d .non)) => rw [e] at h; cases h
  | some (some (.d (.bl _))) => rw [e] at h; cases h
  | some (some (.d (.int _))) => rw [e] at h; cases h
  | some (some (.d (.str _))) => rw [e] at h; cases h
  | some (some (.d (.tup _))) => rw [e] at h; cases h
  | some (some (.d (.tupF _))) => rw [e] at h; cases h
  | some (some (.d (.tupS _))) => rw [e] at h; cases h
  | some (some (.d (.lst _))) => rw [e] at h; cases h
  | some (some (.oL y)) => rw [e] at h; cases h
  | some (some (.oK y)) => rw [e] at h; cases h
  | some (some (.oT y)) => rw [e] at h; cases h
  | some (some (.kK y)) => rw [e] at h; cases h
  | some none => rw [e] at h; cases h
  | none => rw [e] at h; cases h
theorem go_some {Z : Cn} {α β : Type} {Rl : Z.W.G → Hp → Hp → β → α → Prop} {σ : St} {m : Out Z.W.G α} {H Hf : Hp} {g : Z.W.G} {Q : β → Hp → Prop} (h : go Z Rl Wx σ m H Hf g Q) : ∃ r, m = some r := by
  match m, h with
  | some r, _ => exact ⟨r, rfl⟩
theorem go_scr {α β : Type} {Rl : (TW X.K Vw).G → Hp → Hp → β → α → Prop} {σ : St} {sl : SL} {H Hf : Hp} {g : Tw × Vw.G} {i : Nat} {k : List Int → M (Tw × Vw.G) α} {Q : β → Hp → Prop} (r : R X.K E H Hf g sl σ) (h : go (TZ X.K Vw cls) Rl Wx σ (M.bind (mScr i) k sl g) H Hf g Q) :
    σ[i]? = some (some (.ref g.1.sc)) ∧ SqL X.K H g.1.sc (g.1.ns.map V.int) ∧ go (TZ X.K Vw cls) Rl Wx σ (k g.1.ns sl g) H Hf g Q := by
  obtain ⟨m, em⟩ := go_some h
  obtain ⟨h1, h2⟩ := scr_inv (β := β) em
  obtain ⟨v, h3, h4⟩ := r.slot i _ h1
  cases h4
  exact ⟨h3, r.base.rep.1.sq, by rw [em] at h; rw [h2]; exact h⟩
theorem go_twn {α β : Type} {Rl : (TW X.K Vw).G → Hp → Hp → β → α → Prop} {σ : St} {sl : SL} {H Hf : Hp} {g : Tw × Vw.G} {i : Nat} {k : Tw → M (Tw × Vw.G) α} {Q : β → Hp → Prop} (r : R X.K E H Hf g sl σ) (h : go (TZ X.K Vw cls) Rl Wx σ (M.bind (mTwn i) k sl g) H Hf g Q) :
    ∃ t q, σ[i]? = some (some (.ref t)) ∧ g.1.tn = some (t, q) ∧ go (TZ X.K Vw cls) Rl Wx σ (k g.1 sl g) H Hf g Q := by
  obtain ⟨m, em⟩ := go_some h
  obtain ⟨t, q, h1, ht, h2⟩ := twn_inv (β := β) em
  obtain ⟨v, h3, h4⟩ := r.slot i _ h1
  cases h4
  exact ⟨t, q, h3, ht, by rw [em] at h; rw [h2]; exact h⟩
theorem goS_twn {σ : St} {sl : SL} {H Hf : Hp} {g : Tw × Vw.G} {i : Nat} {k : Tw → SM (Tw × Vw.G)} {D : Ends} (r : R X.K E H Hf g sl σ) (h : goS (TZ X.K Vw cls) X.K E Wx Hf (sDo (mTwn i) k sl g) D) :
    ∃ t q, σ[i]? = some (some (.ref t)) ∧ g.1.tn = some (t, q) ∧ goS (TZ X.K Vw cls) X.K E Wx Hf (k g.1 sl g) D := by
  have e1 : ∃ t q, sl[i]? = some (some (.d (.ref t))) ∧ g.1.tn = some (t, q) ∧ goS (TZ X.K Vw cls) X.K E Wx Hf (k g.1 sl g) D := by
    unfold sDo mTwn at h
    match e : sl[i]? with
    | some (some (.d (.ref a))) =>
      rw [e] at h
      by_cases ha : g.1.tn.map (·.1) = some a
      · simp only [ha, if_true] at h
        obtain ⟨⟨t, q⟩, e1, rfl⟩ := Option.map_eq_some_iff.mp ha
        exact ⟨t, q, rfl, e1, h⟩
      · simp only [ha, if_false] at h
        exact h.elim
    | some (some (.d .non)) => rw [e] at h; exact h.elim
    | some (some (.d (.bl _))) => rw [e] at h; exact h.elim
    | some (some (.d (.int _))) => rw [e] at h; exact h.elim
    | some (some (.d (.str _))) => rw [e] at h; exact h.elim
    | some (some (.d (.tup _))) => rw [e] at h; exact h.elim
    | some (some (.d (.tupF _))) => rw [e] at h; exact h.elim
    | some (some (.d (.tupS _))) => rw [e] at h; exact h.elim
    | some (some (.d (.lst _))) => rw [e] at h; exact h.elim
    | some (some (.oL y)) => rw [e] at h; exact h.elim
    | some (some (.oK y)) => rw [e] at h; exact h.elim
    | some (some (.oT y)) => rw [e] at h; exact h.elim
    | some (some (.kK y)) => rw [e] at h; exact h.elim
    | some none => rw [e] at h; exact h.elim
    | none => rw [e] at h; exact h.elim
  obtain ⟨t, q, h1, ht, h2⟩ := e1
  obtain ⟨v, h3, h4⟩ := r.slot i _ h1
  cases h4
  exact ⟨t, q, h3, ht, h2⟩
theorem de_scrlen (i : Nat) {x : Str} {p2 : Pos} (hg : Gl X "len") (hm : X.mg "len" = none) (hN : X.N[i]? = some x := by rfl) (hv : Vis X.env.scope x := by first | exact Or.inl rfl | exact Or.inr (Or.inl rfl) | exact Or.inr (Or.inr rfl)) (hd : (x == ("__debug__" : Str)) = false := by decide)
    (hcd : (x == ("__classdict__" : Str)) = false := by decide) (hs : starEach [.Name x p2] X.env = (false, eval (.Name x p2) X.env) :: starEach [] X.env := by rfl) (hpl : (backTo pos (starEach [] X.env)).any (·.1) = false := by rfl) : DE X (TZ X.K Vw cls) E Wx (.Call (.Name "len" p) [.Name x p2] [] pos) (eScrLen i) := by
  refine PE.imp (pe_callB call_len hg hm bt_len (pa_cons (pe_var hN hv hd hcd) pa_nil hs) (by decide) (by decide) hs hpl) fun σ H Q ⟨Hf, g, sl, r, q⟩ => ?_
  obtain ⟨h1, h2, q1⟩ := go_scr r q
  exact ⟨_, h1, _, g.1.ns.length, rfl, .inl ⟨_, h2, by simp⟩, go_pure q1 _ _ _ r.base.self (.int _)⟩
theorem dt_scr (i : Nat) {x : Str} (hN : X.N[i]? = some x := by rfl) (hv : Vis X.env.scope x := by first | exact Or.inl rfl | exact Or.inr (Or.inl rfl) | exact Or.inr (Or.inr rfl)) (hd : (x == ("__debug__" : Str)) = false := by decide)
    (hcd : (x == ("__classdict__" : Str)) = false := by decide) (he : ∀ whole, isTrue (.Name x pos) X.env whole = (do let v ← whole; standAt (Expr.Name x pos).pos; holding [v] (truthy v)) := by intro _; rfl) : DT X (TZ X.K Vw cls) E Wx (.Name x pos) (tScr i) := by
  refine PT.imp (pt_truth (pe_var hN hv hd hcd) he) fun σ H Q ⟨Hf, g, sl, r, q⟩ => ?_
  obtain ⟨h1, h2, q1⟩ := go_scr r q
  refine ⟨_, h1, _, .inl ⟨_, h2, ?_⟩, go_pure q1 _ _ _ r.base.self rfl⟩
  cases g.1.ns <;> rfl
theorem de_scrat (i : Nat) {x : Str} (hb : DR X (TZ X.K Vw cls) E Wx b fb) (hN : X.N[i]? = some x := by rfl) (hv : Vis X.env.scope x := by first | exact Or.inl rfl | exact Or.inr (Or.inl rfl) | exact Or.inr (Or.inr rfl)) (hd : (x == ("__debug__" : Str)) = false := by decide)
    (hcd : (x == ("__classdict__" : Str)) = false := by decide) (hs : PlainIx b := by intro _ _; rfl) : DE X (TZ X.K Vw cls) E Wx (.Subscript (.Name x p) b pos) (eScrAt i fb) := by
  refine PE.imp (pe_ix ix_seq (pe_var hN hv hd hcd) hb hs) fun σ H Q ⟨Hf, g, sl, r, q⟩ => ?_
  obtain ⟨h1, h2, q1⟩ := go_scr r q
  refine ⟨_, h1, Hf, g, sl, r, (go_bind (Rm := RlR X.K) q1).mono fun y H2 ⟨Hf2, g2, b, b2, d2, q2⟩ => ?_⟩
  obtain ⟨h3, h4, q3⟩ := go_scr (r.step b2) q2
  rw [h1] at h3
  have hsc : g.1.sc = g2.1.sc := by injection h3 with h3; injection h3 with h3; injection h3
  obtain ⟨d, ed, k⟩ := go_lift q3
  match b, ed, d2 with
  | .int z, ed, d2 =>
    obtain rfl := d2.int
    obtain ⟨n, en, rfl⟩ := Option.map_eq_some_iff.mp ed
    refine .inl ⟨_, _, z, .int n, rfl, rfl, by rw [hsc]; exact h4, ?_, k _ _ _ b2.self (.int n)⟩
    obtain ⟨j, e1, e2⟩ := atI_iff.mp en
    exact atI_iff.mpr ⟨j, by simpa using e1, by simp [e2]⟩
theorem cr_ne : ¬ (("count" : Str) = "rests") := by decide +kernel
theorem rc_ne : ¬ (("rests" : Str) = "count") := by decide +kernel
theorem tn_count (n : Int) (q : Addr) : valV (tnV n q) (.inr "count") = some (.int n) := by unfold tnV; rw [valV_pos rfl]
theorem tn_rests (n : Int) (q : Addr) : valV (tnV n q) (.inr "rests") = some (.ref q) := by
  unfold tnV
  rw [valV_neg (fun z => cr_ne (Sum.inr.inj z)), valV_pos rfl]
theorem tn_put (n m : Int) (q : Addr) : putK (tnV n q) (.inr "count") (.int m) = tnV m q := by
  unfold putK tnV
  rw [if_pos (by simp)]
  simp only [List.map_cons, List.map_nil, if_true]
  rw [if_neg (fun z => rc_ne (Sum.inr.inj z))]
theorem de_count (i : Nat) {x : Str} {j : Nat} {p2 : Pos} (hu : X.A.units + 1 < cLine) (hN : X.N[i]? = some x := by rfl) (hv : Vis X.env.scope x := by first | exact Or.inl rfl | exact Or.inr (Or.inl rfl) | exact Or.inr (Or.inr rfl)) (hd : (x == ("__debug__" : Str)) = false := by decide)
    (hcd : (x == ("__classdict__" : Str)) = false := by decide) (hs : NoSl (.Constant (.str "count") j p2) := by intro _ _; rfl) : DE X (TZ X.K Vw cls) E Wx (.Subscript (.Name x p) (.Constant (.str "count") j p2) pos) (eCount i) := by
  refine PE.imp (pe_dget hu (pe_var hN hv hd hcd) pe_str hs) fun σ H Q ⟨Hf, g, sl, r, q⟩ => ?_
  obtain ⟨t, q0, h1, ht, q1⟩ := go_twn r q
  obtain ⟨h2, _⟩ := r.base.rep.1.tn t q0 ht
  exact ⟨_, h1, t, .int g.1.ct, rfl, by rw [← tn_count g.1.ct q0]; exact DGet.k (k := .inr "count") h2, go_pure q1 _ _ _ r.base.self (.int _)⟩
theorem de_rest (i : Nat) {x : Str} {j : Nat} {p1 p2 p3 : Pos} (hu : X.A.units + 1 < cLine) (ha : DE X (TZ X.K Vw cls) E Wx a fa) (hb : DE X (TZ X.K Vw cls) E Wx b fb) (hN : X.N[i]? = some x := by rfl) (hv : Vis X.env.scope x := by first | exact Or.inl rfl | exact Or.inr (Or.inl rfl) | exact Or.inr (Or.inr rfl)) (hd : (x == ("__debug__" : Str)) = false := by decide)
    (hcd : (x == ("__classdict__" : Str)) = false := by decide) (hs : NoSl (.Constant (.str "rests") j p2) := by intro _ _; rfl) (m : M2 X (.Subscript (.Name x p1) (.Constant (.str "rests") j p2) p3) "get" ap a b cp := by exact ⟨rfl, rfl, rfl, rfl⟩) :
    DE X (TZ X.K Vw cls) E Wx (.Call (.Attribute (.Subscript (.Name x p1) (.Constant (.str "rests") j p2) p3) "get" ap) [a, b] [] cp) (eRest i fa fb) := by
  refine PE.imp (pe_dget2 hu (pe_dget hu (pe_var hN hv hd hcd) pe_str hs) ha hb m) fun σ H Q ⟨Hf, g, sl, r, q⟩ => ?_
  obtain ⟨t, q0, h1, ht, q1⟩ := go_twn r q
  obtain ⟨h2, h3, _⟩ := r.base.rep.1.tn t q0 ht
  refine ⟨_, h1, t, .ref q0, rfl, by rw [← tn_rests g.1.ct q0]; exact DGet.k (k := .inr "rests") h2, q0, rfl, .inl ⟨_, .inl h3⟩, Hf, g, sl, r, (go_bind (Rm := RlD X.K) q1).mono fun y H2 ⟨Hf2, g2, kd, b2, d2, q2⟩ => ⟨Hf2, g2, sl, r.step b2, (go_bind (Rm := RlD X.K) q2).mono fun z H3 ⟨Hf3, g3, dd, b3, d3, q3⟩ => ?_⟩⟩
  match kd, dd, d2, d3, q3 with
  | .int k, .int d, d2, d3, q3 =>
    cases d2
    cases d3
    simp only at q3
    split at q3
    · rename_i htn
      obtain ⟨_, h4, _⟩ := b3.rep.1.tn t q0 (by rw [htn]; exact ht)
      refine ⟨_, DGet.k (k := .inl k) h4, ?_⟩
      rw [rsV_get]
      refine q3 _ _ _ b3.self ?_
      cases rsGet g3.1.rs k <;> exact .int _
    · exact q3.elim
theorem ds_count (i : Nat) {x : Str} {j : Nat} {p2 pt : Pos} (hu : X.A.units + 1 < cLine) (he : DE X (TZ X.K Vw cls) E Wx e fe) (hN : X.N[i]? = some x := by rfl) (hv : Vis X.env.scope x := by first | exact Or.inl rfl | exact Or.inr (Or.inl rfl) | exact Or.inr (Or.inr rfl)) (hd : (x == ("__debug__" : Str)) = false := by decide)
    (hcd : (x == ("__classdict__" : Str)) = false := by decide) (hs : swapsWith e (some (.Subscript (.Name x p) (.Constant (.str "count") j p2) pt)) pos.line X.env = pure false := by rfl) : DS X (TZ X.K Vw cls) E Wx (.Assign [.Subscript (.Name x p) (.Constant (.str "count") j p2) pt] e pos) (sCount i fe) := by
  refine PS.imp (ps_dput hu (pe_var hN hv hd hcd) pe_str he hs) fun D σ H ⟨Hf, g, sl, r, q⟩ => ?_
  refine ⟨Hf, g, sl, r, (goS_do (Rl := RlD X.K) r q).mono fun v H1 ⟨Hf1, g1, d, b1, r1, d1, q1⟩ => ?_⟩
  obtain ⟨t, q0, h1, ht, q2⟩ := goS_twn r1 q1
  obtain ⟨h2, _⟩ := r1.base.rep.1.tn t q0 ht
  refine ⟨_, h1, t, _, rfl, DPut.k (k := .inr "count") h2 (by show 2 < sizeLine; decide), ?_⟩
  match d, d1, q2 with
  | .int z, d1, q2 =>
    cases d1
    rw [tn_put]
    exact q2 σ _ Hf1 (same_refl _) (r1.step (base_count z r1.base.self ht))
theorem ds_rest (i : Nat) {x : Str} {j : Nat} {p1 p2 p3 p4 : Pos} (hu : X.A.units + 1 < cLine) (ha : DE X (TZ X.K Vw cls) E Wx a fa) (he : DE X (TZ X.K Vw cls) E Wx e fe) (hN : X.N[i]? = some x := by rfl) (hv : Vis X.env.scope x := by first | exact Or.inl rfl | exact Or.inr (Or.inl rfl) | exact Or.inr (Or.inr rfl)) (hd : (x == ("__debug__" : Str)) = false := by decide)
    (hcd : (x == ("__classdict__" : Str)) = false := by decide) (hsl : NoSl (.Constant (.str "rests") j p2) := by intro _ _; rfl) (hs : swapsWith e (some (.Subscript (.Subscript (.Name x p1) (.Constant (.str "rests") j p2) p3) a p4)) pos.line X.env = pure false := by rfl) :
    DS X (TZ X.K Vw cls) E Wx (.Assign [.Subscript (.Subscript (.Name x p1) (.Constant (.str "rests") j p2) p3) a p4] e pos) (sRest i fa fe) := by
  refine PS.imp (ps_dput hu (pe_dget hu (pe_var hN hv hd hcd) pe_str hsl) ha he hs) fun D σ H ⟨Hf, g, sl, r, q⟩ => ?_
  refine ⟨Hf, g, sl, r, (goS_do (Rl := RlD X.K) r q).mono fun v H1 ⟨Hf1, g1, d, b1, r1, d1, q1⟩ => ?_⟩
  obtain ⟨t, q0, h1, ht, q2⟩ := goS_twn r1 q1
  obtain ⟨h2, _⟩ := r1.base.rep.1.tn t q0 ht
  refine ⟨_, h1, t, .ref q0, rfl, by rw [← tn_rests g1.1.ct q0]; exact DGet.k (k := .inr "rests") h2, Hf1, g1, sl, r1, (goS_do (Rl := RlD X.K) r1 q2).mono fun y H2 ⟨Hf2, g2, kd, b2, r2, d2, q3⟩ => ?_⟩
  match kd, d, d2, d1, q3 with
  | .int k, .int z, d2, d1, q3 =>
    cases d2
    cases d1
    simp only at q3
    split at q3
    · rename_i htn
      have ht2 : g2.1.tn = some (t, q0) := by rw [htn.1]; exact ht
      obtain ⟨_, h4, _⟩ := r2.base.rep.1.tn t q0 ht2
      refine ⟨q0, _, rfl, DPut.k (k := .inl k) h4 ?_, ?_⟩
      · unfold rsV; rw [List.length_map]; exact lim_lt (Nat.le_of_lt htn.2)
      · rw [rsV_put]
        exact q3 σ _ Hf2 (same_refl _) (r2.step (base_rests _ r2.base.self ht2))
    · exact q3.elim
end
end DL
namespace DL
open PySem L2
section
variable {X : Cx} {Vw : Wd} {cls : Nat → Value}
/-! ### the town is made; the law -/
def begG {G : Type} (g : Tw × G) (t q : Addr) : Tw × G := ({ g.1 with tn := some (t, q), ct := 0, rs := [] }, g.2)
def spBeg (K : PySem.W.Frag) (Vw : Wd) : Sp := fun vs H Q Ex => vs.length = 0 ∧ ∃ (Hf : Hp) (g : Tw × Vw.G), Base (TW K Vw) H Hf g H Hf g ∧ g.1.tn = none ∧ ∀ t q H', Base (TW K Vw) H Hf g H' Hf (begG g t q) → Q (.ref t) H'
theorem base_beg {K : PySem.W.Frag} {H Hf : Hp} {g : Tw × Vw.G} {t q : Addr} (b : Base (TW K Vw) H Hf g H Hf g) (hn : g.1.tn = none) (ht : H t = none) (hq : H q = none) (hne : t ≠ q) : Base (TW K Vw) H Hf g (upd (upd (upd H t (.dK [])) q (.dK [])) t (.dK (tnV 0 q))) Hf (begG g t q) := by
  have hS : ∀ x, x ≠ t → x ≠ q → upd (upd (upd H t (.dK [])) q (.dK [])) t (.dK (tnV 0 q)) x = H x := fun x h1 h2 => by rw [upd_ne h1, upd_ne h2, upd_ne h1]
  have hO : ∀ x, H x ≠ none → x ≠ t ∧ x ≠ q := fun x hx => ⟨fun e => by subst e; exact hx ht, fun e => by subst e; exact hx hq⟩
  have hfp : ∀ x, g.1.fp x → x ≠ t ∧ x ≠ q := fun x hx => hO x (b.rep.1.there hx)
  have hfp2 : ∀ x, Vw.fp g.2 x → x ≠ t ∧ x ≠ q := fun x hx => hO x (Vw.there g.2 H _ x b.rep.2.1 hx)
  refine b.world ⟨⟨?_, fun hi => ?_, fun t' q' e => ?_⟩, ?_, ?_⟩ ?_ ?_ ?_
  · have := b.rep.1.s
    show SqL K (if g.1.inn = true then _ else _) g.1.sc (g.1.ns.map V.int)
    by_cases hi : g.1.inn = true
    · rw [if_pos hi] at this ⊢
      have := hO _ (b.rep.1.th hi)
      exact sql_loc ‹_› (hS _ this.1 this.2)
    · rw [if_neg hi] at this ⊢
      exact this
  · have := hO _ (b.rep.1.th hi)
    show _ ≠ none
    rw [show upd (upd (upd H t (.dK [])) q (.dK [])) t (.dK (tnV 0 q)) (begG g t q).1.sc = H g.1.sc from hS _ this.1 this.2]; exact b.rep.1.th hi
  · have e2 : some (t, q) = some (t', q') := e
    cases e2
    refine ⟨upd_same, ?_, hne, fun hi => ?_⟩
    · rw [upd_ne hne.symm, upd_same]; rfl
    · have := hO _ (b.rep.1.th hi)
      exact this
  · exact Wd.loc1 b.rep.2.1 fun x hx => hS x (hfp2 x hx).1 (hfp2 x hx).2
  · intro x hx hv
    have h2 := hfp2 x hv
    rcases hx with ⟨hi, rfl⟩ | ⟨t', q', e, hb⟩
    · exact b.rep.2.2 _ (.inl ⟨hi, rfl⟩) hv
    · have e2 : some (t, q) = some (t', q') := e
      cases e2
      rcases hb with rfl | rfl
      · exact h2.1 rfl
      · exact h2.2 rfl
  · intro x o h _
    have := hO x (by rw [h]; simp)
    rw [hS x this.1 this.2]; exact h
  · intro x hx
    rcases hx with hx | hx
    · rcases hx with ⟨hi, rfl⟩ | ⟨t', q', e, hb⟩
      · exact .inl (.inl (.inl ⟨hi, rfl⟩))
      · have e2 : some (t, q) = some (t', q') := e
        cases e2
        rcases hb with rfl | rfl
        · exact .inr ht
        · exact .inr hq
    · exact .inl (.inr hx)
  · intro x hx
    have := hO x hx
    rw [hS x this.1 this.2]; exact hx
abbrev tBeg : TS := tRet (tDisp [(tC (.str "count"), tC (.int 0)), (tC (.str "rests"), tDNewK)])
theorem ok_beg {P : Program} {w : World} {K : PySem.W.Frag} {mg : Str → Option Value} {base : Heap} {x qual : Str} {st : Stmt} {f : Addr} {fd : FuncData} {k : Nat} (F : Fun K x qual st f fd) (S : FnScope [] [] (defScope st))
    (body : ∀ (cdv : Value) (A : Around) (outer : List Env) (s : Shared) (H : Hp) (Ex : XK), PSs (cxOf (L2.CX P w) P w K mg base [] qual (defScope st) f cdv A outer s H Ex) (defBody st) tBeg) :
    FnOk P w K mg base (L2.CX P w) (k + 1) f fd [] (spBeg K Vw) := by
  refine F.okX S (fun vs H Q E h => h.1) fun cdv A outer s H vs Q Ex hr ⟨hv, Hf, g, B, hn, q⟩ => ⟨_, body cdv A outer s H Ex, ?_⟩
  intro p hp
  intro q0 hq0
  have hne : p ≠ q0 := fun e => by subst e; rw [upd_same] at hq0; cases hq0
  refine ⟨by rw [upd_ne hne, upd_same], [(.inr "count", .int 0), (.inr "rests", .ref q0)], rfl, by simp, ?_⟩
  have hm : mergeK [] [((.inr "count" : Key), V.int 0), (.inr "rests", .ref q0)] = tnV 0 q0 := by
    unfold mergeK
    rw [List.foldl_cons, List.foldl_cons, List.foldl_nil]
    have h1 : putK ([] : List (Key × V)) (.inr "count") (.int 0) = [(.inr "count", .int 0)] := rfl
    rw [h1, putK_new _ (by rw [valV_neg (fun z => cr_ne (Sum.inr.inj z))]; rfl)]
    rfl
  rw [hm]
  refine q p q0 _ (base_beg B hn hp ?_ hne)
  rw [upd_ne hne.symm] at hq0
  exact hq0
/-- f(), f the town's maker -/
theorem pe_beg {k : Nat} {f : Addr} {fd : FuncData} {x : Str} {p pos : Pos} {Wx : WX} (G : FnOk X.prog X.w X.K X.mg X.base (L2.CX X.prog X.w) k f fd [] (spBeg X.K Vw)) (hr : Room k X.A) (hg : Gl X x) (hm : X.mg x = some (.ref f)) (hk : PySem.W.keepIn X.K (.ref f) = true) (hb : Binds X.K fd [] [])
    (tk : Takes X Wx) (hdb : (x == ("__debug__" : Str)) = false := by decide) : PE X (.Call (.Name x p) [] [] pos) (fun σ H Q => spBeg X.K Vw [] H Q fun _ _ _ => False) := by
  refine ⟨fun pins s σ H Q I q => ?_⟩
  refine wpAny_Call_Name_kw (ld_glob I hg hm ?_ hdb)
  refine PySem.W.callWith_K0 I.kIn hk (run_fnS (us := []) (vs := []) (E := WE Wx) G hr hb (passAt tk σ) I .nil ?_)
  obtain ⟨h1, Hf, g, B, hn, k⟩ := q
  exact ⟨h1, Hf, g, B, hn, k⟩
def spLaw (K : PySem.W.Frag) : Sp := fun vs H Q _ => ∃ (a : Addr) (ns : List Int), vs = [.ref a] ∧ SqL K H a (ns.map V.int) ∧ ns.length ≤ 63 ∧ ∀ H', Q (.bl true) H'
def lawG {G : Type} (v0 : G) (inn : Bool) (a : Addr) (ns : List Int) (t q : Addr) : Tw × G := (⟨inn, a, ns, some (t, q), 0, []⟩, v0)
theorem law_ok {P : Program} {w : World} {K : PySem.W.Frag} {mg : Str → Option Value} {base : Heap} {x qual : Str} {st st0 : Stmt} {rest : List Stmt} {f : Addr} {fd : FuncData} {N : List Str} {k : Nat} {fs : SM (Tw × Vw.G)} (i : Nat) (v0 : Vw.G) (hv : ∀ H, Vw.rep v0 H (fun _ => none)) (hf : ∀ b, ¬ Vw.fp v0 b)
    (F : Fun K x qual st f fd) (S : FnScope N ["script"] (defScope st)) (hl : 1 ≤ N.length) (hb : defBody st = st0 :: rest)
    (body0 : ∀ (cdv : Value) (A : Around) (outer : List Env) (s : Shared) (H : Hp) (Ex : XK), Room k (A.deeper (PyProof.Rows.envOfC qual (defScope st) s.heap.objs.size f cdv)) →
      PS (cxOf (L2.CX P w) P w K mg base N qual (defScope st) f cdv A outer s H Ex) st0 (tAsg (fun σ H Q => spBeg K Vw [] H Q fun _ _ _ => False) (gName i)))
    (body : ∀ (cdv : Value) (A : Around) (outer : List Env) (s : Shared) (H : Hp) (E : Ent (TW K Vw)) (Ex : XK), Room k (A.deeper (PyProof.Rows.envOfC qual (defScope st) s.heap.objs.size f cdv)) →
      DSs (cxOf (L2.CX P w) P w K mg base N qual (defScope st) f cdv A outer s H Ex) (TZ K Vw cls) E (fun cls d _ H => Ex cls d H) rest fs)
    (law : ∀ (inn : Bool) (a : Addr) (ns : List Int) (t q : Addr), ns.length ≤ 63 → ∃ sl' g', fs ((some (.d (.ref a)) :: List.replicate (N.length - 1) none).set i (some (.d (.ref t)))) (lawG v0 inn a ns t q) = some (.rt (.bl true), sl', g')) :
    FnOk P w K mg base (L2.CX P w) (k + 1) f fd ["script"] (spLaw K) := by
  refine F.okX S (fun vs H Q E ⟨a, ns, h, _⟩ => by rw [h]; rfl) fun cdv A outer s H vs Q Ex hr ⟨a, ns, ev, hs, hn, q⟩ => ?_
  subst ev
  have hinn : ∃ inn : Bool, (inn = true → H a ≠ none) ∧ SqL K (if inn = true then H else fun _ => none) a (ns.map V.int) := by
    cases e : H a with
    | none =>
      refine ⟨false, (fun h => nomatch h), ?_⟩
      exact sql_loc (H := H) hs (by rw [e]; rfl)
    | some o => exact ⟨true, fun _ => by simp, hs⟩
  obtain ⟨inn, hi1, hi2⟩ := hinn
  let g0 : Tw × Vw.G := (⟨inn, a, ns, none, 0, []⟩, v0)
  have B0 : Base (TW K Vw) H (fun _ => none) g0 H (fun _ => none) g0 := .refl (fun _ _ h => by cases h) ⟨⟨hi2, hi1, fun t q h => by cases h⟩, hv H, fun b _ => hf b⟩ (fun _ _ => rfl)
  have hbody : PSs (cxOf (L2.CX P w) P w K mg base N qual (defScope st) f cdv A outer s H Ex) (defBody st) (tSeq (tAsg (fun σ H Q => spBeg K Vw [] H Q fun _ _ _ => False) (gName i)) (tS (TZ K Vw cls) K ⟨H, fun _ => none, g0⟩ (fun cls d _ H => Ex cls d H) fs)) := by
    rw [hb]
    exact pss_cons (body0 cdv A outer s H Ex hr) (body cdv A outer s H ⟨H, fun _ => none, g0⟩ Ex hr)
  refine ⟨_, hbody, ?_⟩
  refine ⟨rfl, _, g0, B0, rfl, fun t q0 H' B => ?_⟩
  refine ⟨fun _ => none, begG g0 t q0, (some (.d (.ref a)) :: List.replicate (N.length - 1) none).set i (some (.d (.ref t))), ?_, ?_⟩
  · have r0 : R (W := TW K Vw) K ⟨H, fun _ => none, g0⟩ H (fun _ => none) g0 (some (.d (.ref a)) :: List.replicate (N.length - 1) none) (L2.start N [.ref a]) :=
      start_R (Z := TZ K Vw cls) (P := P) (K := K) (ds := [.ref a]) B0 (.cons (.ref a) .nil) hl
    exact (r0.step B).setd i (.ref t)
  · obtain ⟨sl', g', e⟩ := law inn a ns t q0 hn
    have e' : fs ((some (.d (.ref a)) :: List.replicate (N.length - 1) none).set i (some (.d (.ref t)))) (begG g0 t q0) = some (.rt (.bl true), sl', g') := e
    rw [e']
    intro v H2 Hf2 b d
    cases d
    exact q H2
end
end DL
/-! sorted(set(texts)) -/
namespace L2
open PySem PySem.Spec PyProof.Rows
def txOf (v : Value) : Str := match v with
  | .str k _ => k
  | _ => Str.empty
def txE (e : Int × Value) : Str := txOf e.2
abbrev emptySetO (w : World) : Obj := { cls := .type "set", dict := none, data := .set #[] 0 (.fresh 0 0 (!w.params.followText "set-order")) }
/-- the rows of a table of texts -/
def TxRow (w : World) (e : Int × Value) : Prop := ∃ k tk, e.2 = Value.str k tk ∧ e.1 = hashStr w k
structure TxTab (w : World) (ms : List Str) (es : Array (Int × Value)) (t : SetTable) : Prop where
  row : ∀ e ∈ es.toList, TxRow w e
  nd : (es.toList.map txE).Nodup
  mem : ∀ k, k ∈ ms ↔ k ∈ es.toList.map txE
  few : es.size ≤ ms.length
  bd : es.size < scanBound
  fit : t.fits es.size = true
  ris : Ris t.place.toList
  led : w.params.followText "set-order" = true ∨ t.led = true
def SetTx (w : World) (h : Heap) (a : Addr) (ms : List Str) : Prop := ∃ o es ep t, h.get? a = some o ∧ o.ExactSet ∧ o.data = .set es ep t ∧ TxTab w ms es t
section
variable {P : Program} {w : World}
theorem TxRow.elems {l : List (Int × Value)} (g : ∀ e ∈ l, TxRow w e) : ElemsOf (strKind P w) l := fun e he => by
  obtain ⟨k, tk, q1, q2⟩ := g e he
  exact ⟨⟨k, by rw [q1]; exact strKind_is P w k tk, q2⟩, by rw [q1] <;> rfl⟩
theorem TxRow.isK {e : Int × Value} (g : TxRow w e) (k : Str) : (strKind P w).is k e.2 = true ↔ txE e = k := by
  obtain ⟨k0, tk, q1, _⟩ := g
  unfold txE txOf
  rw [q1]
  constructor
  · intro z
    obtain ⟨t, ez⟩ := Value.isStrOf_shape (x := k) (v := Value.str k0 tk) z
    cases ez; rfl
  · intro z
    have z' : k0 = k := z
    subst z'
    exact strKind_is P w k0 tk
theorem TxRow.memK {l : List (Int × Value)} (g : ∀ e ∈ l, TxRow w e) (k : Str) : k ∈ l.map txE ↔ ∃ e ∈ l, (strKind P w).is k e.2 = true :=
  ⟨fun z => let ⟨e, he, q⟩ := List.mem_map.mp z; ⟨e, he, (TxRow.isK (g e he) k).2 q⟩, fun ⟨e, he, q⟩ => List.mem_map.mpr ⟨e, he, (TxRow.isK (g e he) k).1 q⟩⟩
theorem SetTx.at {h h' : Heap} {a : Addr} {ms : List Str} (R : SetTx w h a ms) (k : ∀ o, h.get? a = some o → h'.get? a = some o) : SetTx w h' a ms :=
  let ⟨o, es, ep, t, ho, r⟩ := R
  ⟨o, es, ep, t, k o ho, r⟩
theorem setTx_new {h : Heap} {a : Addr} (ho : h.get? a = some (emptySetO w)) : SetTx w h a [] := by
  refine ⟨_, #[], 0, _, ho, ⟨rfl, rfl, rfl⟩, rfl, ⟨fun e he => ?_, ?_, fun k => ?_, Nat.le_refl _, by decide, rfl, List.Pairwise.nil, ?_⟩⟩
  · cases he
  · exact List.Pairwise.nil
  · exact Iff.rfl
  · show _ ∨ (!w.params.followText "set-order") = true
    cases hq : w.params.followText "set-order" with
    | true => exact .inl rfl
    | false => exact .inr rfl
end
section
variable {P : Program} {w : World} {A : Around} {E : Value → Shared → Prop} {s : Shared} {a : Addr} {ms : List Str}
/-- the table is stored, and laid anew where it is too full -/
theorem txTail {g : Bool → Sem Unit} (hg : ∀ (b : Bool) (s₁ : Shared) (Q' : Unit → Shared → Prop), Q' () s₁ → wpAny (model P w) A (g b) Q' E s₁)
    {o : Obj} {es : Array (Int × Value)} {ep : Nat} {t : SetTable} (ho : s.heap.get? a = some o) (hex : o.ExactSet) (hd : o.data = .set es ep t) {es1 : Array (Int × Value)} {t2 : SetTable} (T : TxTab w ms es1 t2) {wasDummy : Bool} {R : Option Bool → Shared → Prop}
    (hR : ∀ h', Heap.SameBut a s.heap h' → SetTx w h' a ms → R (some true) { s with heap := h' }) :
    wpAny (model P w) A (do
        storeSet a es1 t2
        if (!wasDummy && t2.tooFull) = true then do
            g (relayAll t2 es1 (SetTable.grown es1.size)).2.2
            storeSet a (relayAll t2 es1 (SetTable.grown es1.size)).1 (relayAll t2 es1 (SetTable.grown es1.size)).2.1
            pure (some true)
          else pure (some true)) R E s := by
  have st1 := store_at (es' := es1) (t' := t2) ho hd
  have same1 := Heap.SameBut.update s.heap a (Obj.putSet es1 t2)
  refine wpAny_bind (wpAny_storeSet_of ho hd ?_ (fits_of_scanBound T.bd))
  split
  · have q1 := relayAll_perm t2 es1 (SetTable.grown es1.size)
    have q2 := relayAll_fits t2 es1 (SetTable.grown es1.size)
    have q3 := relayAll_ris t2 es1 (SetTable.grown es1.size)
    have q4 := relayAll_led t2 es1 (SetTable.grown es1.size)
    generalize relayAll t2 es1 (SetTable.grown es1.size) = Y at q1 q2 q3 q4 ⊢
    rcases Y with ⟨es2, t3, gv⟩
    dsimp only at q1 q2 q3 q4 ⊢
    have len : es2.size = es1.size := by have z := q1.length_eq; rwa [Array.length_toList, Array.length_toList] at z
    have bd2 : es2.size < scanBound := len ▸ T.bd
    have pk := q1.map txE
    refine wpAny_bind (hg _ _ _ (wpAny_bind (wpAny_storeSet_of st1 rfl ?_ (fits_of_scanBound bd2))))
    refine wpAny_pure (hR _ (same1.trans (Heap.SameBut.update _ a _)) ⟨_, es2, _, t3, store_at (es' := es2) (t' := t3) st1 rfl, hex, rfl, ?_⟩)
    exact { row := fun e he => T.row e (q1.mem_iff.mp he), nd := pk.nodup_iff.mpr T.nd, mem := fun k => (T.mem k).trans pk.mem_iff.symm, few := len ▸ T.few, bd := bd2, fit := q2, ris := q3, led := T.led.imp id fun z => q4.trans z }
  · exact wpAny_pure (hR _ same1 ⟨_, es1, _, t2, st1, hex, rfl, T⟩)
theorem setTx_add {k : Str} {tk : Tok} {Q : Bool → Shared → Prop} (R : SetTx w s.heap a ms) (room : ms.length + 1 < scanBound)
    (hQ : ∀ b h', Heap.SameBut a s.heap h' → SetTx w h' a (ms ++ [k]) → Q b { s with heap := h' }) : wpAny (model P w) A (setAddHashed a (.str k tk) ((strKind P w).hash k)) Q E s := by
  obtain ⟨o, es, ep, t, ho, hex, hd, T⟩ := R
  have isk : (strKind P w).is k (.str k tk) = true := strKind_is P w k tk
  have scan : (Value.str k tk).scannable = true := rfl
  have elems : ElemsOf (strKind P w) es.toList := TxRow.elems T.row
  unfold setAddHashed setAddHashedIn
  refine wpAny_holding (wpAny_bind (wpAny_setState_of ho hd T.fit ?_))
  dsimp only
  rw [byScan_of scan T.bd elems]
  simp only [↓reduceIte]
  unfold setAddByScan
  refine wpAny_bind (wpAny_bind (wpAny_rule (wpAny_bind (wpAny_setScan_of isk ho hd T.fit elems ?_))))
  cases found : List.findIdx? (fun e => (strKind P w).is k e.2) es.toList with
  | some j =>
    dsimp only
    obtain ⟨hj, pj, _⟩ := List.findIdx?_eq_some_iff_getElem.mp found
    have hk : k ∈ ms := (T.mem k).2 ((TxRow.memK (P := P) T.row k).2 ⟨_, List.getElem_mem hj, pj⟩)
    refine wpAny_pure (wpAny_pure (hQ _ s.heap (Heap.SameBut.refl a s.heap) ⟨o, es, ep, t, ho, hex, hd, { T with mem := fun i => ?_, few := ?_ }⟩))
    · rw [← T.mem i, List.mem_append, List.mem_singleton]
      exact ⟨fun z => z.elim id fun e => e ▸ hk, .inl⟩
    · rw [List.length_append]; exact Nat.le_trans T.few (Nat.le_add_right _ _)
  | none =>
    dsimp only
    have fresh : k ∉ es.toList.map txE := fun z => by
      obtain ⟨e, he, q⟩ := (TxRow.memK (P := P) T.row k).1 z
      have no := List.findIdx?_eq_none_iff.mp found e he
      rw [q] at no
      cases no
    have gw : ∀ (b : Bool) {s₁ : Shared} {Q' : Unit → Shared → Prop}, Q' () s₁ → wpAny (model P w) A (match b with | true => rule "set.scan.the-table-gave-way" | false => pure ()) Q' E s₁ := by
      intro b s₁ Q' q
      cases b
      · exact wpAny_pure q
      · exact wpAny_rule q
    have q1 := layNew_perm t es ((strKind P w).hash k) (.str k tk)
    have q2 := layNew_fits t es ((strKind P w).hash k) (.str k tk)
    have q3 := layNew_ris t es ((strKind P w).hash k) (.str k tk) T.ris
    have q4 := layNew_led t es ((strKind P w).hash k) (.str k tk)
    generalize layNew t es ((strKind P w).hash k) (.str k tk) = Y at q1 q2 q3 q4 ⊢
    rcases Y with ⟨es1, t1, wd, gv⟩
    dsimp only at q1 q2 q3 q4 ⊢
    rw [Array.toList_push] at q1
    have pc := q1.trans (List.perm_append_singleton _ _)
    have pk : (es1.toList.map txE).Perm (k :: es.toList.map txE) := pc.map txE
    have len : es1.size = es.size + 1 := by
      have z := pc.length_eq
      rwa [List.length_cons, Array.length_toList, Array.length_toList] at z
    have few1 : es1.size ≤ (ms ++ [k]).length := by rw [len, List.length_append]; exact Nat.succ_le_succ T.few
    have T1 : TxTab w (ms ++ [k]) es1 t1 :=
      { row := fun e he => by
          rcases List.mem_cons.mp (pc.mem_iff.mp he) with z | z
          · exact ⟨k, tk, by rw [z], by rw [z]; rfl⟩
          · exact T.row e z
        nd := pk.nodup_iff.mpr (List.nodup_cons.mpr ⟨fresh, T.nd⟩)
        mem := fun i => by rw [pk.mem_iff, List.mem_cons, List.mem_append, List.mem_singleton, T.mem i]; exact Or.comm
        few := few1
        bd := Nat.lt_of_le_of_lt few1 (by rw [List.length_append]; exact room)
        fit := q2
        ris := q3
        led := T.led.imp id fun z => q4.trans z }
    have done : ∀ h', Heap.SameBut a s.heap h' → SetTx w h' a (ms ++ [k]) → Q true { s with heap := h' } := fun h' sb r => hQ true h' sb r
    refine wpAny_bind (gw _ ?_)
    split
    · refine wpAny_bind ?_
      rw [hashByValue_scannable 8 scan]
      refine wpAny_pure (txTail (ms := ms ++ [k]) (fun b s₁ Q' q => ?_) ho hex hd ?_ fun h' sb r => ?_)
      · cases b
        · exact wpAny_pure q
        · exact wpAny_rule q
      · have T2 : TxTab w (ms ++ [k]) es1 { t1 with plain := false } := { row := T1.row, nd := T1.nd, mem := T1.mem, few := T1.few, bd := T1.bd, fit := SetTable.fits_plain_off T1.fit, ris := T1.ris, led := T1.led }
        first
          | exact T2
          | (split <;> first | exact T1 | exact T2)
      · dsimp only; exact wpAny_pure (done h' sb r)
    · refine wpAny_bind (wpAny_pure ?_)
      simp only [↓reduceIte]
      refine txTail (ms := ms ++ [k]) (fun b s₁ Q' q => ?_) ho hex hd T1 fun h' sb r => ?_
      · cases b
        · exact wpAny_pure q
        · exact wpAny_rule q
      · dsimp only; exact wpAny_pure (done h' sb r)
end
section
variable {P : Program} {w : World} {A : Around} {E : Value → Shared → Prop} {s : Shared}
/-- every item of the walk is added -/
theorem setTx_loop {I : Addr} {fp wr : List Addr} {G : Array GenState → Array GenState → Prop} {n : Nat} {Pv : Nat → Value → Prop} {St : Nat → Shared → Prop} {R : Result → Shared → Prop}
    (W : WalksS P w A.in1 I fp wr G n Pv St) (S : Addr) (hSf : S ∉ fp) (ks : List Str) (hn : n = ks.length) (hb : ks.length + 1 < scanBound) (hval : ∀ i v, Pv i v → ∃ k t, ks[i]? = some k ∧ v = .str k t) :
    ∀ (m i : Nat) (s : Shared), n - i = m → i ≤ n → St i s → SetTx w s.heap S (ks.take i) →
      (∀ s', Moved (S :: wr) G s s' → SetTx w s'.heap S ks → R (.ok (.ret .none)) s') → codeAny (model P w) A (.builtin "set.update.loop" ⟨[.ref S, .ref I], []⟩) R s := by
  have nw : S ∉ wr := fun h => hSf (W.sub _ h)
  have up : ∀ b ∈ wr, b ∈ S :: wr := fun b hb => List.mem_cons_of_mem _ hb
  intro m
  induction m with
  | zero =>
    intro i s em hi hst hS hR
    obtain rfl : i = n := by omega
    refine codeAny_builtin F.entry_set_update_loop ?_
    rw [Around.under_plainId F.plain_set_update_loop _]
    show wpAny _ A.in1 (pyNext (.ref I) >>= _) _ _ s
    refine wpAny_bind (W.done s _ _ hst fun s' hm => ?_)
    show wpAny _ A.in1 (ret Value.none) _ _ s'
    rw [List.take_of_length_le (by omega)] at hS
    exact wpAny_pure (hR s' (hm.mono up) (hS.at fun o e => hm.heap S o nw e))
  | succ m ih =>
    intro i s em hi hst hS hR
    have lt : i < n := by omega
    refine codeAny_builtin F.entry_set_update_loop ?_
    rw [Around.under_plainId F.plain_set_update_loop _]
    show wpAny _ A.in1 (pyNext (.ref I) >>= _) _ _ s
    refine wpAny_bind (W.item i s _ _ lt hst fun v s1 hP st1 hm => ?_)
    obtain ⟨z, t, hz, rfl⟩ := hval i v hP
    have hS1 : SetTx w s1.heap S (ks.take i) := hS.at fun o e => hm.heap S o nw e
    show wpAny _ A.in1 (holding [Value.str z t] (setAdd S (.str z t)) >>= _) _ _ s1
    refine wpAny_bind (wpAny_holding ?_)
    unfold setAdd
    refine wpAny_holding (wpAny_bind ((strKind P w).pyHash (k := z) (strKind_is _ _ _ _) ?_))
    refine setTx_add (s := { s1 with toks := s1.toks + 1 }) hS1 (by rw [List.length_take]; omega) fun b h' sb hS2 => ?_
    have e1 : ks.take i ++ [z] = ks.take (i + 1) := by rw [List.take_add_one, hz]; rfl
    rw [e1] at hS2
    refine wpAny_pure ⟨plainId_quiet F.plain_set_update_loop _, ih (i + 1) _ (by omega) lt (W.frame _ s1 _ _ st1 (Nat.le_succ _) fun b hb o e => ?_) hS2 fun s2 hm2 hS3 => ?_⟩
    · rw [sb.2 b (fun h : b = S => hSf (h ▸ hb))]; exact e
    · refine hR s2 (Moved.trans W.gtrans ((hm.mono up).then_heap (Nat.le_succ _) fun b o hb e => ?_) hm2) hS3
      rw [sb.2 b (fun h : b = S => hb (h ▸ List.mem_cons_self))]; exact e

/-- v can be walked: texts -/
structure TxW (P : Program) (w : World) (s : Shared) (v : Value) (ks : List Str) : Prop where
  ty : ∃ T : String, isSubtype (.type T) (.type "set") = pure false ∧ isSubtype (.type T) (.type "frozenset") = pure false ∧ (Value.type T == Value.type "dict") = false ∧ ∀ h : Heap, (∀ b o, s.heap.get? b = some o → h.get? b = some o) → Shared.TypeIs { s with heap := h } v T
  it : ∀ (h : Heap), (∀ b o, s.heap.get? b = some o → h.get? b = some o) → s.heap.objs.size < h.objs.size → ∀ (A : Around) (E : Value → Shared → Prop) (Q : Value → Shared → Prop),
    (∀ o fp n Pv St, (∀ A' : Around, A'.handled = none → Walks P w A' h.objs.size fp [h.objs.size] n Pv St) → (∀ b ∈ fp, b = h.objs.size ∨ b < s.heap.objs.size) → n = ks.length → (∀ i v, Pv i v → ∃ k t, ks[i]? = some k ∧ v = Value.str k t) → St 0 (h.push o) → Q (.ref h.objs.size) { s with heap := h.push o }) →
    wpAny (model P w) A (pyIter v) Q E { s with heap := h }
theorem strsAre_at : ∀ {us : List Value} {ks : List Str}, StrsAre us ks → ∀ (i : Nat) (v : Value), us[i]? = some v → ∃ k t, ks[i]? = some k ∧ v = Value.str k t
  | _, _, .nil, i, v, h => by simp at h
  | _, _, .cons n t hr, 0, v, h => by simp at h; exact ⟨n, t, rfl, h.symm⟩
  | _, _, .cons n t hr, i + 1, v, h => by simp at h; simpa using strsAre_at hr i v h
theorem set_of_texts {v : Value} {ks : List Str} {Q : Value → Shared → Prop} (hh : A.handled = none) (hv : TxW P w s v ks) (hb : ks.length + 1 < scanBound)
    (h : ∀ (h' : Heap) (tk : Nat), SetTx w h' s.heap.objs.size ks → (∀ b o, s.heap.get? b = some o → h'.get? b = some o) → Q (.ref s.heap.objs.size) { s with heap := h', toks := tk }) :
    wpAny (model P w) A (call (.type "set") [v]) Q E s := by
  obtain ⟨c, tl, hmro⟩ := F.called_set.mro
  have made := F.called_set.made
  have sub := F.called_set.sub
  have h1 := F.called_set.notType
  have h2 := F.called_set.canCreate
  have hct := F.typeCall_set_1 v
  refine wpAny_call (codeAny_of_tree ?_)
  show wpAny _ _ (callAny (.type "set") _) _ _ _
  refine wpAny_pure ⟨Code.quiet_builtin _ (by decide +kernel), codeAny_builtin F.entry_type_call ?_⟩
  rw [Around.under_plain (weight_type_call_type "set" [v] []) rfl]
  repeat (any_goals (first | assumption | wp_step))
  refine codeAny_mono (code_set_led1 v (E := E) (Q₁ := fun obj s₁ => obj = .ref s.heap.objs.size ∧ s₁ = { s with heap := s.heap.push (emptySetO w) }) ⟨rfl, rfl⟩) fun r s₁ hr => ?_
  match r, hr with
  | .error e, hr => exact hr
  | .ok (.ret obj), hr =>
    obtain ⟨rfl, rfl⟩ := hr
    have hS : (s.heap.push (emptySetO w)).get? s.heap.objs.size = some (emptySetO w) := Heap.get?_push_size _ rfl
    have hT : Shared.TypeIs { s with heap := s.heap.push (emptySetO w) } (.ref s.heap.objs.size) "set" := ⟨_, hS, rfl⟩
    have hli := F.called_set.init.lookup
    have hbi := F.called_set.init.bind (.ref s.heap.objs.size)
    repeat (any_goals (first | assumption | wp_step))
    refine codeAny_mono (codeAny_call_builtin (R := wants (fun r s₂ => r = .none ∧ ∃ h' tk, s₂ = { s with heap := h', toks := tk } ∧ SetTx w h' s.heap.objs.size ks ∧ (∀ b o, s.heap.get? b = some o → h'.get? b = some o)) E) F.called_set.init.plain F.entry_set_init (check_set_init_1 hT ?_)) fun r₂ s₂ hr₂ => ?_
    · have fin : ∀ (o : Obj) (fp : List Addr) (n : Nat) (Pv : Nat → Value → Prop) (St : Nat → Heap → Prop) (A' : Around) (R : Result → Shared → Prop), Walks P w A'.in1 (s.heap.push (emptySetO w)).objs.size fp [(s.heap.push (emptySetO w)).objs.size] n Pv St → s.heap.objs.size ∉ fp → n = ks.length →
          (∀ i v, Pv i v → ∃ k t, ks[i]? = some k ∧ v = .str k t) → St 0 ((s.heap.push (emptySetO w)).push o) →
          (∀ h' tk, SetTx w h' s.heap.objs.size ks → (∀ b o, s.heap.get? b = some o → h'.get? b = some o) → R (.ok (.ret .none)) { s with heap := h', toks := tk }) →
          codeAny (model P w) A' (.builtin "set.update.loop" ⟨[.ref s.heap.objs.size, .ref (s.heap.push (emptySetO w)).objs.size], []⟩) R { s with heap := (s.heap.push (emptySetO w)).push o } := by
        intro o fp n Pv St A' R W hS0 hn hval hst hR
        refine setTx_loop W.toS s.heap.objs.size hS0 ks hn hb hval (n - 0) 0 _ rfl (Nat.zero_le _) hst (setTx_new (Heap.get?_push_of_some _ hS)) fun s2 hm hS2 => ?_
        obtain ⟨h2, g2, d2, tk2, os2⟩ := s2
        have eg : g2 = s.gens := hm.gens
        have ed : d2 = s.drawn := hm.drawn
        have eo : os2 = s.os := hm.os
        subst eg; subst ed; subst eo
        refine hR h2 tk2 hS2 fun b u e => hm.heap b u ?_ (Heap.get?_push_of_some _ (Heap.get?_push_of_some _ e))
        have lt : b < s.heap.objs.size := Heap.lt_size e
        intro z
        rw [Heap.size_push, List.mem_cons, List.mem_singleton] at z
        rcases z with z | z
        · exact Nat.ne_of_lt lt z
        · exact Nat.ne_of_lt (Nat.lt_succ_of_lt lt) z
      obtain ⟨T, hsls, hslf, hne, hty⟩ := hv.ty
      have hT2 := hty (s.heap.push (emptySetO w)) fun b o e => Heap.get?_push_of_some _ e
      have hit := hv.it (s.heap.push (emptySetO w)) (fun b o e => Heap.get?_push_of_some _ e) (by rw [Heap.size_push]; exact Nat.lt_succ_self _)
      unfold Builtin.«set.__init__» noKeywords Builtin.Frozenset.updateFrom
      generalize hPI : pyIter = PI
      wp_walk
      subst hPI
      refine hit _ _ _ fun o fp n Pv St hW hfp hn hval hst => wpAny_bind (wpAny_runValue ?_)
      refine fin o fp n Pv St _ _ (hW _ (by simp [hh])) (fun z => ?_) hn hval hst fun h' tk q1 q2 => ?_
      · rcases hfp _ z with e | e
        · rw [Heap.size_push] at e
          exact absurd e (Nat.ne_of_lt (Nat.lt_succ_self _))
        · exact absurd e (Nat.lt_irrefl _)
      · show wpAny _ _ _ _ _ _
        exact wpAny_pure (wpAny_pure ⟨rfl, h', tk, rfl, q1, q2⟩)
    · match r₂, hr₂ with
      | .error e, hr₂ => exact hr₂
      | .ok (.ret r), hr₂ =>
        obtain ⟨rfl, h', tk, rfl, hS', hk'⟩ := hr₂
        repeat (any_goals (first | assumption | wp_step))
        exact h _ _ hS' hk'

theorem txw_list {l : Addr} {items : Array Value} {ks : List Str} (hl : s.heap.IsList l items) (hs : StrsAre items.toList ks) : TxW P w s (.ref l) ks where
  ty := ⟨"list", F.sub_list_set, F.sub_list_frozenset, by decide, fun h k => by
    obtain ⟨o, e, hc, _⟩ := hl.at fun o e => k l o e
    exact ⟨o, e, hc⟩⟩
  it := fun h k hz A E Q q => by
    have hl1 : h.IsList l items := hl.at fun o e => k l o e
    have lt : l < s.heap.objs.size := by obtain ⟨_, z, _⟩ := hl; exact Heap.lt_size z
    have hne2 : l ≠ h.objs.size := Nat.ne_of_lt (Nat.lt_trans lt hz)
    refine wpAny_pyIter_list (s := { s with heap := h }) hl1 (q _ _ _ _ _ (fun A' ha => Walks.list ha _ l hne2 items) (fun b hb => ?_) ?_ (fun i v hv => strsAre_at hs i v (by rw [Array.getElem?_toList]; exact hv)) ⟨⟨_, Heap.get?_push_size _ rfl, rfl, rfl⟩, hl1.push _⟩)
    · simp only [List.mem_cons, List.not_mem_nil, or_false] at hb
      rcases hb with e | e
      · exact .inl e
      · exact .inr (e ▸ lt)
    · have := hs.length; rw [Array.length_toList] at this; exact this
theorem txw_tuple {l : Addr} {items : Array Value} {ks : List Str} (hl : s.heap.IsTuple l items) (hs : StrsAre items.toList ks) : TxW P w s (.ref l) ks where
  ty := ⟨"tuple", F.sub_tuple_set, F.sub_tuple_frozenset, by decide, fun h k => by
    obtain ⟨o, e, hc, _⟩ := hl.at fun o e => k l o e
    exact ⟨o, e, hc⟩⟩
  it := fun h k hz A E Q q => by
    have hl1 : h.IsTuple l items := hl.at fun o e => k l o e
    have lt : l < s.heap.objs.size := by obtain ⟨_, z, _⟩ := hl; exact Heap.lt_size z
    have hne2 : l ≠ h.objs.size := Nat.ne_of_lt (Nat.lt_trans lt hz)
    refine wpAny_pyIter_tuple (s := { s with heap := h }) hl1 (q _ _ _ _ _ (fun A' ha => Walks.tuple ha _ l hne2 items) (fun b hb => ?_) ?_ (fun i v hv => strsAre_at hs i v (by rw [Array.getElem?_toList]; exact hv)) ⟨⟨_, Heap.get?_push_size _ rfl, rfl, rfl⟩, hl1.push _⟩)
    · simp only [List.mem_cons, List.not_mem_nil, or_false] at hb
      rcases hb with e | e
      · exact .inl e
      · exact .inr (e ▸ lt)
    · have := hs.length; rw [Array.length_toList] at this; exact this
theorem txw_text {x : Str} {t : Tok} : TxW P w s (.str x t) (x.cps.toList.map fun c => (⟨#[c]⟩ : Str)) where
  ty := ⟨"str", F.sub_str_set, F.sub_str_frozenset, by decide, fun h k => rfl⟩
  it := fun h k hz A E Q q => by
    refine wpAny_pyIter_str (s := { s with heap := h }) fun o St hW hst => q o _ _ _ _ (fun A' ha => hW A' ha) (fun b hb => .inl (List.mem_singleton.mp hb)) (by rw [List.length_map, Array.length_toList]) (fun i v hv => ?_) hst
    obtain ⟨c, u, e1, e2⟩ := hv
    exact ⟨_, u, by rw [List.getElem?_map, Array.getElem?_toList, e1]; rfl, e2⟩
end
end L2
namespace L2
open PySem PySem.Spec PyProof.Rows
theorem strsAre_txOf : ∀ (us : List Value), (∀ v ∈ us, ∃ k t, v = Value.str k t) → StrsAre us (us.map txOf)
  | [], _ => .nil
  | u :: us, h => by
    obtain ⟨k, t, rfl⟩ := h u List.mem_cons_self
    exact .cons k t (strsAre_txOf us fun v hv => h v (List.mem_cons_of_mem _ hv))
section
variable {X : Cx}
/-- sorted(set(a)), a a list of texts or a text -/
def tSortSet (K : PySem.W.Frag) (ta : TE) : TE := fun σ H Q => ta σ H fun x H1 => ∃ ks : List Str, ((∃ l, x = .ref l ∧ (SqL K H1 l (ks.map V.str) ∨ SqT K H1 l (ks.map V.str))) ∨ ∃ y, x = .str y ∧ ks = y.cps.toList.map fun c => (⟨#[c]⟩ : Str)) ∧ ks.length < 1000 ∧
  ∀ ys p, ys.Nodup → (∀ k, k ∈ ys ↔ k ∈ ks) → sortedS ys = true → H1 p = none → Q (.ref p) (upd H1 p (.lst (ys.map V.str)))
theorem sorted_setTx {pins : List (Addr × Obj)} {σ : St} {H : Hp} {s : Shared} {a : Addr} {ks : List Str} {Q : VK} (hc : X.calm = true) (I : Inv X pins σ H s) (R : SetTx X.w s.heap a ks) (h64 : ks.length < 1000)
    (q : ∀ ys p, ys.Nodup → (∀ k, k ∈ ys ↔ k ∈ ks) → sortedS ys = true → H p = none → Q (.ref p) (upd H p (.lst (ys.map V.str)))) : wpAny (model X.prog X.w) X.A (call (.builtin "sorted") [.ref a]) (EP X pins σ Q) X.xe s := by
  obtain ⟨o, es, ep, t, ho, hex, hd, T⟩ := R
  refine Calls.call_function_entry kind_sorted plain_sorted entry_sorted (args_sorted1 _) ?_
  unfold Builtin.«sorted»
  refine wpAny_bind (m := checkCount "sorted" 1 1 _) (wpAny_pure (wpAny_bind (collect_set (A := X.A.in1) (I.ok.hd hc) ⟨o, ho, hex.1, hd⟩ T.fit T.bd T.ris T.led fun s1 vs k1 hz g1 o1 pm => ?_)))
  have I1 : Inv X pins σ H s1 := by
    have J : Inv X pins σ H { s with heap := s1.heap, gens := s1.gens, drawn := s1.drawn, toks := s1.toks } := I.call (ch := []) (Un.kept k1) (I.hok.kept k1) (by rw [g1]; exact I.bare) (fun _ z => nomatch z)
    obtain ⟨a1, a2, a3, a4, a5⟩ := s1
    obtain ⟨b1, b2, b3, b4, b5⟩ := s
    cases o1
    exact J
  have hS : StrsAre vs (vs.map txOf) := strsAre_txOf vs fun v hv => by
    obtain ⟨e, he, q⟩ := List.mem_map.mp (pm.mem_iff.mp hv)
    obtain ⟨k, tk, q1, _⟩ := T.row e he
    exact ⟨k, tk, by rw [← q]; exact q1⟩
  have pk : (vs.map txOf).Perm (es.toList.map txE) := by
    have z := pm.map txOf
    rw [List.map_map] at z
    exact z
  have few : vs.length < 1000 := by
    have z := pm.length_eq
    rw [List.length_map] at z
    have z2 : es.toList.length = es.size := Array.length_toList
    have z3 := T.few
    omega
  refine wpAny_bind (wpAny_newList ?_ (by rw [sizeLine_eq]; omega))
  have hL : (s1.heap.push (seqObj "list" vs.toArray 0)).get? s1.heap.objs.size = some (seqObj "list" vs.toArray 0) := Heap.get?_push_size _ rfl
  refine wpAny_bind (wpAny_holding (wpAny_call_entry slot_list_sort ⟨_, hL, rfl⟩ entry_list_sort
    (list_sort_treeKAny strKind_oneLt (s := { s1 with heap := s1.heap.push (seqObj "list" vs.toArray 0) }) hL hS.keysOf (fun v₁ v₂ rest e => keyKind_strs (by rw [← e]; exact hS)) (by rw [sizeLine_eq]; omega) fun st' hp hs => ⟨_, rfl, ?_⟩)
    (args_list_sort _)))
  obtain ⟨ys, g1', g2, g3⟩ := sorted_out_str hS hp hs
  obtain ⟨e', he'⟩ := sortedHeap_at (vs := vs) (out := (arrOf st').map (·.2)) hL
  have lenY : (ys.map V.str).length ≤ sizeLine := by
    rw [List.length_map, g2.length_eq, List.length_map]
    rw [sizeLine_eq]; omega
  have pall := g2.trans pk
  refine wpAny_pure ⟨_, rfl, .ref s1.heap.objs.size, upd H s1.heap.objs.size (.lst (ys.map V.str)), I1.laid (t' := s1.toks) (fun b u e => ?_) (Nat.le_refl _)
    (show ObjOk X.prog X.w _ _ _ (.lst (ys.map V.str)) from ⟨lenY, ((arrOf st').map (·.2)).toList, e', vals_of_strs g1', by rw [Array.toArray_toList]; exact he'⟩), rfl,
    q ys _ (pall.nodup_iff.mpr T.nd) (fun k => by rw [pall.mem_iff, T.mem k]) g3 (I1.hok.fresh (Nat.le_refl _))⟩
  have hb : b < s1.heap.objs.size := Heap.lt_size e
  rw [sortedHeap_old (Nat.ne_of_lt hb) (by rw [size_push']; exact Nat.lt_succ_of_lt hb)]
  exact Heap.get?_push_of_some _ e
theorem pe_sortSet {a : Expr} {ta : TE} {p p2 q pos : Pos} (hc : X.calm = true) (hg : Gl X "sorted") (hm : X.mg "sorted" = none) (hg2 : Gl X "set") (hm2 : X.mg "set" = none) (ha : PE X a ta)
    (na : starEach [a] X.env = (false, eval a X.env) :: starEach [] X.env := by rfl) : PE X (.Call (.Name "sorted" p) [.Call (.Name "set" p2) [a] [] q] [] pos) (tSortSet X.K ta) := by
  refine ⟨fun pins s σ H Q I h => ?_⟩
  refine Call_ (ld_blt I hg hm DL.bt_sorted (callWith_builtin1 (args_cons (Call_ (ld_blt I hg2 hm2 DL.bt_set ?_)) rfl) rfl rfl))
  refine callWith_type1 (args_cons (thn (ha.run pins s σ H _ I h) fun v s1 ⟨x, H1, I1, r1, ks, hx, h64, q1⟩ => args_nil ?_) na) na rfl
  have it : TxW X.prog X.w s1 v ks := by
    rcases hx with ⟨l, rfl, hl | hl⟩ | ⟨y, rfl, hy⟩
    · cases r1
      obtain ⟨its, rv, pl, _⟩ := I1.list hl
      exact txw_list pl.isList (by simpa using rv.strs)
    · cases r1
      obtain ⟨its, rv, pl, _⟩ := I1.tuple hl
      exact txw_tuple pl (by simpa using rv.strs)
    · obtain ⟨t, rfl⟩ := r1
      rw [hy]
      exact txw_text
  refine set_of_texts (I1.ok.hd hc) it (by unfold scanBound; omega) fun h' tk hS hk => args_nil ?_
  have I2 : Inv X pins σ H1 { s1 with heap := h', toks := tk } := I1.kept hk
  exact sorted_setTx hc I2 hS h64 q1
end
end L2
namespace DL
open PySem L2
/-! ### texts in order -/
theorem lt_tri (a b : List Nat) : a < b ∨ a = b ∨ b < a := by
  rcases Decidable.em (a < b) with h | h
  · exact .inl h
  · rcases Decidable.em (b < a) with h2 | h2
    · exact .inr (.inr h2)
    · exact .inr (.inl (List.le_antisymm (List.not_lt.mp h2) (List.not_lt.mp h)))
theorem lt_irr (a : List Nat) : ¬ a < a := List.lt_irrefl a
theorem lt_tr {a b c : List Nat} (h : a < b) (h2 : b < c) : a < c := List.lt_trans h h2
def insU (x : List Nat) : List (List Nat) → List (List Nat)
  | [] => [x]
  | y :: r => if x = y then y :: r else if x < y then x :: y :: r else y :: insU x r
def sortU (l : List (List Nat)) : List (List Nat) := l.foldr insU []
theorem insU_mem (x : List Nat) : ∀ (l : List (List Nat)) (k : List Nat), k ∈ insU x l ↔ k = x ∨ k ∈ l
  | [], k => by simp [insU]
  | y :: r, k => by
    unfold insU
    split
    · rename_i h; subst h; simp
    · split
      · simp
      · rw [List.mem_cons, insU_mem x r k, List.mem_cons]
        constructor
        · rintro (h | h | h) <;> simp [h]
        · rintro (h | h | h) <;> simp [h]
theorem insU_ord (x : List Nat) : ∀ {l : List (List Nat)}, l.Pairwise (· < ·) → (insU x l).Pairwise (· < ·)
  | [], _ => by simp [insU]
  | y :: r, h => by
    unfold insU
    obtain ⟨h1, h2⟩ := List.pairwise_cons.mp h
    split
    · exact h
    · rename_i hn
      split
      · rename_i hl
        refine List.pairwise_cons.mpr ⟨fun k hk => ?_, h⟩
        rcases List.mem_cons.mp hk with rfl | hk
        · exact hl
        · exact lt_tr hl (h1 k hk)
      · rename_i hl
        refine List.pairwise_cons.mpr ⟨fun k hk => ?_, insU_ord x h2⟩
        rcases (insU_mem x r k).mp hk with rfl | hk
        · rcases lt_tri y k with z | z | z
          · exact z
          · exact absurd z.symm hn
          · exact absurd z hl
        · exact h1 k hk
theorem sortU_mem : ∀ (l : List (List Nat)) (k : List Nat), k ∈ sortU l ↔ k ∈ l
  | [], k => Iff.rfl
  | y :: r, k => by
    show k ∈ insU y (sortU r) ↔ _
    rw [insU_mem, sortU_mem r k, List.mem_cons]
theorem sortU_ord : ∀ (l : List (List Nat)), (sortU l).Pairwise (· < ·)
  | [] => .nil
  | y :: r => insU_ord y (sortU_ord r)
theorem ord_uniq : ∀ {a b : List (List Nat)}, a.Pairwise (· < ·) → b.Pairwise (· < ·) → (∀ k, k ∈ a ↔ k ∈ b) → a = b
  | [], [], _, _, _ => rfl
  | [], y :: b, _, _, h => absurd ((h y).mpr (by simp)) (by simp)
  | x :: a, [], _, _, h => absurd ((h x).mp (by simp)) (by simp)
  | x :: a, y :: b, ha, hb, h => by
    obtain ⟨a1, a2⟩ := List.pairwise_cons.mp ha
    obtain ⟨b1, b2⟩ := List.pairwise_cons.mp hb
    have e : x = y := by
      rcases List.mem_cons.mp ((h x).mp (by simp)) with z | z
      · exact z
      · rcases List.mem_cons.mp ((h y).mpr (by simp)) with z2 | z2
        · exact z2.symm
        · exact absurd (lt_tr (b1 x z) (a1 y z2)) (lt_irr y)
    subst e
    rw [ord_uniq a2 b2 fun k => ?_]
    constructor
    · intro hk
      rcases List.mem_cons.mp ((h k).mp (List.mem_cons_of_mem _ hk)) with z | z
      · subst z; exact absurd (a1 k hk) (lt_irr k)
      · exact z
    · intro hk
      rcases List.mem_cons.mp ((h k).mpr (List.mem_cons_of_mem _ hk)) with z | z
      · subst z; exact absurd (b1 k hk) (lt_irr k)
      · exact z
theorem ltC_iff : ∀ (a b : List Nat), Spec.ltCps a b = true ↔ a < b
  | [], [] => by simp [Spec.ltCps]
  | [], _ :: _ => by simp [Spec.ltCps]
  | _ :: _, [] => by simp [Spec.ltCps]
  | x :: a, y :: b => by
    simp only [Spec.ltCps, Bool.or_eq_true, Bool.and_eq_true, decide_eq_true_eq, beq_iff_eq, ltC_iff a b, List.cons_lt_cons_iff]
/-- in order, from the library's word -/
theorem risingS_ord : ∀ (p : Str) (l : List Str), PyProof.Rows.risingS p l = true → (p :: l).Nodup → (p :: l).Pairwise (fun a b => a.cps.toList < b.cps.toList)
  | p, [], _, _ => List.pairwise_singleton _ _
  | p, x :: r, h, nd => by
    have h' : (!Spec.ltCps x.cps.toList p.cps.toList && PyProof.Rows.risingS x r) = true := h
    rw [Bool.and_eq_true, Bool.not_eq_true'] at h'
    obtain ⟨n1, n2⟩ := List.nodup_cons.mp nd
    have ih := risingS_ord x r h'.2 n2
    have e : p.cps.toList < x.cps.toList := by
      rcases lt_tri p.cps.toList x.cps.toList with z | z | z
      · exact z
      · have : p = x := by rw [← mkS_surj p, ← mkS_surj x, z]
        exact absurd (by rw [this]; simp) n1
      · rw [(ltC_iff _ _).mpr z] at h'
        cases h'.1
    refine List.pairwise_cons.mpr ⟨fun k hk => ?_, ih⟩
    rcases List.mem_cons.mp hk with rfl | hk
    · exact e
    · exact lt_tr e ((List.pairwise_cons.mp ih).1 k hk)
theorem sortU_str {ys : List Str} {ss : List (List Nat)} (h : PyProof.Rows.sortedS ys = true) (nd : ys.Nodup) (hm : ∀ k, k ∈ ys ↔ k ∈ ss.map mkS) : ys = (sortU ss).map mkS := by
  have ho : ys.Pairwise (fun a b => a.cps.toList < b.cps.toList) := by
    cases ys with
    | nil => exact .nil
    | cons y r => exact risingS_ord y r h nd
  have e : ys.map (fun y => y.cps.toList) = sortU ss := by
    refine ord_uniq (List.pairwise_map.mpr ho) (sortU_ord ss) fun k => ?_
    rw [sortU_mem, List.mem_map]
    constructor
    · rintro ⟨y, hy, rfl⟩
      obtain ⟨s, hs, e⟩ := List.mem_map.mp ((hm y).mp hy)
      rw [← e, mkS_cps]; exact hs
    · intro hk
      exact ⟨mkS k, (hm _).mpr (List.mem_map.mpr ⟨k, hk, rfl⟩), mkS_cps k⟩
  rw [← e, List.map_map]
  have : (mkS ∘ fun y : Str => y.cps.toList) = id := by funext y; exact mkS_surj y
  rw [this, List.map_id]
def sortSetD : D → Option D
  | .lst xs => (asSs xs).bind fun ss => if ss.length < 1000 then some (.lst ((sortU ss).map D.str)) else none
  | .tup xs => (asSs xs).bind fun ss => if ss.length < 1000 then some (.lst ((sortU ss).map D.str)) else none
  | .str s => if s.length < 1000 then some (.lst ((sortU (s.map fun c => [c])).map D.str)) else none
  | _ => none
section
variable {X : Cx} {Z : Cn} {E : Ent Z.W} {Wx : WX} {e a b c : Expr} {pos p p2 q : Pos} {fe fa fb fc : M Z.W.G D}
theorem de_sortSet (hc : X.calm = true) (hg : Gl X "sorted") (hm : X.mg "sorted" = none) (hg2 : Gl X "set") (hm2 : X.mg "set" = none) (ha : DR X Z E Wx a fa)
    (na : starEach [a] X.env = (false, eval a X.env) :: starEach [] X.env := by rfl) : DE X Z E Wx (.Call (.Name "sorted" p) [.Call (.Name "set" p2) [a] [] q] [] pos) (e1 sortSetD fa) := by
  refine PE.imp (pe_sortSet hc hg hm hg2 hm2 ha na) fun σ H Q ⟨Hf, g, sl, r, q⟩ => ⟨Hf, g, sl, r, (go_bind (Rm := RlR X.K) q).mono fun x H1 ⟨Hf1, g1, c, b1, d1, q1⟩ => ?_⟩
  obtain ⟨d, ed, k⟩ := go_lift q1
  have fin : ∀ (ss : List (List Nat)), (∀ s ∈ ss, okS s) → d = .lst ((sortU ss).map D.str) → ∀ ys p, ys.Nodup → (∀ k, k ∈ ys ↔ k ∈ ss.map mkS) → PyProof.Rows.sortedS ys = true → H1 p = none → Q (.ref p) (upd H1 p (.lst (ys.map V.str))) := by
    intro ss ok ed ys p nd hm hs hp
    subst ed
    rw [sortU_str hs nd hm]
    exact k _ _ _ (b1.self.alloc (.lst (((sortU ss).map mkS).map V.str)) hp) (.lst upd_same (DvAll.ofStrs (sortU ss) fun s hs => ok s ((sortU_mem ss s).mp hs)))
  match c, ed, d1 with
  | .lst xs, ed, d1 =>
    obtain ⟨p, vs, rfl, h1, h2⟩ := d1.lst b1.fh
    simp only [sortSetD] at ed
    obtain ⟨ss, es, ed2⟩ := Option.bind_eq_some_iff.mp ed
    obtain rfl := asSs_some es
    split at ed2
    · rename_i hl
      cases ed2
      have hvs := h2.strs
      subst hvs
      exact ⟨ss.map mkS, .inl ⟨p, rfl, .inl (SqL.of h1)⟩, by rw [List.length_map]; exact hl, fin ss h2.oks rfl⟩
    · cases ed2
  | .tup xs, ed, d1 =>
    obtain ⟨p, vs, rfl, h1, h2⟩ := d1.tup
    simp only [sortSetD] at ed
    obtain ⟨ss, es, ed2⟩ := Option.bind_eq_some_iff.mp ed
    obtain rfl := asSs_some es
    split at ed2
    · rename_i hl
      cases ed2
      have hvs := h2.strs
      subst hvs
      exact ⟨ss.map mkS, .inl ⟨p, rfl, .inr ((.inl (b1.rd h1)))⟩, by rw [List.length_map]; exact hl, fin ss h2.oks rfl⟩
    · cases ed2
  | .str s, ed, d1 =>
    obtain ⟨rfl, ok⟩ := d1.str
    simp only [sortSetD] at ed
    split at ed
    · rename_i hl
      cases ed
      refine ⟨(s.map fun c => [c]).map mkS, .inr ⟨mkS s, rfl, ?_⟩, by rw [List.length_map, List.length_map]; exact hl, fin (s.map fun c => [c]) (fun t ht => ?_) rfl⟩
      · rw [mkS_cps, List.map_map]; rfl
      · obtain ⟨c, hc, rfl⟩ := List.mem_map.mp ht
        exact ⟨by show 1 ≤ LIM; unfold LIM; decide, fun c' hc' => by rw [List.mem_singleton.mp hc']; exact ok.2 c hc⟩
    · cases ed
end
end DL
namespace DL
open PySem L2
/-! ### dicts of one's own -/
section
variable {κ : Type} [DecidableEq κ]
def dGet (kvs : List (κ × D)) (k : κ) : Option D := (kvs.find? fun q => decide (q.1 = k)).map (·.2)
def dPut (kvs : List (κ × D)) (k : κ) (v : D) : List (κ × D) := if (kvs.any fun q => decide (q.1 = k)) = true then kvs.map (fun q => if q.1 = k then (q.1, v) else q) else kvs ++ [(k, v)]
def dMerge (kvs more : List (κ × D)) : List (κ × D) := more.foldl (fun acc q => dPut acc q.1 q.2) kvs
variable {μ : Type} [DecidableEq μ]
abbrev PV (K : PySem.W.Frag) (Hf : Hp) (f : κ → μ) : List (μ × V) → List (κ × D) → Prop := Paired fun p q => p.1 = f q.1 ∧ Dv K Hf p.2 q.2
variable {K : PySem.W.Frag} {Hf : Hp} {f : κ → μ}
theorem pv_get (inj : ∀ {a b}, f a = f b → a = b) (k : κ) : ∀ {vs : List (μ × V)} {kvs : List (κ × D)}, PV K Hf f vs kvs → (dGet kvs k = none ∧ valV vs (f k) = none) ∨ ∃ d v, dGet kvs k = some d ∧ valV vs (f k) = some v ∧ Dv K Hf v d
  | _, _, .nil => .inl ⟨rfl, rfl⟩
  | _, _, .cons (a := p) (b := q) h t => by
    by_cases e : q.1 = k
    · refine .inr ⟨q.2, p.2, ?_, ?_, h.2⟩
      · simp [dGet, e]
      · rw [valV_pos (by rw [h.1, e])]
    · rw [valV_neg (by rw [h.1]; exact fun z => e (inj z))]
      have e2 : ∀ l : List (κ × D), dGet (q :: l) k = dGet l k := fun l => by simp [dGet, e]
      rw [e2]
      exact pv_get inj k t
theorem pv_len : ∀ {vs : List (μ × V)} {kvs : List (κ × D)}, PV K Hf f vs kvs → vs.length = kvs.length
  | _, _, .nil => rfl
  | _, _, .cons _ t => by rw [List.length_cons, List.length_cons, pv_len t]
theorem pv_any (inj : ∀ {a b}, f a = f b → a = b) (k : κ) : ∀ {vs : List (μ × V)} {kvs : List (κ × D)}, PV K Hf f vs kvs → (vs.any fun p => decide (p.1 = f k)) = kvs.any fun q => decide (q.1 = k)
  | _, _, .nil => rfl
  | _, _, .cons (a := p) (b := q) h t => by
    rw [List.any_cons, List.any_cons, pv_any inj k t, h.1]
    by_cases e : q.1 = k
    · simp [e]
    · simp [e, show ¬ f q.1 = f k from fun z => e (inj z)]
theorem pv_map (inj : ∀ {a b}, f a = f b → a = b) (k : κ) {v : V} {d : D} (dv : Dv K Hf v d) : ∀ {vs : List (μ × V)} {kvs : List (κ × D)}, PV K Hf f vs kvs →
    PV K Hf f (vs.map fun p => if p.1 = f k then (p.1, v) else p) (kvs.map fun q => if q.1 = k then (q.1, d) else q)
  | _, _, .nil => .nil
  | _, _, .cons (a := p) (b := q) h t => by
    rw [List.map_cons, List.map_cons]
    refine .cons ?_ (pv_map inj k dv t)
    by_cases e : q.1 = k
    · rw [if_pos (by rw [h.1, e]), if_pos e]; exact ⟨h.1, dv⟩
    · rw [if_neg (by rw [h.1]; exact fun z => e (inj z)), if_neg e]; exact h
theorem pv_app : ∀ {vs ws : List (μ × V)} {kvs lws : List (κ × D)}, PV K Hf f vs kvs → PV K Hf f ws lws → PV K Hf f (vs ++ ws) (kvs ++ lws)
  | _, _, _, _, .nil, h => h
  | _, _, _, _, .cons h t, h2 => .cons h (pv_app t h2)
theorem pv_put (inj : ∀ {a b}, f a = f b → a = b) (k : κ) {v : V} {d : D} (dv : Dv K Hf v d) {vs : List (μ × V)} {kvs : List (κ × D)} (h : PV K Hf f vs kvs) : PV K Hf f (putK vs (f k) v) (dPut kvs k d) := by
  unfold putK dPut
  rw [pv_any inj k h]
  split
  · exact pv_map inj k dv h
  · exact pv_app h (.cons ⟨rfl, dv⟩ .nil)
end
theorem pv_merge {K : PySem.W.Frag} {Hf : Hp} : ∀ {ms : List (Key × V)} {more : List (DKey × D)} {vs : List (Key × V)} {kvs : List (DKey × D)}, KVd K Hf ms more → KVd K Hf vs kvs → KVd K Hf (mergeK vs ms) (dMerge kvs more)
  | _, _, _, _, .nil, h => h
  | _, _, _, _, .cons (a := p) (b := q) h t, h2 => by
    show KVd K Hf (mergeK (putK _ p.1 p.2) _) (dMerge (dPut _ q.1 q.2) _)
    rw [h.1]
    exact pv_merge t (pv_put toKey_inj q.1 h.2 h2)
theorem toKeys_inj : ∀ {a b : List DKey}, a.map toKey = b.map toKey → a = b
  | [], [], _ => rfl
  | x :: a, y :: b, h => by
    rw [List.map_cons, List.map_cons] at h
    injection h with h1 h2
    rw [toKey_inj h1, toKeys_inj h2]
  | [], _ :: _, h => by cases h
  | _ :: _, [], h => by cases h
def keyD : D → Option DKey
  | .int i => some (.inl i)
  | .str s => some (.inr s)
  | _ => none
theorem keyD_v {K : PySem.W.Frag} {H : Hp} {v : V} : ∀ {d : D} {k : DKey}, keyD d = some k → Dv K H v d → v = kV (toKey k)
  | .int i, _, h, dv => by cases h; cases dv; rfl
  | .str i, _, h, dv => by cases h; cases dv; rfl
def kD : DKey → D
  | .inl i => .int i
  | .inr s => .str s
def keysD : List D → Option (List DKey)
  | [] => some []
  | d :: ds => (keyD d).bind fun k => (keysD ds).map (k :: ·)
theorem keysD_v {K : PySem.W.Frag} {H : Hp} : ∀ {ds : List D} {vs : List V} {ks : List DKey}, keysD ds = some ks → DvAll K H vs ds → vs = (ks.map toKey).map kV
  | [], _, _, h, dv => by cases h; cases dv; rfl
  | d :: ds, _, _, h, dv => by
    cases dv with
    | cons h1 h2 =>
      obtain ⟨k, e1, e2⟩ := Option.bind_eq_some_iff.mp h
      obtain ⟨l, e3, rfl⟩ := Option.map_eq_some_iff.mp e2
      rw [keyD_v e1 h1, keysD_v e3 h2]
      rfl
def keyT : D → Option (List DKey)
  | .tupS ds => keysD ds
  | _ => none
/-- the pairs of a list -/
def asPrs : List D → Option (List (DKey × D))
  | [] => some []
  | .tup [k, v] :: ds => (keyD k).bind fun k => (asPrs ds).map ((k, v) :: ·)
  | _ => none
theorem asPrs_v {K : PySem.W.Frag} {Hf H : Hp} (s : Same Hf H) : ∀ {ds : List D} {vs : List V} {prs : List (DKey × D)}, asPrs ds = some prs → DvAll K Hf vs ds → ∃ (ps : List Addr) (kvs : List (Key × V)), vs = ps.map V.ref ∧ Paired (fun p kv => SqT K H p [kV kv.1, kv.2]) ps kvs ∧ KVd K Hf kvs prs
  | [], _, _, h, dv => by cases h; cases dv; exact ⟨[], [], rfl, .nil, .nil⟩
  | .tup [k, v] :: ds, _, _, h, dv => by
    cases dv with
    | cons h1 h2 =>
      obtain ⟨k', e1, e2⟩ := Option.bind_eq_some_iff.mp h
      obtain ⟨l, e3, rfl⟩ := Option.map_eq_some_iff.mp e2
      obtain ⟨ps, kvs, rfl, q1, q2⟩ := asPrs_v s e3 h2
      cases h1 with
      | tup ha hb =>
        rename_i a ws
        cases hb with
        | cons hk hb =>
          cases hb with
          | cons hv hb =>
            cases hb
            rename_i kv vv
            obtain rfl := keyD_v e1 hk
            exact ⟨a :: ps, (toKey k', vv) :: kvs, rfl, .cons (.inl (Same.rd s ha)) q1, .cons ⟨rfl, hv⟩ q2⟩
section
variable {G : Type}
def mK (i : Nat) : M G (List (DKey × D)) := fun sl g => match sl[i]? with
  | some (some (.oK kvs)) => some (.ok kvs, g)
  | some (some (.kK kvs)) => some (.ok kvs, g)
  | _ => none
def mKo (i : Nat) : M G (List (DKey × D)) := fun sl g => match sl[i]? with
  | some (some (.oK kvs)) => some (.ok kvs, g)
  | _ => none
def mKl (i : Nat) : M G (List (DKey × D)) := fun sl g => match sl[i]? with
  | some (some (.kK kvs)) => some (.ok kvs, g)
  | _ => none
def mT (i : Nat) : M G (List (List DKey × D)) := fun sl g => match sl[i]? with
  | some (some (.oT kvs)) => some (.ok kvs, g)
  | _ => none
/-- x[e] -/
def eDGet (i : Nat) (fk : M G D) : M G D := M.bind (mK i) fun kvs => M.bind fk fun k => M.lift ((keyD k).bind (dGet kvs))
def eTGet (i : Nat) (fk : M G D) : M G D := M.bind (mT i) fun kvs => M.bind fk fun k => M.lift ((keyT k).bind (dGet kvs))
/-- e in x, e not in x -/
def eDIn (i : Nat) (fk : M G D) : M G D := M.bind fk fun k => M.bind (mK i) fun kvs => M.lift ((keyD k).map fun k => .bl (dGet kvs k).isSome)
def eTNin (i : Nat) (fk : M G D) : M G D := M.bind fk fun k => M.bind (mT i) fun kvs => M.lift ((keyT k).map fun k => .bl (!(dGet kvs k).isSome))
/-- dict(e) -/
def xDict (f : M G D) : M G Slot := M.bind f fun d => M.lift ((asL d).bind fun ds => (asPrs ds).map fun prs => .oK (dMerge [] prs))
def xDnew : M G Slot := M.pure (.oK [])
/-- the dict of slot i is read alone -/
def eLock (i : Nat) (f : M G D) : M G D := fun sl g => match sl[i]? with
  | some (some (.oK kvs)) => match f (sl.set i (some (.kK kvs))) g with
    | some (.ok d, g') => some (.ok d, g')
    | _ => none
  | _ => none
def iKys (i : Nat) : M G (List D) := M.bind (mKl i) fun kvs => M.pure (kvs.map fun q => kD q.1)
end
section
variable {X : Cx} {Z : Cn} {E : Ent Z.W} {Wx : WX} {e a b c tg : Expr} {pos p ap cp : Pos} {fe fa fb fc : M Z.W.G D} {i : Nat} {x : Str}
theorem mK_go {α β : Type} {Rl : Z.W.G → Hp → Hp → β → α → Prop} {σ : St} {sl : SL} {H Hf : Hp} {g : Z.W.G} {k : List (DKey × D) → M Z.W.G α} {Q : β → Hp → Prop} (r : R X.K E H Hf g sl σ) (h : go Z Rl Wx σ (M.bind (mK i) k sl g) H Hf g Q) :
    ∃ a kvs, σ[i]? = some (some (.ref a)) ∧ (sl[i]? = some (some (.oK kvs)) ∨ sl[i]? = some (some (.kK kvs))) ∧ go Z Rl Wx σ (k kvs sl g) H Hf g Q := by
  unfold M.bind mK at h
  match e : sl[i]? with
  | some (some (.oK kvs)) =>
    rw [e] at h
    obtain ⟨v, h1, a, vs, rfl, _⟩ := r.slot i _ e
    exact ⟨a, kvs, h1, .inl rfl, h⟩
  | some (some (.kK kvs)) =>
    rw [e] at h
    obtain ⟨v, h1, a, vs, o, rfl, _⟩ := r.slot i _ e
    exact ⟨a, kvs, h1, .inr rfl, h⟩
  | some (some (.d y)) => rw [e] at h; exact h.elim
  | some (some (.oL y)) => rw [e] at h; exact h.elim
  | some (some (.oT y)) => rw [e] at h; exact h.elim
  | some none => rw [e] at h; exact h.elim
  | none => rw [e] at h; exact h.elim
/-- what stands in slot i -/
theorem R.dk {σ : St} {sl : SL} {H Hf : Hp} {g : Z.W.G} {a : Addr} {kvs : List (DKey × D)} (r : R X.K E H Hf g sl σ) (hs : sl[i]? = some (some (.oK kvs)) ∨ sl[i]? = some (some (.kK kvs))) (ha : σ[i]? = some (some (.ref a))) :
    ∃ vs, Rd H a (.dK vs) ∧ KVd X.K Hf vs kvs := by
  rcases hs with hs | hs
  · obtain ⟨v, h1, b, vs, rfl, h2, h3, _⟩ := r.slot i _ hs
    rw [ha] at h1
    cases h1
    exact ⟨vs, .inl h2, h3⟩
  · obtain ⟨v, h1, b, vs, o, rfl, h2, h3⟩ := r.slot i _ hs
    rw [ha] at h1
    cases h1
    exact ⟨vs, .inr ⟨o, r.base.fh _ _ h2⟩, h3⟩
theorem de_dget (hu : X.A.units + 1 < cLine) (hk : DE X Z E Wx a fa) (hN : X.N[i]? = some x := by rfl) (hv : Vis X.env.scope x := by first | exact Or.inl rfl | exact Or.inr (Or.inl rfl) | exact Or.inr (Or.inr rfl)) (hd : (x == ("__debug__" : Str)) = false := by decide)
    (hcd : (x == ("__classdict__" : Str)) = false := by decide) (hs : NoSl a := by intro _ _; rfl) : DE X Z E Wx (.Subscript (.Name x p) a pos) (eDGet i fa) := by
  refine PE.imp (pe_dget hu (pe_var hN hv hd hcd) hk hs) fun σ H Q ⟨Hf, g, sl, r, q⟩ => ?_
  obtain ⟨b, kvs, h1, h2, q1⟩ := mK_go r q
  refine ⟨_, h1, Hf, g, sl, r, (go_bind (Rm := RlD X.K) q1).mono fun y H1 ⟨Hf1, g1, kd, b1, d1, q2⟩ => ?_⟩
  obtain ⟨d, ed, k⟩ := go_lift q2
  obtain ⟨ky, e1, e2⟩ := Option.bind_eq_some_iff.mp ed
  obtain rfl := keyD_v e1 d1
  obtain ⟨vs, rd, kv⟩ := (r.step b1).dk h2 h1
  rcases pv_get toKey_inj ky kv with ⟨n1, _⟩ | ⟨d', v, n1, n2, n3⟩
  · rw [e2] at n1; cases n1
  · rw [e2] at n1
    cases n1
    exact ⟨b, v, rfl, .inl ⟨vs, _, rd, rfl, n2.symm⟩, k _ _ _ b1.self n3⟩
theorem pc_din_run {σ : St} {H : Hp} {Q : VK} (h : tG Z X.K E (RlD X.K) Wx (eDIn i fa) σ H Q) : tDIn (tG Z X.K E (RlD X.K) Wx fa) (tVar i) σ H Q := by
  obtain ⟨Hf, g, sl, r, q⟩ := h
  refine ⟨Hf, g, sl, r, (go_bind (Rm := RlD X.K) q).mono fun y H1 ⟨Hf1, g1, kd, b1, d1, q1⟩ => ?_⟩
  obtain ⟨b, kvs, h1, h2, q2⟩ := mK_go (r.step b1) q1
  obtain ⟨d, ed, k⟩ := go_lift q2
  obtain ⟨ky, e1, rfl⟩ := Option.map_eq_some_iff.mp ed
  obtain rfl := keyD_v e1 d1
  obtain ⟨vs, rd, kv⟩ := (r.step b1).dk h2 h1
  refine ⟨_, h1, b, valV vs (toKey ky), rfl, .inl ⟨vs, _, rd, rfl, rfl⟩, ?_⟩
  rcases pv_get toKey_inj ky kv with ⟨n1, n2⟩ | ⟨d', v, n1, n2, n3⟩
  · rw [n1] at k
    rw [n2]
    exact k _ _ _ b1.self (.bl _)
  · rw [n1] at k
    rw [n2]
    exact k _ _ _ b1.self (.bl _)
theorem dt_din (hu : X.A.units + 1 < cLine) (hk : DE X Z E Wx a fa) (hN : X.N[i]? = some x := by rfl) (hv : Vis X.env.scope x := by first | exact Or.inl rfl | exact Or.inr (Or.inl rfl) | exact Or.inr (Or.inr rfl)) (hd : (x == ("__debug__" : Str)) = false := by decide)
    (hcd : (x == ("__classdict__" : Str)) = false := by decide) (hb : behindInMarks .In (.Name x p) = false := by rfl) : DT X Z E Wx (.Compare a [.In] [.Name x p] pos) (tV (eDIn i fa)) :=
  PT.imp (pt_cmp (pc_din hu hk (pe_var hN hv hd hcd)) hb) fun σ H Q h => tB_of h fun Q' q => pc_din_run q
theorem dx_dict (hc : X.calm = true) (hg : Gl X "dict") (hm : X.mg "dict" = none) (ha : DR X Z E Wx a fa) (hs : starEach [a] X.env = (false, eval a X.env) :: starEach [] X.env := by rfl) (hpl : (backTo pos (starEach [] X.env)).any (·.1) = false := by rfl) :
    DX X Z E Wx (.Call (.Name "dict" p) [a] [] pos) (xDict fa) := by
  refine PE.imp (pe_callTy (call_dictP hc) hg hm bt_dict (pa_cons ha pa_nil hs) (by decide) (by decide) hs hpl) fun σ H Q ⟨Hf, g, sl, r, q⟩ => ⟨Hf, g, sl, r, (go_bind (Rm := RlR X.K) q).mono fun y H1 ⟨Hf1, g1, d, b1, d1, q1⟩ => ?_⟩
  obtain ⟨s, es, k⟩ := go_lift q1
  obtain ⟨ds, e1, e2⟩ := Option.bind_eq_some_iff.mp es
  obtain ⟨prs, e3, rfl⟩ := Option.map_eq_some_iff.mp e2
  obtain rfl := asL_some e1
  obtain ⟨l, vs, rfl, h1, h2⟩ := d1.lst b1.fh
  obtain ⟨ps, kvs, rfl, q2, q3⟩ := asPrs_v b1.fh e3 h2
  refine ⟨l, ps, kvs, rfl, SqL.of h1, q2, fun p hp => ?_⟩
  obtain ⟨n1, n2, n3⟩ := new_n b1 hp
  have hE : E.H p = none := by
    cases e : E.H p with
    | none => rfl
    | some o => exact absurd n1 (r.base.there p (by rw [e]; simp))
  exact k _ _ _ (b1.self.allocU _ hp) ⟨⟨p, _, rfl, upd_same, pv_merge q3 .nil, hE, n2, n3⟩, fun _ a ea => by cases ea; exact n1⟩
theorem dx_dnew : DX X Z E Wx (.Dict [] [] pos) xDnew := by
  refine PE.imp pe_dnewK fun σ H Q ⟨Hf, g, sl, r, q⟩ p hp => ?_
  obtain ⟨n1, n2, n3⟩ := new_n r.base.self hp
  have hE : E.H p = none := by
    cases e : E.H p with
    | none => rfl
    | some o => exact absurd n1 (r.base.there p (by rw [e]; simp))
  exact go_pure q _ _ _ (r.base.self.allocU _ hp) ⟨⟨p, _, rfl, upd_same, .nil, hE, n2, n3⟩, fun _ a ea => by cases ea; exact n1⟩

/-! reading a dict alone: its keys can be walked -/
def wo (Hf : Hp) (q : Addr) : Hp := fun x => if x = q then none else Hf x
theorem wo_same {Hf : Hp} {q : Addr} : wo Hf q q = none := if_pos rfl
theorem wo_ne {Hf : Hp} {q x : Addr} (h : x ≠ q) : wo Hf q x = Hf x := if_neg h
theorem Dv.dropF {K : PySem.W.Frag} {Hf : Hp} {a : Addr} (hn : ∀ vs, Hf a ≠ some (.tup vs) ∧ Hf a ≠ some (.lst vs) ∧ ∀ o, Hf a ≠ some (.frz o (.tup vs))) : ∀ (d : D) {v : V}, Dv K Hf v d → Dv K (wo Hf a) v d := by
  have key : ∀ (H' : Hp), (∀ b vs, Hf b = some (.tup vs) → H' b = some (.tup vs)) → (∀ b vs, Hf b = some (.lst vs) → H' b = some (.lst vs)) → (∀ b o vs, Hf b = some (.frz o (.tup vs)) → H' b = some (.frz o (.tup vs))) → (∀ (d : D) {v : V}, Dv K Hf v d → Dv K H' v d) := by
    intro H' h1 h2 h3 d
    refine D.rec (motive_1 := fun d => ∀ {v : V}, Dv K Hf v d → Dv K H' v d) (motive_2 := fun ds => ∀ {vs : List V}, DvAll K Hf vs ds → DvAll K H' vs ds) ?_ ?_ ?_ ?_ ?_ ?_ ?_ ?_ ?_ ?_ ?_ d
    · intro v h; cases h; exact .non
    · intro b v h; cases h; exact .bl b
    · intro b v h; cases h; exact .int b
    · intro b v h; cases h with | str _ ok => exact .str b ok
    · intro b v h; cases h; exact .ref b
    · intro ds ih v h
      cases h with
      | tup a1 a2 =>
        rcases a1 with a1 | ⟨o, a1⟩
        · exact .tup (.inl (h1 _ _ a1)) (ih a2)
        · exact .tup (.inr ⟨o, h3 _ _ _ a1⟩) (ih a2)
    · intro ds ih v h; cases h with | tupF a1 c1 c2 a2 => exact .tupF (h3 _ _ _ a1) c1 c2 (ih a2)
    · intro ds ih v h; cases h with | tupS a1 a2 => exact .tupS (h1 _ _ a1) (ih a2)
    · intro ds ih v h; cases h with | lst a1 a2 => exact .lst (h2 _ _ a1) (ih a2)
    · intro vs h; cases h; exact .nil
    · intro d ds i1 i2 vs h; cases h with | cons a1 a2 => exact .cons (i1 a1) (i2 a2)
  refine key _ (fun b vs h => ?_) (fun b vs h => ?_) (fun b o vs h => ?_)
  · rw [wo_ne fun z => (hn vs).1 (by rw [← z]; exact h)]; exact h
  · rw [wo_ne fun z => (hn vs).2.1 (by rw [← z]; exact h)]; exact h
  · rw [wo_ne fun z => (hn vs).2.2 o (by rw [← z]; exact h)]; exact h
theorem R.lock {H Hf : Hp} {g : Z.W.G} {sl : SL} {σ : St} {q : Addr} {vs : List (Key × V)} {kvs : List (DKey × D)} (od : Obj) (r : R X.K E H Hf g sl σ) (hi : sl[i]? = some (some (.oK kvs))) (hq : σ[i]? = some (some (.ref q))) (hH : H q = some (.dK vs)) (kv : KVd X.K Hf vs kvs) (ow : OwnOk E Hf g q) :
    R X.K E (upd H q (.frz od (.dK vs))) (upd Hf q (.frz od (.dK vs))) g (sl.set i (some (.kK kvs))) σ := by
  have sm : Same Hf (upd Hf q (.frz od (.dK vs))) := same_new ow.2.1
  have key : ∀ (j : Nat) (y : Slot), (sl.set i (some (.kK kvs)))[j]? = some (some y) → (j = i ∧ y = .kK kvs) ∨ (j ≠ i ∧ sl[j]? = some (some y)) := by
    intro j y ej
    rw [List.getElem?_set] at ej
    split at ej
    · rename_i hij
      split at ej
      · cases ej; exact .inl ⟨hij.symm, rfl⟩
      · cases ej
    · rename_i hij
      exact .inr ⟨fun z => hij z.symm, ej⟩
  refine ⟨?_, fun j y ej => ?_, fun j l y z b n ej el oy oz => ?_, by rw [List.length_set]; exact r.len⟩
  · have b := r.base
    exact { ff := Same.tr b.ff sm
            fh := fun x u e => by
              by_cases hx : x = q
              · subst hx; rw [upd_same] at e ⊢; exact e
              · rw [upd_ne hx] at e ⊢; exact b.fh x u e
            keep := fun x u e n => by
              have hx : x ≠ q := fun z => by subst z; rw [ow.1] at e; cases e
              rw [upd_ne hx]; exact b.keep x u e n
            old := fun x e => by
              have hx : x ≠ q := fun z => by subst z; exact e ow.1
              rw [upd_ne hx]; exact b.old x e
            there := fun x e => by
              have hx : x ≠ q := fun z => by subst z; exact e ow.1
              rw [upd_ne hx]; exact b.there x e
            rep := Wd.loc2 b.rep (fun x _ _ e => same_new ow.2.1 x _ e) fun x z => by
              have hx : x ≠ q := fun w => by subst w; exact ow.2.2 z
              rw [upd_ne hx]
            dis := fun x z => by
              have hx : x ≠ q := fun w => by subst w; exact ow.2.2 z
              rw [upd_ne hx]; exact b.dis x z
            fpo := b.fpo }
  · rcases key j y ej with ⟨rfl, rfl⟩ | ⟨hj, ej'⟩
    · exact ⟨_, hq, q, vs, od, rfl, upd_same, KVd.mono sm kv⟩
    · obtain ⟨w, q1, q2⟩ := r.slot j y ej'
      refine ⟨w, q1, ?_⟩
      have hw : y.own = true → w ≠ .ref q := fun oy z => by subst z; exact r.apart i j _ y q (Ne.symm hj) hi ej' rfl oy hq q1
      match y, q2, hw with
      | .d x, q2, _ => exact Dv.mono sm x q2
      | .kK zs, ⟨b, us, o, e1, k1, k2⟩, _ => exact ⟨b, us, o, e1, sm _ _ k1, KVd.mono sm k2⟩
      | .oL zs, ⟨b, us, e1, k1, k2, k3⟩, hw =>
        have hb : b ≠ q := fun z => hw rfl (by rw [e1, z])
        exact ⟨b, us, e1, by rw [upd_ne hb]; exact k1, DvAll.mono sm zs k2, k3.1, by rw [upd_ne hb]; exact k3.2.1, k3.2.2⟩
      | .oK zs, ⟨b, us, e1, k1, k2, k3⟩, hw =>
        have hb : b ≠ q := fun z => hw rfl (by rw [e1, z])
        exact ⟨b, us, e1, by rw [upd_ne hb]; exact k1, KVd.mono sm k2, k3.1, by rw [upd_ne hb]; exact k3.2.1, k3.2.2⟩
      | .oT zs, ⟨b, us, e1, k1, k2, k3⟩, hw =>
        have hb : b ≠ q := fun z => hw rfl (by rw [e1, z])
        exact ⟨b, us, e1, by rw [upd_ne hb]; exact k1, TVd.mono sm k2, k3.1, by rw [upd_ne hb]; exact k3.2.1, k3.2.2⟩
  · have aux : ∀ (j : Nat) (y : Slot), (sl.set i (some (.kK kvs)))[j]? = some (some y) → y.own = true → sl[j]? = some (some y) := by
      intro j y ej oy
      rcases key j y ej with ⟨rfl, rfl⟩ | ⟨hj, ej'⟩
      · cases oy
      · exact ej'
    exact r.apart j l y z b n (aux j y ej oy) (aux l z el oz) oy oz
theorem Base.unlock {W : Wd} {H Hf H' Hf' : Hp} {g g' : W.G} {q : Addr} {f u : HO} (b : Base W (upd H q f) (upd Hf q f) g H' Hf' g') (h1 : H q = some u) (h2 : Hf q = none) (h3 : ¬ W.fp g q) (hfe : stays f = false := by rfl) : Base W H Hf g (upd H' q u) (wo Hf' q) g' := by
  have hq : (upd H q f) q ≠ none := by rw [upd_same]; simp
  have nf : ¬ W.fp g' q := fun z => by
    rcases b.fpo q z with w | w
    · exact h3 w
    · exact hq w
  exact { ff := fun x o e => by
            have hx : x ≠ q := fun z => by subst z; rw [h2] at e; cases e
            rw [wo_ne hx]; exact b.ff x o (by rw [upd_ne hx]; exact e)
          fh := fun x o e => by
            by_cases hx : x = q
            · subst hx; rw [wo_same] at e; cases e
            · rw [wo_ne hx] at e; rw [upd_ne hx]; exact b.fh x o e
          keep := fun x o e n => by
            by_cases hx : x = q
            · subst hx; rw [upd_same, ← h1]; exact e
            · rw [upd_ne hx]; exact b.keep x o (by rw [upd_ne hx]; exact e) n
          old := fun x e => by
            by_cases hx : x = q
            · subst hx; rw [wo_same, h2]
            · rw [wo_ne hx]
              have := b.old x (by rw [upd_ne hx]; exact e)
              rw [upd_ne hx] at this; exact this
          there := fun x e => by
            by_cases hx : x = q
            · subst hx; rw [upd_same]; simp
            · rw [upd_ne hx]; exact b.there x (by rw [upd_ne hx]; exact e)
          rep := Wd.loc2 b.rep (fun x o ho e => by
            by_cases hx : x = q
            · subst hx; rw [b.ff x f upd_same] at e; cases e; rw [hfe] at ho; cases ho
            · rw [wo_ne hx]; exact e) fun x z => by
            have hx : x ≠ q := fun w => by subst w; exact nf z
            rw [upd_ne hx]
          dis := fun x z => by
            have hx : x ≠ q := fun w => by subst w; exact nf z
            rw [wo_ne hx]; exact b.dis x z
          fpo := fun x z => by
            have hx : x ≠ q := fun w => by subst w; exact nf z
            rcases b.fpo x z with w | w
            · exact .inl w
            · rw [upd_ne hx] at w; exact .inr w }
theorem de_lock (i : Nat) (h : DE X Z E Wx e fe) : DE X Z E Wx e (eLock i fe) := by
  refine PE.imp (pe_lock h) fun σ H Q ⟨Hf, g, sl, r, q⟩ => ?_
  unfold eLock at q
  match ei : sl[i]? with
  | some (some (.oK kvs)) =>
    rw [ei] at q
    obtain ⟨v, h1, a, vs, rfl, h2, h3, h4⟩ := r.slot i _ ei
    refine ⟨a, _, h2, trivial, fun od => ⟨_, g, _, r.lock od ei h1 h2 h3 h4, ?_⟩⟩
    simp only at q
    match em : fe (sl.set i (some (.kK kvs))) g with
    | none => rw [em] at q; exact q.elim
    | some (.exc c, g') => rw [em] at q; exact q.elim
    | some (.ok d, g') =>
      rw [em] at q
      intro v H' Hf' b dv
      have hk : H' a = some (.frz od (.dK vs)) := b.keep a _ upd_same h4.2.2
      have hfa : Hf' a = some (.frz od (.dK vs)) := b.ff a _ upd_same
      refine ⟨hk, q v _ _ (b.unlock h2 h4.2.1 h4.2.2) (Dv.dropF (fun us => ⟨fun z => ?_, fun z => ?_, fun o z => ?_⟩) d dv)⟩
      · rw [hfa] at z; cases z
      · rw [hfa] at z; cases z
      · rw [hfa] at z; cases z
  | some (some (.d y)) => rw [ei] at q; exact q.elim
  | some (some (.oL y)) => rw [ei] at q; exact q.elim
  | some (some (.oT y)) => rw [ei] at q; exact q.elim
  | some (some (.kK y)) => rw [ei] at q; exact q.elim
  | some none => rw [ei] at q; exact q.elim
  | none => rw [ei] at q; exact q.elim
theorem pv_keyAt {K : PySem.W.Frag} {Hf : Hp} : ∀ {vs : List (Key × V)} {kvs : List (DKey × D)} {j : Nat} {k : Key} {v : V}, KVd K Hf vs kvs → vs[j]? = some (k, v) → ∃ q, kvs[j]? = some q ∧ k = toKey q.1
  | _, _, j, k, v, .nil, e => by simp at e
  | _, _, 0, k, v, .cons (a := p) (b := q) h t, e => by
    simp at e; subst e; exact ⟨q, rfl, h.1⟩
  | _, _, j + 1, k, v, .cons h t, e => by
    simp at e
    obtain ⟨q, e1, e2⟩ := pv_keyAt t e
    exact ⟨q, by simpa using e1, e2⟩

theorem mKl_go {α β : Type} {Rl : Z.W.G → Hp → Hp → β → α → Prop} {σ : St} {sl : SL} {H Hf : Hp} {g : Z.W.G} {k : List (DKey × D) → M Z.W.G α} {Q : β → Hp → Prop} (r : R X.K E H Hf g sl σ) (h : go Z Rl Wx σ (M.bind (mKl i) k sl g) H Hf g Q) :
    ∃ a kvs vs o, σ[i]? = some (some (.ref a)) ∧ Hf a = some (.frz o (.dK vs)) ∧ KVd X.K Hf vs kvs ∧ go Z Rl Wx σ (k kvs sl g) H Hf g Q := by
  unfold M.bind mKl at h
  match e : sl[i]? with
  | some (some (.kK kvs)) =>
    rw [e] at h
    obtain ⟨v, h1, a, vs, o, rfl, h2, h3⟩ := r.slot i _ e
    exact ⟨a, kvs, vs, o, h1, h2, h3, h⟩
  | some (some (.oK kvs)) => rw [e] at h; exact h.elim
  | some (some (.d y)) => rw [e] at h; exact h.elim
  | some (some (.oL y)) => rw [e] at h; exact h.elim
  | some (some (.oT y)) => rw [e] at h; exact h.elim
  | some none => rw [e] at h; exact h.elim
  | none => rw [e] at h; exact h.elim
/-- the keys of slot i are all right texts and numbers -/
def okKs (kvs : List (DKey × D)) : Bool := kvs.all fun q => match q.1 with
  | .inl _ => true
  | .inr s => okSb s
theorem di_keys (hN : X.N[i]? = some x := by rfl) (hv : Vis X.env.scope x := by first | exact Or.inl rfl | exact Or.inr (Or.inl rfl) | exact Or.inr (Or.inr rfl)) (hd : (x == ("__debug__" : Str)) = false := by decide)
    (hcd : (x == ("__classdict__" : Str)) = false := by decide) : DI X Z E Wx tg (.Name x p) (M.bind (mKl i) fun kvs => M.lift (if okKs kvs = true then some (kvs.map fun q => kD q.1) else none)) := by
  refine PI.imp (pi_keys (pe_var hN hv hd hcd)) fun σ H Rk ⟨Hf, g, sl, r, q⟩ => ?_
  obtain ⟨a, kvs, vs, o, h1, h2, h3, q1⟩ := mKl_go r q
  obtain ⟨ds, ed, k⟩ := go_lift q1
  split at ed
  · rename_i hok
    cases ed
    refine ⟨_, h1, a, o, rfl, .inl ⟨vs, r.base.fh _ _ h2, k _ _ _ r.base.self ?_⟩⟩
    show Walk _ _ _ _
    rw [List.length_map, ← pv_len h3]
    refine ⟨fun i H hi s => ⟨s _ _ h2, hi⟩, fun H s => ⟨s _ _ h2, Nat.le_refl _⟩, fun i H y H' hi s hy => ?_⟩
    obtain ⟨e1, ky, v, e2, e3⟩ := hy
    obtain ⟨q, e4, e5⟩ := pv_keyAt h3 e2
    refine ⟨kD q.1, by rw [List.getElem?_map, e4]; rfl, .inl ⟨e1, ?_⟩⟩
    rw [e3, e5]
    have hq := List.all_eq_true.mp hok q (List.mem_of_getElem? e4)
    match h : q.1 with
    | .inl z => exact .int z
    | .inr t =>
      rw [h] at hq
      exact .str t (okSb_ok hq)
  · cases ed
/-- x, y = a, b where a name is also read by a block: a pair is made -/
theorem R.tupU {H Hf : Hp} {g : Z.W.G} {sl : SL} {σ : St} {q : Addr} (o : HO) (r : R X.K E H Hf g sl σ) (hq : H q = none) : R X.K E (upd H q o) Hf g sl σ := r.step (r.base.self.allocU o hq)
theorem ds_parC {fx fy : M Z.W.G Slot} {i j : Nat} {x y : Str} {px py pt : Pos} {kt k2 pt2} (hc : X.calm = true) (hN : X.N.Nodup) (hi : X.N[i]? = some x) (hj : X.N[j]? = some y)
    (hx : Loc X.env.scope x) (hy : Loc X.env.scope y) (ha : DX X Z E Wx a fx) (hb : DX X Z E Wx b fy)
    (hf : X.fn x = true ∨ X.env.scope.names.lookup x = some .local := by first | exact .inl rfl | exact .inr rfl | assumption) (hf2 : X.fn y = true ∨ X.env.scope.names.lookup y = some .local := by first | exact .inl rfl | exact .inr rfl | assumption)
    (hw : swappedStores [.Tuple [.Name x px, .Name y py] kt pt] (.Tuple [a, b] k2 pt2) X.env = pure none := by rfl)
    (hn : (assignEach [.Name x px, .Name y py] X.env).length = 2 := by rfl) (hst : (assignEach [.Name x px, .Name y py] X.env).findIdx? (·.1) = none := by rfl)
    (hs1 : (assignEach [.Name x px, .Name y py] X.env).map (·.2) = assign (.Name x px) X.env :: (assignEach [.Name y py] X.env).map (·.2) := by rfl) (hs2 : (assignEach [.Name y py] X.env).map (·.2) = assign (.Name y py) X.env :: (assignEach [] X.env).map (·.2) := by rfl)
    (hs : swapsWithSole [.Tuple [.Name x px, .Name y py] kt pt] (.Tuple [a, b] k2 pt2) pos.line X.env = pure false := by rfl) (h1 : starEach [a, b] X.env = (false, eval a X.env) :: starEach [b] X.env := by rfl) (h2 : starEach [b] X.env = (false, eval b X.env) :: starEach [] X.env := by rfl)
    (ht : (assignEach [.Tuple [.Name x px, .Name y py] kt pt] X.env).map (·.2) = [assign (.Tuple [.Name x px, .Name y py] kt pt) X.env] := by rfl) :
    DS X Z E Wx (.Assign [.Tuple [.Name x px, .Name y py] kt pt] (.Tuple [a, b] k2 pt2) pos) (sPar i j fx fy) := by
  refine PS.imp (ps_asg (pe_tup (pa_cons ha (pa_cons hb pa_nil h2) h1)) (pg_tup hc (pgs_cons (pg_name hN hi hx hf) (pgs_cons (pg_name hN hj hy hf2) pgs_nil hs2) hs1) hn hst) hs hw ht) fun D σ H ⟨Hf, g, sl, r, q⟩ => ?_
  refine ⟨Hf, g, sl, r, (goS_do (Rl := RlX X.K E H) r q).mono fun v H1 ⟨Hf1, g1, s1, b1, r1, d1, q1⟩ => ⟨Hf1, g1, sl, r1, (goS_do (Rl := RlX X.K E H1) r1 q1).mono fun w H2 ⟨Hf2, g2, s2, b2, r2, d2, q2⟩ => ?_⟩⟩
  refine ⟨by show 2 ≤ sizeLine; decide, fun p hp => ?_⟩
  have rA := R.set_new (X := X) (i := i) r r1 d1
  have rB := R.set_new (X := X) (i := j) rA (rA.step b2) d2
  exact ⟨p, [v, w], rfl, SqT.of upd_same, rfl, v, [w], rfl, w, [], rfl, rfl, q2 _ _ Hf2 (same_refl _) (rB.tupU _ hp)⟩
end
end DL
namespace DL
open PySem L2
/-- a def of the module -/
structure DefAt (K : PySem.W.Frag) (mg : Str → Option Value) (x : Str) (st : Stmt) (f : Addr) (fd : FuncData) : Prop where
  fn : Fun K x x st f fd
  mgx : mg x = some (.ref f)
theorem DefAt.kp {K : PySem.W.Frag} {mg : Str → Option Value} {x : Str} {st : Stmt} {f : Addr} {fd : FuncData} (d : DefAt K mg x st f fd) : PySem.W.keepIn K (.ref f) = true := d.fn.kp
theorem cx_false {P : Program} {w : World} {outer : List Env} {H : Hp} {s : Shared} {u : Value} {s' : Shared} (h : L2.CX P w outer H s (fun _ _ _ => False) u s') : False := by
  obtain ⟨_, _, _, _, _, _, _, _, _, _, _, _, z⟩ := h
  exact z
def iKeyD {G : Type} (i : Nat) : M G (List D) := M.bind (mKl i) fun kvs => M.lift (if okKs kvs = true then some (kvs.map fun q => kD q.1) else none)
/-- a, b = e, e a tuple -/
def sUnp {G : Type} (f : M G D) (t : Tg) : SM G := sDo f fun d => fun sl g => match t d sl with
  | some sl' => some (.nx, sl', g)
  | none => none
section
variable {X : Cx} {Z : Cn} {E : Ent Z.W} {Wx : WX} {e a b c tg : Expr} {pos p ap cp : Pos} {fe fa fb fc : M Z.W.G D} {i : Nat} {x : Str}
theorem ds_unp {u : TG} {ixs : List Nat} {t : Tg} (he : DE X Z E Wx e fe) (hg : DG X tg u ixs t) (hs : swapsWithSole [tg] e pos.line X.env = pure false := by rfl) (hw : swappedStores [tg] e X.env = pure none := by rfl)
    (h1 : (assignEach [tg] X.env).map (·.2) = [assign tg X.env] := by rfl) : DS X Z E Wx (.Assign [tg] e pos) (sUnp fe t) := by
  refine PS.imp (ps_asg he hg.pg hs hw h1) fun D σ H ⟨Hf, g, sl, r, q⟩ => ?_
  refine ⟨Hf, g, sl, r, (goS_do (Rl := RlD X.K) r q).mono fun v H1 ⟨Hf1, g1, d, b1, r1, d1, q1⟩ => ?_⟩
  match et : t d sl with
  | none => rw [et] at q1; exact q1.elim
  | some sl' =>
    rw [et] at q1
    exact hg.ok Z E H1 Hf1 g1 sl sl' σ v d _ r1 d1 et fun σ' r2 _ => q1 σ' H1 Hf1 (same_refl _) r2

/-- a new list is told to stand -/
theorem go_newL {σ : St} {m : Out Z.W.G D} {H Hf : Hp} {g : Z.W.G} {Q : VK} (q : go Z (RlD X.K) Wx σ m H Hf g Q) : go Z (NewL X.K H) Wx σ m H Hf g Q := by
  match m, q with
  | some (.exc c, g1), q => exact q
  | some (.ok d, g1), q =>
    intro v H1 Hf1 b1 ⟨p, vs, ds, e1, e2, h0, h1, h2, h3, h4⟩
    subst e1 e2
    refine q _ H1 (upd Hf1 p (.lst vs)) ?_ (.lst upd_same (DvAll.mono (same_new h2) ds h3))
    exact { ff := Same.tr b1.ff (same_new h2)
            fh := fun x u e => by
              by_cases hx : x = p
              · subst hx; rw [upd_same] at e; cases e; exact h1
              · rw [upd_ne hx] at e; exact b1.fh x u e
            keep := b1.keep
            old := fun x e => by
              have hx : x ≠ p := fun q => by subst q; exact e h0
              rw [upd_ne hx]; exact b1.old x e
            there := b1.there
            rep := Wd.loc3 b1.rep (same_new h2)
            dis := fun x q => by
              have hx : x ≠ p := fun z => by subst z; exact h4 q
              rw [upd_ne hx]; exact b1.dis x q
            fpo := b1.fpo }
section
variable {elt iter : Expr} {ifs : List Expr} {scope : Scope} {own : List (Str × Nat)} {fi : M Z.W.G (List D)} {ft : M Z.W.G Bool} {u : TG} {ixs : List Nat} {t : Tg} {y : Str} {py spos : Pos}
theorem ds_setLc {i : Nat} (hc : X.calm = true) (hN : X.N.Nodup) (hy : X.N[i]? = some y) (hyl : X.env.scope.names.lookup y = some .local) (hi : DI X Z E Wx tg iter fi) (ok : BlkOk X.N X.env.scope scope own)
    (hg : ∀ (s : Shared) (H : Hp) (C : Addr) (cl : List (Str × Addr)) (fp : List Addr), PG (X.blk s H scope (compEnvC scope cl C X.env) fp) tg u) (hk : TgOk X.K u ixs t)
    (ht : ∀ (s : Shared) (H : Hp) (C : Addr) (cl : List (Str × Addr)) (fp : List Addr), PTs (X.blk s H scope (compEnvC scope cl C X.env) fp) ifs (tG Z X.K E RlB W0 ft))
    (he : ∀ (s : Shared) (H : Hp) (C : Addr) (cl : List (Str × Addr)) (fp : List Addr), DE (X.blk s H scope (compEnvC scope cl C X.env) fp) Z E W0 elt fe) (hix : ∀ i ∈ ixs, i ∈ own.map (·.2))
    (hsw : swapsWith (.ListComp elt [⟨tg, iter, ifs, 0⟩] scope pos) (some (.Name y py)) spos.line X.env = pure true) (hs : ∀ x, foldedSetIterable iter X.env x = pure x := by intro _; rfl) :
    DS X Z E Wx (.Assign [.Name y py] (.ListComp elt [⟨tg, iter, ifs, 0⟩] scope pos) spos) (sAsg i (xL (eComp fi (own.map (·.2)) t ft fe))) := by
  refine PS.imp (ps_setLc (te := tG Z X.K E (RlD X.K) W0 fe) hc hN hy hyl hsw hi ok hg ht he hs) fun D σ H ⟨Hf, g, sl, r, q⟩ => ?_
  have q1 := goS_do (Rl := RlX X.K E H) r q
  refine lc_run r ((go_bind (Rm := NewL X.K H) q1).mono fun v H1 ⟨Hf1, g1, d, b1, d1, q2⟩ => ?_) hix hk
  obtain ⟨p, vs, ds, rfl, rfl, h0, h1, h2, h3, h4⟩ := d1
  obtain ⟨xs, ex, q3⟩ := go_bl q2
  cases ex
  have hE : E.H p = none := by
    cases e : E.H p with
    | none => rfl
    | some o => exact absurd h0 (r.base.there p (by rw [e]; simp))
  obtain ⟨Hf2, g2, s2, b2, r2, d2, q4⟩ := q3 _ _ _ b1.self ⟨⟨p, vs, rfl, h1, h3, hE, h2, h4⟩, fun _ a ea => by cases ea; exact h0⟩
  exact q4 _ H1 Hf2 (same_refl _) (R.set_new r r2 d2)
theorem ds_setLd {i : Nat} (hc : X.calm = true) (hN : X.N.Nodup) (hy : X.N[i]? = some y) (hyl : X.env.scope.names.lookup y = some .local) (hi : DI X Z E Wx tg iter fi) (ok : BlkOk X.N X.env.scope scope own)
    (hg : ∀ (s : Shared) (H : Hp) (C : Addr) (cl : List (Str × Addr)) (fp : List Addr), PG (X.blk s H scope (compEnvC scope cl C X.env) fp) tg u) (hk : TgOk X.K u ixs t)
    (ht : ∀ (s : Shared) (H : Hp) (C : Addr) (cl : List (Str × Addr)) (fp : List Addr), PTs (X.blk s H scope (compEnvC scope cl C X.env) fp) ifs (tG Z X.K E RlB W0 ft))
    (he : ∀ (s : Shared) (H : Hp) (C : Addr) (cl : List (Str × Addr)) (fp : List Addr), DE (X.blk s H scope (compEnvC scope cl C X.env) fp) Z E W0 elt fe) (hix : ∀ i ∈ ixs, i ∈ own.map (·.2))
    (hsw : swapsWith (.ListComp elt [⟨tg, iter, ifs, 0⟩] scope pos) (some (.Name y py)) spos.line X.env = pure true) (hs : ∀ x, foldedSetIterable iter X.env x = pure x := by intro _; rfl) :
    DS X Z E Wx (.Assign [.Name y py] (.ListComp elt [⟨tg, iter, ifs, 0⟩] scope pos) spos) (sAsg i (xD (eComp fi (own.map (·.2)) t ft fe))) := by
  refine PS.imp (ps_setLc (te := tG Z X.K E (RlD X.K) W0 fe) hc hN hy hyl hsw hi ok hg ht he hs) fun D σ H ⟨Hf, g, sl, r, q⟩ => ?_
  have q1 := goS_do (Rl := RlX X.K E H) r q
  refine lc_run r (go_newL ((go_bind (Rm := RlD X.K) q1).mono fun v H1 ⟨Hf1, g1, d, b1, d1, q2⟩ => ?_)) hix hk
  obtain ⟨Hf2, g2, s2, b2, r2, d2, q4⟩ := q2 _ _ _ b1.self ⟨d1, fun z => by cases z⟩
  exact q4 _ H1 Hf2 (same_refl _) (R.set_new r r2 d2)
end
end
end DL
namespace HT
open PySem PySem.Spec PyProof.Rows L2
section
variable {prog : Program} {w : World} {A : Around} {E : Value → Shared → Prop} {s : Shared}
theorem adjust_rev (n : Nat) : Builtin.Slice.sliceAdjust none none (-1) (n : Int) = ((n : Int) - 1, -1) := rfl
theorem places_rev (n : Nat) : Builtin.Slice.slicePlaces ((n : Int) - 1) (-1) (-1) = n := by
  unfold Builtin.Slice.slicePlaces
  simp
  omega
theorem sliceApplied_rev {sl : Addr} {t : Tok} {n : Nat} {Q : Int × Int × Nat → Shared → Prop} (hs : s.heap.IsSliceOf sl .none .none (.int (-1) t))
    (h : Q ((n : Int) - 1, -1, n) s) : wpAny (model prog w) A (Builtin.Slice.sliceApplied (.ref sl) (pure (n : Int))) Q E s := by
  obtain ⟨os, hos, hcs, hds⟩ := id hs
  unfold Builtin.Slice.sliceApplied Builtin.Slice.sliceFields
  refine wpAny_bind (wpAny_bind (wpAny_field hos hds (x := .none) rfl (wpAny_bind (wpAny_field hos hds (x := .none) rfl (wpAny_bind (wpAny_field hos hds (x := .int (-1) t) rfl (wpAny_pure ?_)))))))
  refine wpAny_bind (slicePart_int ?_)
  show wpAny _ _ (if ((-1 : Int) == 0) = true then _ else _) _ _ s
  rw [if_neg (by decide)]
  refine wpAny_bind (slicePart_none (wpAny_bind (slicePart_none (wpAny_bind (wpAny_pure ?_)))))
  show wpAny _ _ (match Builtin.Slice.sliceAdjust none none (-1) (n : Int) with | (lo, hi) => pure (lo, (-1 : Int), Builtin.Slice.slicePlaces lo hi (-1))) _ _ s
  rw [adjust_rev n]
  show wpAny _ _ (pure ((n : Int) - 1, (-1 : Int), Builtin.Slice.slicePlaces ((n : Int) - 1) (-1) (-1))) _ _ s
  rw [places_rev]
  exact wpAny_pure h
theorem fm_congr {α β : Type} {f g : α → Option β} : ∀ {l : List α}, (∀ x ∈ l, f x = g x) → l.filterMap f = l.filterMap g
  | [], _ => rfl
  | x :: l, h => by
    rw [List.filterMap_cons, List.filterMap_cons, h x (by simp), fm_congr fun y hy => h y (by simp [hy])]
theorem pick_rev (xs : Array Value) : ((List.range xs.size).filterMap fun (m : Nat) => xs[((xs.size : Int) - 1 + (m : Int) * (-1)).toNat]?).toArray = xs.toList.reverse.toArray := by
  have e : (List.range xs.size).filterMap (fun (m : Nat) => xs[((xs.size : Int) - 1 + (m : Int) * (-1)).toNat]?) = ((List.range xs.size).map fun k => xs.size - 1 - k).filterMap (xs[·]?) := by
    rw [List.filterMap_map]
    refine fm_congr fun m hm => ?_
    have := List.mem_range.mp hm
    have e : ((xs.size : Int) - 1 + (m : Int) * (-1)).toNat = xs.size - 1 - m := by omega
    rw [e]
    rfl
  rw [e, PySem.W.krv_range, List.filterMap_reverse, PySem.W.krv_all]
theorem getItem_tuple_rev {t sl : Addr} {items : Array Value} {tk : Tok} {Q : Value → Shared → Prop} (ht : IsTup s.heap t items) (hs : s.heap.IsSliceOf sl .none .none (.int (-1) tk))
    (h : Q (.ref s.heap.objs.size) { s with heap := s.heap.push { cls := .type "tuple", data := .seq items.toList.reverse.toArray } })
    (hsz : items.size ≤ sizeLine) : wpAny (model prog w) A (getItem (.ref t) (.ref sl)) Q E s := by
  have htake : sizeOk (.seq items.toList.reverse.toArray) := by
    show items.toList.reverse.toArray.size ≤ sizeLine
    rw [List.size_toArray, List.length_reverse, Array.length_toList]
    exact hsz
  obtain ⟨os, hos, hcs, hds⟩ := id hs
  have hTs : s.TypeIs (.ref sl) "slice" := ⟨os, hos, hcs⟩
  unfold getItem
  try with_reducible refine wpAny_holding ?_
  first | refine wpAny_bind (wpAny_pure ?_) | skip
  refine wpAny_bind (wpAny_sequenceKey ht.typeIs (by decide) ?_)
  refine wpAny_bind (wpAny_callSpecial?_slot (name := Str.ofString "__getitem__") ht.typeIs PyProof.Rows.slot_tuple_getitem
    (wpAny_call_entry PyProof.Rows.slot_tuple_getitem ht.typeIs entry_tuple_getitem ?_ (args_tuple_getitem _ _)))
  show wpAny _ _ (Builtin.Tuple.tupleItemsOf (.ref t) >>= _) _ _ s
  refine wpAny_bind (tupleItemsOf_ ht (wpAny_bind (wpAny_typeOf hTs ?_)))
  rw [if_pos (by decide)]
  refine wpAny_bind (sliceApplied_rev hs ?_)
  have hno : ¬ ((((items.size : Int) - 1) == 0 && (-1 : Int) == 1 && items.size == items.size) = true) := by simp
  show wpAny _ _ (if (((items.size : Int) - 1) == 0 && (-1 : Int) == 1 && items.size == items.size) = true then _ else _) _ _ s
  rw [if_neg hno, pick_rev]
  first
    | exact wpAny_bind (m := Builtin.Tuple.tupleExact _) (wpAny_newObj_type (wpAny_pure ⟨_, rfl, wpAny_pure h⟩) htake)
    | exact wpAny_bind (wpAny_bind (m := Builtin.Tuple.tupleExact _) (wpAny_newObj_type (wpAny_pure ⟨_, rfl, wpAny_pure h⟩) htake))
    | exact wpAny_bind (wpAny_bind (m := Builtin.Tuple.tupleExact _) (wpAny_newObj_type (wpAny_pure (wpAny_pure ⟨_, rfl, wpAny_pure h⟩)) htake))
end
end HT
namespace L2
open PySem PySem.Spec PyProof.Rows
section
variable {X : Cx}
def tRevT (K : PySem.W.Frag) (te : TE) : TE := fun σ H Q => te σ H fun x H1 => ∃ a xs, x = .ref a ∧ SqT K H1 a xs ∧ ∀ p, H1 p = none → Q (.ref p) (upd H1 p (.tup xs.reverse))
theorem pe_revT {e : Expr} {te : TE} {k : Nat} {p1 p2 p3 pos : Pos} (he : PE X e te) : PE X (.Subscript e (.Slice none none (some (.UnaryOp .USub (.Constant (.int 1) k p1) p2)) p3) pos) (tRevT X.K te) := by
  refine ⟨fun pins s σ H Q I h => ?_⟩
  refine Subscript_ (thn (he.run pins s σ H _ I h) fun v s1 ⟨x, H1, I1, r1, a, xs, ex, hx, q⟩ => ?_)
  subst ex
  cases r1
  have hst : PO X (some (.UnaryOp .USub (.Constant (.int 1) k p1) p2)) (tPart (tUn (rU fun i => .int (-i)) (tC (.int 1)))) := po_some (pe_un un_neg pe_int)
  refine wpAny_Slice (thn (po_none.run pins s1 σ H1 (fun o H2 => o = none ∧ H2 = H1) I1 ⟨rfl, rfl⟩) fun vl s2 ⟨l, H2, I2, pl, el, e2⟩ => ?_)
  subst el e2
  refine thn (po_none.run pins s2 σ H2 (fun o H3 => o = none ∧ H3 = H2) I2 ⟨rfl, rfl⟩) fun vu s3 ⟨u, H3, I3, pu, eu, e3⟩ => ?_
  subst eu e3
  refine thn (hst.run pins s3 σ H3 (fun o H4 => o = some (-1) ∧ H4 = H3) I3 ⟨1, rfl, -1, rfl, rfl, rfl⟩) fun vs s4 ⟨o, H4, I4, ps, eo, e4⟩ => ?_
  subst eo e4
  cases pl
  cases pu
  cases ps with
  | int i tk =>
    have I5 : Inv X pins σ H4 { s4 with heap := s4.heap.push { cls := .type "slice", data := .fields #[.none, .none, .int (-1) tk] } } := I4.kept (t' := s4.toks) fun b ob q => Heap.get?_push_of_some _ q
    obtain ⟨its, r, ht, hz⟩ := I5.tuple hx
    have hlen := r.length
    show wpAny (model X.prog X.w) X.A (subscriptTail e (.Slice none none (some (.UnaryOp .USub (.Constant (.int 1) k p1) p2)) p3) (.ref a) (.ref s4.heap.objs.size)) (EP X pins σ Q) X.xe { s4 with heap := s4.heap.push { cls := .type "slice", data := .fields #[.none, .none, .int (-1) tk] } }
    refine tail_any (ops := [.ref a, .ref s4.heap.objs.size]) ht.typeIs (PyProof.Rows.slot_tuple_getitem.lookup) ?_ (by with_unfolding_all rfl)
    refine HT.getItem_tuple_rev ht (Heap.IsSliceOf.new _ .none .none (.int (-1) tk)) ?_ (by rw [List.size_toArray, ← hlen]; exact hz)
    refine ⟨.ref _, _, I5.laid (t' := s4.toks) (o := .tup xs.reverse) (fun b ob q => Heap.get?_push_of_some _ q) (Nat.le_refl _) ?_, rfl, q _ (I5.hok.fresh (Nat.le_refl _))⟩
    exact ⟨by rw [List.length_reverse]; exact hz, _, r.reverse, IsTup.new _ _⟩
end
end L2
namespace L2
open PySem PySem.Spec PyProof.Rows
section
variable {X : Cx}
theorem strRev (n : Nat) : Builtin.Str.strSliceIndices none none (-1) n = (List.range n).map fun k => n - 1 - k := by
  show sliceRange ((n : Int) - 1) (-1) (-1) = _
  exact PySem.W.krv_sliceRange n
def tRevS (te : TE) : TE := fun σ H Q => te σ H fun x H1 => ∃ z, x = .str z ∧ z.length ≤ sizeLine ∧ Q (.str ⟨z.cps.toList.reverse.toArray⟩) H1
theorem pe_revS {e : Expr} {te : TE} {k : Nat} {p1 p2 p3 pos : Pos} (he : PE X e te) : PE X (.Subscript e (.Slice none none (some (.UnaryOp .USub (.Constant (.int 1) k p1) p2)) p3) pos) (tRevS te) := by
  refine ⟨fun pins s σ H Q I h => ?_⟩
  refine Subscript_ (thn (he.run pins s σ H _ I h) fun v s1 ⟨x, H1, I1, r1, z, ex, hz, q⟩ => ?_)
  subst ex
  obtain ⟨t, rfl⟩ := r1
  have hst : PO X (some (.UnaryOp .USub (.Constant (.int 1) k p1) p2)) (tPart (tUn (rU fun i => .int (-i)) (tC (.int 1)))) := po_some (pe_un un_neg pe_int)
  refine wpAny_Slice (thn (po_none.run pins s1 σ H1 (fun o H2 => o = none ∧ H2 = H1) I1 ⟨rfl, rfl⟩) fun vl s2 ⟨l, H2, I2, pl, el, e2⟩ => ?_)
  subst el e2
  refine thn (po_none.run pins s2 σ H2 (fun o H3 => o = none ∧ H3 = H2) I2 ⟨rfl, rfl⟩) fun vu s3 ⟨u, H3, I3, pu, eu, e3⟩ => ?_
  subst eu e3
  refine thn (hst.run pins s3 σ H3 (fun o H4 => o = some (-1) ∧ H4 = H3) I3 ⟨1, rfl, -1, rfl, rfl, rfl⟩) fun vs s4 ⟨o, H4, I4, ps, eo, e4⟩ => ?_
  subst eo e4
  cases pl
  cases pu
  cases ps with
  | int i tk =>
    have I5 : Inv X pins σ H4 { s4 with heap := s4.heap.push { cls := .type "slice", data := .fields #[.none, .none, .int (-1) tk] } } := I4.kept (t' := s4.toks) fun b ob q => Heap.get?_push_of_some _ q
    show wpAny (model X.prog X.w) X.A (subscriptTail e (.Slice none none (some (.UnaryOp .USub (.Constant (.int 1) k p1) p2)) p3) (.str z t) (.ref s4.heap.objs.size)) (EP X pins σ Q) X.xe { s4 with heap := s4.heap.push { cls := .type "slice", data := .fields #[.none, .none, .int (-1) tk] } }
    refine tail_any (ops := [.str z t, .ref s4.heap.objs.size]) (typeIs_str _ _ _) F.slot_str_getitem.lookup ?_ (by with_unfolding_all rfl)
    refine wpAny_getItem_str_slice (l := none) (u := none) (st := some (-1, tk)) ⟨_, Heap.get?_push_size _ rfl, rfl, rfl⟩ rfl ?_
    have ep : ((slicePicked z none none (some (-1, tk))).filterMap (z.cps[·]?)) = z.cps.toList.reverse := by
      show ((Builtin.Str.strSliceIndices none none (-1) z.length).filterMap (z.cps[·]?)) = _
      rw [strRev]
      show (((List.range z.cps.size).map fun k => z.cps.size - 1 - k).filterMap (z.cps[·]?)) = _
      rw [PySem.W.krv_range, List.filterMap_reverse, PySem.W.krv_all]
    show Made.post (if ((-1 : Int) == 1 && _) = true then _ else Made.str ⟨((slicePicked z none none (some (-1, tk))).filterMap (z.cps[·]?)).toArray⟩) _ _
    rw [if_neg (by simp), ep]
    refine ⟨?_, .str _, H4, I5.tok _, ⟨_, rfl⟩, q⟩
    show z.cps.toList.reverse.toArray.size ≤ _
    rw [List.size_toArray, List.length_reverse, Array.length_toList]
    exact hz
end
end L2
namespace DL
open PySem L2
def revTD : D → Option D
  | .tup xs => some (.tup xs.reverse)
  | _ => none
def revLD : D → Option D
  | .lst xs => some (.lst xs.reverse)
  | _ => none
def revSD : D → Option D
  | .str s => some (.str s.reverse)
  | _ => none
section
variable {X : Cx} {Z : Cn} {E : Ent Z.W} {Wx : WX} {e a b c : Expr} {pos p p1 p2 p3 : Pos} {k : Nat} {fe fa fb fc : M Z.W.G D}
theorem de_revT (ha : DR X Z E Wx a fa) : DE X Z E Wx (.Subscript a (.Slice none none (some (.UnaryOp .USub (.Constant (.int 1) k p1) p2)) p3) pos) (e1 revTD fa) := by
  refine PE.imp (pe_revT ha) fun σ H Q ⟨Hf, g, sl, r, q⟩ => ⟨Hf, g, sl, r, (go_bind (Rm := RlR X.K) q).mono fun x H1 ⟨Hf1, g1, c, b1, d1, q1⟩ => ?_⟩
  obtain ⟨d, ed, kk⟩ := go_lift q1
  match c, ed, d1 with
  | .tup xs, ed, d1 =>
    cases ed
    obtain ⟨p, vs, rfl, h1, h2⟩ := d1.tup
    exact ⟨p, vs, rfl, (.inl (b1.rd h1)), fun p hp => kk _ _ _ (b1.self.alloc (.tup vs.reverse) hp) (.tup (.inl upd_same) (DvAll.mono (same_new (b1.hn hp)) _ h2.reverse))⟩
theorem de_revL (ha : DR X Z E Wx a fa) : DE X Z E Wx (.Subscript a (.Slice none none (some (.UnaryOp .USub (.Constant (.int 1) k p1) p2)) p3) pos) (e1 revLD fa) := by
  refine PE.imp (pe_revL ha) fun σ H Q ⟨Hf, g, sl, r, q⟩ => ⟨Hf, g, sl, r, (go_bind (Rm := RlR X.K) q).mono fun x H1 ⟨Hf1, g1, c, b1, d1, q1⟩ => ?_⟩
  obtain ⟨d, ed, kk⟩ := go_lift q1
  match c, ed, d1 with
  | .lst xs, ed, d1 =>
    cases ed
    obtain ⟨p, vs, rfl, h1, h2⟩ := d1.lst b1.fh
    exact ⟨p, vs, rfl, SqL.of h1, fun p hp => kk _ _ _ (b1.self.alloc (.lst vs.reverse) hp) (.lst upd_same (DvAll.mono (same_new (b1.hn hp)) _ h2.reverse))⟩
theorem de_revS (ha : DR X Z E Wx a fa) : DE X Z E Wx (.Subscript a (.Slice none none (some (.UnaryOp .USub (.Constant (.int 1) k p1) p2)) p3) pos) (e1 revSD fa) := by
  refine PE.imp (pe_revS ha) fun σ H Q ⟨Hf, g, sl, r, q⟩ => ⟨Hf, g, sl, r, (go_bind (Rm := RlR X.K) q).mono fun x H1 ⟨Hf1, g1, c, b1, d1, q1⟩ => ?_⟩
  obtain ⟨d, ed, kk⟩ := go_lift q1
  match c, ed, d1 with
  | .str s, ed, d1 =>
    cases ed
    obtain ⟨rfl, ok⟩ := d1.str
    refine ⟨mkS s, rfl, okS_lim ok, ?_⟩
    rw [mkS_cps]
    exact kk _ _ _ b1.self (.str s.reverse ⟨by rw [List.length_reverse]; exact ok.1, fun c hc => ok.2 c (List.mem_reverse.mp hc)⟩)
end
end DL
namespace L2
open PySem PySem.Spec PyProof.Rows
section
variable {prog : Program} {w : World} {A : Around} {E : Value → Shared → Prop} {s : Shared}
/-- a tuple's items, in a row -/
theorem collect_tup {l : Addr} {vs : List Value} {Q : List Value → Shared → Prop} (ht : IsTup s.heap l vs.toArray) (hsz : vs.length ≤ sizeLine)
    (h : ∀ h', (∀ b o, s.heap.get? b = some o → h'.get? b = some o) → s.heap.objs.size ≤ h'.objs.size → Q vs { s with heap := h' }) : wpAny (model prog w) A (collect (.ref l)) Q E s := by
  obtain ⟨o, ho, hc, n, hd⟩ := id ht
  unfold collect
  refine wpAny_bind (wpAny_runValue (codeAny_builtin entry_proto_collect' ?_))
  show wpAny _ _ (do again (.builtin "list.__iadd__" ⟨[← newList [], .ref l], []⟩)) _ _ s
  refine wpAny_bind (wpAny_newList (wpAny_pure ⟨Code.quiet_builtin _ (by decide +kernel), codeAny_builtin entry_list_iadd' ?_⟩))
  show wpAny _ _ (Builtin.List.listExtendWith (.ref s.heap.objs.size) (.ref l) (.ref s.heap.objs.size)) _ _ { s with heap := s.heap.push (seqObj "list" #[] 0) }
  unfold Builtin.List.listExtendWith
  have ho' : (s.heap.push (seqObj "list" #[] 0)).get? l = some o := Heap.get?_push_of_some _ ho
  refine wpAny_bind (wpAny_typeOf (T := "tuple") ⟨o, ho', hc⟩ ?_)
  have ty : (Value.type "tuple" == Value.type "tuple") = true := by rfl
  rw [if_pos (by rw [ty]; simp)]
  refine wpAny_bind (listItems_at ho' hd (wpAny_bind (listItems_at (xs := #[]) (n := 0) (Heap.get?_push_size _ rfl) rfl ?_)))
  rw [if_neg (by simp)]
  refine wpAny_bind (listUpdate_at (xs := #[]) (n := 0) (Heap.get?_push_size _ rfl) rfl (wpAny_pure ?_) (Nat.zero_le _) (by show (#[] ++ vs.toArray).size ≤ sizeLine + 1; simp only [Array.size_append, List.size_toArray, List.length_nil]; omega))
  show wpAny (model prog w) A (do
      let o ← load s.heap.objs.size
      match o.data with
      | .seq xs _ => pure xs.toList
      | _ => unsupported "internal:collect") Q E { s with heap := (s.heap.push (seqObj "list" #[] 0)).update s.heap.objs.size (Obj.mapSeq (· ++ vs.toArray)) }
  refine wpAny_bind (wpAny_load (get?_update_seq (Heap.get?_push_size _ rfl) _) ?_)
  show wpAny _ _ (pure ((#[] : Array Value) ++ vs.toArray).toList) Q E _
  rw [show ((#[] : Array Value) ++ vs.toArray).toList = vs by simp]
  refine wpAny_pure (h _ (fun b u e => ?_) ?_)
  · rw [Heap.get?_update_ne _ _ _ _ (Nat.ne_of_lt (Heap.lt_size e))]
    exact Heap.get?_push_of_some _ e
  · rw [Heap.size_update, Heap.size_push]
    exact Nat.le_succ _
end
section
variable {X : Cx}
/-- sorted(t), t a tuple of ints -/
def rSortedTI (K : PySem.W.Frag) : List V → Hp → VK → Prop := fun vs H Q => ∃ (a : Addr) (ns : List Int), vs = [V.ref a] ∧ SqT K H a (ns.map V.int) ∧
  ∀ (ns' : List Int) (p : Addr), ns'.Perm ns → ns'.Pairwise (· ≤ ·) → H p = none → Q (.ref p) (upd H p (.lst (ns'.map V.int)))
theorem cr_sortedTI : CallR X (.builtin "sorted") (rSortedTI X.K) := by
  intro pins s σ H vs us Q I r h
  obtain ⟨a, ns, rfl, hs, q⟩ := h
  obtain ⟨its, rv, ht, hz⟩ := I.tuple hs
  rw [Vals.ref1 r]
  have hi := rv.ints
  have hlen := rv.length
  refine Calls.call_function_entry kind_sorted plain_sorted entry_sorted (args_sorted1 _) ?_
  unfold Builtin.«sorted»
  refine wpAny_bind (m := checkCount "sorted" 1 1 _) (wpAny_pure (wpAny_bind (collect_tup ht (by rw [← hlen]; exact hz) fun h' k hsz => ?_)))
  have I1 : Inv X pins σ H { s with heap := h' } := I.kept (t' := s.toks) k
  refine wpAny_bind (wpAny_newList ?_ (by rw [← hlen]; exact hz))
  have hL : (h'.push (seqObj "list" its.toArray 0)).get? h'.objs.size = some (seqObj "list" its.toArray 0) := Heap.get?_push_size _ rfl
  refine wpAny_bind (wpAny_holding (wpAny_call_entry slot_list_sort ⟨_, hL, rfl⟩ entry_list_sort
    (list_sort_treeAny (s := { s with heap := h'.push (seqObj "list" its.toArray 0) }) hL hi (by rw [← hlen]; exact hz) fun out ns' a1 a2 a3 => ⟨_, rfl, ?_⟩) (args_list_sort _)))
  obtain ⟨e', he'⟩ := sortedHeap_at (vs := its) (out := out) hL
  have lenY : (ns'.map V.int).length ≤ sizeLine := by
    rw [List.length_map, a2.length_eq]
    rw [List.length_map] at hz
    exact hz
  refine wpAny_pure ⟨_, rfl, .ref h'.objs.size, upd H h'.objs.size (.lst (ns'.map V.int)), I1.laid (t' := s.toks) (fun b u e => ?_) (Nat.le_refl _)
    (show ObjOk X.prog X.w _ _ _ (.lst (ns'.map V.int)) from ⟨lenY, out.toList, e', vals_of_ints a1, by rw [Array.toArray_toList]; exact he'⟩), rfl, q ns' _ a2 a3 (I1.hok.fresh (Nat.le_refl _))⟩
  have hb : b < h'.objs.size := Heap.lt_size e
  rw [sortedHeap_old (Nat.ne_of_lt hb) (by rw [size_push']; exact Nat.lt_succ_of_lt hb)]
  exact Heap.get?_push_of_some _ e
/-- sorted(xs), texts, any number of them -/
def rSortedSA (K : PySem.W.Frag) : List V → Hp → VK → Prop := fun vs H Q => ∃ (a : Addr) (xs : List Str), vs = [V.ref a] ∧ SqL K H a (xs.map V.str) ∧
  ∀ (ys : List Str) (p : Addr), ys.Perm xs → sortedS ys = true → H p = none → Q (.ref p) (upd H p (.lst (ys.map V.str)))
theorem cr_sortedSA : CallR X (.builtin "sorted") (rSortedSA X.K) := by
  intro pins s σ H vs us Q I r h
  obtain ⟨a, xs, rfl, hs, q⟩ := h
  obtain ⟨its, rv, hl, hz⟩ := I.list hs
  rw [Vals.ref1 r]
  have hlen := rv.length
  refine sorted_strsAny hl.isList rv.strs (by rw [← hlen]; exact hz) fun out ys h1 h2 h3 => ?_
  obtain ⟨ep, he'⟩ := sortedAll_at s.heap its out
  have lenY : (ys.map V.str).length ≤ sizeLine := by
    rw [List.length_map, h2.length_eq]
    rw [List.length_map] at hz
    exact hz
  exact ⟨.ref _, upd H (s.heap.objs.size + 1) (.lst (ys.map V.str)), I.laid (t' := s.toks) (fun _ _ => sortedAll_old) (Nat.le_succ _) ⟨lenY, out.toList, ep, vals_of_strs h1, he'⟩, rfl, q ys _ h2 h3 (I.hok.fresh (Nat.le_succ _))⟩
end
end L2
namespace DL
open PySem L2
/-! ### in order, with what stands twice -/
section
variable {α : Type}
def insG (le : α → α → Bool) (x : α) : List α → List α
  | [] => [x]
  | y :: r => if le x y = true then x :: y :: r else y :: insG le x r
def sortG (le : α → α → Bool) (l : List α) : List α := l.foldr (insG le) []
theorem insG_perm (le : α → α → Bool) (x : α) : ∀ l : List α, (insG le x l).Perm (x :: l)
  | [] => .refl _
  | y :: r => by
    unfold insG
    split
    · exact .refl _
    · exact ((insG_perm le x r).cons y).trans (.swap x y r)
theorem sortG_perm (le : α → α → Bool) : ∀ l : List α, (sortG le l).Perm l
  | [] => .refl _
  | x :: l => (insG_perm le x (sortG le l)).trans ((sortG_perm le l).cons x)
theorem insG_ord {le : α → α → Bool} (tot : ∀ a b, le a b = true ∨ le b a = true) (tr : ∀ a b c, le a b = true → le b c = true → le a c = true) (x : α) : ∀ {l : List α}, l.Pairwise (fun a b => le a b = true) → (insG le x l).Pairwise (fun a b => le a b = true)
  | [], _ => List.pairwise_singleton _ _
  | y :: r, h => by
    obtain ⟨h1, h2⟩ := List.pairwise_cons.mp h
    unfold insG
    split
    · rename_i hl
      refine List.pairwise_cons.mpr ⟨fun k hk => ?_, h⟩
      rcases List.mem_cons.mp hk with rfl | hk
      · exact hl
      · exact tr _ _ _ hl (h1 k hk)
    · rename_i hl
      refine List.pairwise_cons.mpr ⟨fun k hk => ?_, insG_ord tot tr x h2⟩
      rcases List.mem_cons.mp ((insG_perm le x r).mem_iff.mp hk) with rfl | hk
      · rcases tot y k with z | z
        · exact z
        · exact absurd z hl
      · exact h1 k hk
theorem sortG_ord {le : α → α → Bool} (tot : ∀ a b, le a b = true ∨ le b a = true) (tr : ∀ a b c, le a b = true → le b c = true → le a c = true) : ∀ l : List α, (sortG le l).Pairwise (fun a b => le a b = true)
  | [] => .nil
  | x :: l => insG_ord tot tr x (sortG_ord tot tr l)
theorem srt_uniq {le : α → α → Bool} (anti : ∀ a b, le a b = true → le b a = true → a = b) : ∀ {a b : List α}, a.Perm b → a.Pairwise (fun a b => le a b = true) → b.Pairwise (fun a b => le a b = true) → a = b
  | [], b, p, _, _ => p.nil_eq
  | x :: a, b, p, ha, hb => by
    match b, p, hb with
    | [], p, _ => exact absurd p.length_eq (by simp)
    | y :: b, p, hb =>
      obtain ⟨a1, a2⟩ := List.pairwise_cons.mp ha
      obtain ⟨b1, b2⟩ := List.pairwise_cons.mp hb
      have e : x = y := by
        rcases List.mem_cons.mp (p.mem_iff.mp (List.mem_cons_self (a := x))) with z | z
        · exact z
        · rcases List.mem_cons.mp (p.mem_iff.mpr (List.mem_cons_self (a := y))) with z2 | z2
          · exact z2.symm
          · exact anti _ _ (a1 y z2) (b1 x z)
      subst e
      rw [srt_uniq anti (List.Perm.cons_inv p) a2 b2]
end
def leI (a b : Int) : Bool := decide (a ≤ b)
def leS (a b : List Nat) : Bool := !decide (b < a)
theorem leI_tot (a b : Int) : leI a b = true ∨ leI b a = true := by simp [leI]; omega
theorem leI_tr (a b c : Int) (h : leI a b = true) (h2 : leI b c = true) : leI a c = true := by simp [leI] at *; omega
theorem leI_anti (a b : Int) (h : leI a b = true) (h2 : leI b a = true) : a = b := by simp [leI] at *; omega
theorem leS_iff (a b : List Nat) : leS a b = true ↔ ¬ b < a := by unfold leS; simp
theorem leS_tot (a b : List Nat) : leS a b = true ∨ leS b a = true := by
  rw [leS_iff, leS_iff]
  rcases lt_tri a b with h | h | h
  · exact .inl fun z => lt_irr a (lt_tr h z)
  · subst h; exact .inl (lt_irr a)
  · exact .inr fun z => lt_irr a (lt_tr z h)
theorem leS_tr (a b c : List Nat) (h : leS a b = true) (h2 : leS b c = true) : leS a c = true := by
  rw [leS_iff] at *
  intro z
  rcases lt_tri a b with e | e | e
  · exact h2 (lt_tr z e)
  · subst e; exact h2 z
  · exact h e
theorem leS_anti (a b : List Nat) (h : leS a b = true) (h2 : leS b a = true) : a = b := by
  rw [leS_iff] at *
  rcases lt_tri a b with e | e | e
  · exact absurd e h2
  · exact e
  · exact absurd e h
def asIs : List D → Option (List Int)
  | [] => some []
  | .int s :: ds => (asIs ds).map (s :: ·)
  | _ => none
theorem asIs_some : ∀ {ds : List D} {ss : List Int}, asIs ds = some ss → ds = ss.map D.int
  | [], _, h => by cases h; rfl
  | .int b :: ds, bs, h => by
    obtain ⟨l, e1, rfl⟩ := Option.map_eq_some_iff.mp h
    rw [asIs_some e1]; rfl
def sortedD : D → Option D
  | .tup xs => (asIs xs).map fun ns => .lst ((sortG leI ns).map D.int)
  | .lst xs => match asIs xs with
    | some ns => some (.lst ((sortG leI ns).map D.int))
    | none => (asSs xs).map fun ss => .lst ((sortG leS ss).map D.str)
  | _ => none
theorem sortI_uniq {a b : List Int} (p : a.Perm b) (h : a.Pairwise (· ≤ ·)) : a = sortG leI b :=
  srt_uniq leI_anti (p.trans (sortG_perm leI b).symm) (h.imp fun {x y} z => by simpa [leI] using z) (sortG_ord leI_tot leI_tr b)
theorem rising_le : ∀ (p : Str) (l : List Str), PyProof.Rows.risingS p l = true → (p :: l).Pairwise (fun a b => leS a.cps.toList b.cps.toList = true)
  | p, [], _ => List.pairwise_singleton _ _
  | p, x :: r, h => by
    have h' : (!Spec.ltCps x.cps.toList p.cps.toList && PyProof.Rows.risingS x r) = true := h
    rw [Bool.and_eq_true, Bool.not_eq_true'] at h'
    have ih := rising_le x r h'.2
    have e : leS p.cps.toList x.cps.toList = true := by
      rw [leS_iff]
      intro z
      rw [(ltC_iff _ _).mpr z] at h'
      cases h'.1
    refine List.pairwise_cons.mpr ⟨fun k hk => ?_, ih⟩
    rcases List.mem_cons.mp hk with rfl | hk
    · exact e
    · exact leS_tr _ _ _ e ((List.pairwise_cons.mp ih).1 k hk)
theorem sortS_uniq {ys : List Str} {ss : List (List Nat)} (p : ys.Perm (ss.map mkS)) (h : PyProof.Rows.sortedS ys = true) : ys = (sortG leS ss).map mkS := by
  have ho : ys.Pairwise (fun a b => leS a.cps.toList b.cps.toList = true) := by
    cases ys with
    | nil => exact .nil
    | cons y r => exact rising_le y r h
  have e : ys.map (fun y => y.cps.toList) = sortG leS ss := by
    refine srt_uniq leS_anti ?_ (List.pairwise_map.mpr ho) (sortG_ord leS_tot leS_tr ss)
    have q := p.map (fun y : Str => y.cps.toList)
    rw [List.map_map] at q
    have : ((fun y : Str => y.cps.toList) ∘ mkS) = id := by funext s; exact mkS_cps s
    rw [this, List.map_id] at q
    exact q.trans (sortG_perm leS ss).symm
  rw [← e, List.map_map]
  have : (mkS ∘ fun y : Str => y.cps.toList) = id := by funext y; exact mkS_surj y
  rw [this, List.map_id]
section
variable {X : Cx}
theorem CallR.or {f : Value} {r r' : List V → Hp → VK → Prop} (h : CallR X f r) (h' : CallR X f r') : CallR X f (fun vs H Q => r vs H Q ∨ r' vs H Q) := fun pins s σ H vs us Q I rv q => q.elim (h pins s σ H vs us Q I rv) (h' pins s σ H vs us Q I rv)
theorem c_sorted : C1 X (.builtin "sorted") sortedD := by
  refine ⟨_, CallR.or (CallR.or cr_sortedTI cr_sortedI) cr_sortedSA, fun W H Hf g x a d Q B ha ed k => ?_⟩
  match a, ed, ha with
  | .tup xs, ed, ha =>
    obtain ⟨ns, e1, rfl⟩ := Option.map_eq_some_iff.mp ed
    obtain rfl := asIs_some e1
    obtain ⟨p, vs, rfl, h1, h2⟩ := ha.tup
    obtain rfl := h2.ints
    refine .inl (.inl ⟨p, ns, rfl, (.inl (B.rd h1)), fun ns' q pm po hq => ?_⟩)
    rw [sortI_uniq pm po]
    exact k _ _ _ (B.alloc (.lst ((sortG leI ns).map V.int)) hq) (.lst upd_same (DvAll.ofInts _))
  | .lst xs, ed, ha =>
    obtain ⟨p, vs, rfl, h1, h2⟩ := ha.lst B.fh
    simp only [sortedD] at ed
    split at ed
    · rename_i ns e1
      cases ed
      obtain rfl := asIs_some e1
      obtain rfl := h2.ints
      refine .inl (.inr ⟨p, ns, rfl, SqL.of h1, fun ns' q pm po hq => ?_⟩)
      rw [sortI_uniq pm po]
      exact k _ _ _ (B.alloc (.lst ((sortG leI ns).map V.int)) hq) (.lst upd_same (DvAll.ofInts _))
    · obtain ⟨ss, e1, rfl⟩ := Option.map_eq_some_iff.mp ed
      obtain rfl := asSs_some e1
      have hvs := h2.strs
      subst hvs
      have oks := h2.oks
      refine .inr ⟨p, ss.map mkS, rfl, SqL.of h1, fun ys q pm po hq => ?_⟩
      rw [sortS_uniq pm po]
      exact k _ _ _ (B.alloc (.lst (((sortG leS ss).map mkS).map V.str)) hq) (.lst upd_same (DvAll.ofStrs _ fun s hs => oks s ((sortG_perm leS ss).mem_iff.mp hs)))
end
end DL
namespace DL
open PySem L2
def minI : Int → List Int → Int
  | m, [] => m
  | m, x :: r => minI (if x < m then x else m) r
def maxI : Int → List Int → Int
  | m, [] => m
  | m, x :: r => maxI (if m < x then x else m) r
theorem minI_spec : ∀ (r : List Int) (m : Int), (minI m r = m ∨ minI m r ∈ r) ∧ minI m r ≤ m ∧ ∀ y ∈ r, minI m r ≤ y
  | [], m => ⟨.inl rfl, Int.le_refl _, by simp⟩
  | x :: r, m => by
    obtain ⟨h1, h2, h3⟩ := minI_spec r (if x < m then x else m)
    unfold minI
    by_cases hx : x < m
    · rw [if_pos hx] at h1 h2 h3 ⊢
      refine ⟨.inr ?_, by omega, fun y hy => ?_⟩
      · rcases h1 with h | h
        · rw [h]; simp
        · simp [h]
      · rcases List.mem_cons.mp hy with rfl | hy
        · exact h2
        · exact h3 y hy
    · rw [if_neg hx] at h1 h2 h3 ⊢
      refine ⟨?_, h2, fun y hy => ?_⟩
      · rcases h1 with h | h
        · exact .inl h
        · exact .inr (by simp [h])
      · rcases List.mem_cons.mp hy with rfl | hy
        · omega
        · exact h3 y hy
theorem maxI_spec : ∀ (r : List Int) (m : Int), (maxI m r = m ∨ maxI m r ∈ r) ∧ m ≤ maxI m r ∧ ∀ y ∈ r, y ≤ maxI m r
  | [], m => ⟨.inl rfl, Int.le_refl _, by simp⟩
  | x :: r, m => by
    obtain ⟨h1, h2, h3⟩ := maxI_spec r (if m < x then x else m)
    unfold maxI
    by_cases hx : m < x
    · rw [if_pos hx] at h1 h2 h3 ⊢
      refine ⟨.inr ?_, by omega, fun y hy => ?_⟩
      · rcases h1 with h | h
        · rw [h]; simp
        · simp [h]
      · rcases List.mem_cons.mp hy with rfl | hy
        · exact h2
        · exact h3 y hy
    · rw [if_neg hx] at h1 h2 h3 ⊢
      refine ⟨?_, h2, fun y hy => ?_⟩
      · rcases h1 with h | h
        · exact .inl h
        · exact .inr (by simp [h])
      · rcases List.mem_cons.mp hy with rfl | hy
        · omega
        · exact h3 y hy
def minD : D → Option D
  | .lst xs => (asIs xs).bind fun ns => match ns with
    | [] => none
    | m :: r => some (.int (minI m r))
  | _ => none
def maxD : D → Option D
  | .lst xs => (asIs xs).bind fun ns => match ns with
    | [] => none
    | m :: r => some (.int (maxI m r))
  | _ => none
section
variable {X : Cx}
theorem c_min (hc : X.calm = true) : C1 X (.builtin "min") minD := by
  refine ⟨_, cr_min hc, fun W H Hf g x a d Q B ha ed k => ?_⟩
  match a, ed, ha with
  | .lst xs, ed, ha =>
    obtain ⟨p, vs, rfl, h1, h2⟩ := ha.lst B.fh
    obtain ⟨ns, e1, e2⟩ := Option.bind_eq_some_iff.mp ed
    obtain rfl := asIs_some e1
    obtain rfl := h2.ints
    match ns, e2, h1 with
    | m :: r, e2, h1 =>
      cases e2
      refine ⟨p, m :: r, rfl, SqL.of h1, by simp, fun z hz hm => ?_⟩
      obtain ⟨q1, q2, q3⟩ := minI_spec r m
      have e : z = minI m r := by
        have a1 : minI m r ∈ m :: r := by
          rcases q1 with q | q
          · rw [q]; simp
          · simp [q]
        have a2 := hm _ a1
        rcases List.mem_cons.mp hz with rfl | hz
        · omega
        · have := q3 z hz; omega
      rw [e]
      exact k _ _ _ B (.int _)
theorem c_max (hc : X.calm = true) : C1 X (.builtin "max") maxD := by
  refine ⟨_, cr_max hc, fun W H Hf g x a d Q B ha ed k => ?_⟩
  match a, ed, ha with
  | .lst xs, ed, ha =>
    obtain ⟨p, vs, rfl, h1, h2⟩ := ha.lst B.fh
    obtain ⟨ns, e1, e2⟩ := Option.bind_eq_some_iff.mp ed
    obtain rfl := asIs_some e1
    obtain rfl := h2.ints
    match ns, e2, h1 with
    | m :: r, e2, h1 =>
      cases e2
      refine ⟨p, m :: r, rfl, SqL.of h1, by simp, fun z hz hm => ?_⟩
      obtain ⟨q1, q2, q3⟩ := maxI_spec r m
      have e : z = maxI m r := by
        have a1 : maxI m r ∈ m :: r := by
          rcases q1 with q | q
          · rw [q]; simp
          · simp [q]
        have a2 := hm _ a1
        rcases List.mem_cons.mp hz with rfl | hz
        · omega
        · have := q3 z hz; omega
      rw [e]
      exact k _ _ _ B (.int _)
end
end DL
namespace DL
open PySem L2
/-! ### min, max of pairs -/
section
variable {α : Type} [DecidableEq α] [PySem.W.DatumOrd α] {X : Cx}
theorem toD_inj {a b : α} (h : PySem.W.Datum.toD a = PySem.W.Datum.toD b) : a = b := by
  have h1 := PySem.W.Datum.eqv a b
  rw [← h, PySem.W.Datum.eqv a a] at h1
  simpa using h1
theorem rd_all {h : Heap} : ∀ {us : List Value} {xs : List PyData} {as : List Addr} {i : Nat} {u : Value}, ReadsAll h us xs as → us[i]? = some u → ∃ d bs, xs[i]? = some d ∧ Reads h u d bs
  | _, _, _, i, u, .nil, e => by simp at e
  | _, _, _, 0, u, .cons r rs, e => by simp at e; subst e; exact ⟨_, _, rfl, r⟩
  | _, _, _, i + 1, u, .cons r rs, e => by
    obtain ⟨d, bs, e1, e2⟩ := rd_all rs (by simpa using e)
    exact ⟨d, bs, by simpa using e1, e2⟩
theorem vals_get : ∀ {vs : List V} {us : List Value} {i : Nat} {u : Value}, Vals vs us → us[i]? = some u → ∃ v, vs[i]? = some v ∧ RelV v u
  | [], us, i, u, r, e => by cases r; simp at e
  | v :: vs, us, i, u, r, e => by
    cases r with
    | cons r1 r2 =>
      cases i with
      | zero => simp at e; subst e; exact ⟨v, rfl, r1⟩
      | succ i => 
        obtain ⟨w, e1, e2⟩ := vals_get r2 (by simpa using e)
        exact ⟨w, by simpa using e1, e2⟩
theorem cr_minP (hc : X.calm = true) (hu : X.A.units + 1 + PySem.W.Datum.depth α < cLine) : CallR X (.builtin "min") (fun vs H Q => ∃ (a : Addr) (xs : List V) (p : α) (ps : List α), vs = [.ref a] ∧ SqL X.K H a xs ∧ DpAll X.K H xs ((p :: ps).map PySem.W.Datum.toD) ∧ ∀ (i : Nat) (v : V), xs[i]? = some v → (p :: ps)[i]? = some (PySem.W.minOf p ps) → Q v H) := by
  intro pins s σ H vs us Q I r h
  obtain ⟨a, xs, p, ps, rfl, hs, hd, q⟩ := h
  obtain ⟨its, rv, hl, _⟩ := I.list hs
  rw [Vals.ref1 r]
  obtain ⟨as, hra⟩ := Dp.readsAll I _ xs its hd rv
  refine PySem.W.min_list_datum (I.ok.hd hc) hl.isList ⟨as, hra⟩ hu fun i v h' tk hi hh hk => ?_
  obtain ⟨x, e1, e2⟩ := vals_get rv (by simpa using hi)
  obtain ⟨d, bs, e3, e4⟩ := rd_all hra (i := i) (u := v) (by simpa using hi)
  rw [List.getElem?_map] at e3
  obtain ⟨pi, e5, rfl⟩ := Option.map_eq_some_iff.mp e3
  obtain ⟨cs, e6⟩ := hh
  obtain ⟨cs2, e4'⟩ := PySem.W.Holds.keeps hk (⟨bs, e4⟩ : PySem.W.Holds s.heap v pi)
  have e7 := (e4'.unique _ _ e6).1
  have e8 : pi = _ := toD_inj e7
  subst e8
  exact ⟨x, H, I.kept hk, e2, q i x e1 e5⟩
theorem cr_maxP (hc : X.calm = true) (hu : X.A.units + 1 + PySem.W.Datum.depth α < cLine) : CallR X (.builtin "max") (fun vs H Q => ∃ (a : Addr) (xs : List V) (p : α) (ps : List α), vs = [.ref a] ∧ SqL X.K H a xs ∧ DpAll X.K H xs ((p :: ps).map PySem.W.Datum.toD) ∧ ∀ (i : Nat) (v : V), xs[i]? = some v → (p :: ps)[i]? = some (PySem.W.maxOf p ps) → Q v H) := by
  intro pins s σ H vs us Q I r h
  obtain ⟨a, xs, p, ps, rfl, hs, hd, q⟩ := h
  obtain ⟨its, rv, hl, _⟩ := I.list hs
  rw [Vals.ref1 r]
  obtain ⟨as, hra⟩ := Dp.readsAll I _ xs its hd rv
  refine PySem.W.max_list_datum (I.ok.hd hc) hl.isList ⟨as, hra⟩ hu fun i v h' tk hi hh hk => ?_
  obtain ⟨x, e1, e2⟩ := vals_get rv (by simpa using hi)
  obtain ⟨d, bs, e3, e4⟩ := rd_all hra (i := i) (u := v) (by simpa using hi)
  rw [List.getElem?_map] at e3
  obtain ⟨pi, e5, rfl⟩ := Option.map_eq_some_iff.mp e3
  obtain ⟨cs, e6⟩ := hh
  obtain ⟨cs2, e4'⟩ := PySem.W.Holds.keeps hk (⟨bs, e4⟩ : PySem.W.Holds s.heap v pi)
  have e7 := (e4'.unique _ _ e6).1
  have e8 : pi = _ := toD_inj e7
  subst e8
  exact ⟨x, H, I.kept hk, e2, q i x e1 e5⟩
end
def asPS : List D → Option (List (Int × List Nat))
  | [] => some []
  | .tup [.int i, .str s] :: ds => (asPS ds).map ((i, s) :: ·)
  | _ => none
def asPI : List D → Option (List (Int × Int))
  | [] => some []
  | .tup [.int i, .int s] :: ds => (asPI ds).map ((i, s) :: ·)
  | _ => none
abbrev pSD (p : Int × List Nat) : D := .tup [.int p.1, .str p.2]
abbrev pID (p : Int × Int) : D := .tup [.int p.1, .int p.2]
theorem asPS_some : ∀ {ds : List D} {ps : List (Int × List Nat)}, asPS ds = some ps → ds = ps.map pSD
  | [], _, h => by cases h; rfl
  | .tup [.int i, .str s] :: ds, ps, h => by
    obtain ⟨l, e1, rfl⟩ := Option.map_eq_some_iff.mp h
    rw [asPS_some e1]; rfl
theorem asPI_some : ∀ {ds : List D} {ps : List (Int × Int)}, asPI ds = some ps → ds = ps.map pID
  | [], _, h => by cases h; rfl
  | .tup [.int i, .int s] :: ds, ps, h => by
    obtain ⟨l, e1, rfl⟩ := Option.map_eq_some_iff.mp h
    rw [asPI_some e1]; rfl
theorem asPS_map (ps : List (Int × List Nat)) : asPS (ps.map pSD) = some ps := by
  induction ps with
  | nil => rfl
  | cons p ps ih => simp [asPS, ih]
theorem asPI_map (ps : List (Int × Int)) : asPI (ps.map pID) = some ps := by
  induction ps with
  | nil => rfl
  | cons p ps ih => simp [asPI, ih]
def ltPS (p q : Int × List Nat) : Bool := if p.1 = q.1 then decide (p.2 < q.2) else decide (p.1 < q.1)
def ltPI (p q : Int × Int) : Bool := if p.1 = q.1 then decide (p.2 < q.2) else decide (p.1 < q.1)
def minPS (p : Int × List Nat) (ps : List (Int × List Nat)) : Int × List Nat := ps.foldl (fun a y => if ltPS y a = true then y else a) p
def maxPI (p : Int × Int) (ps : List (Int × Int)) : Int × Int := ps.foldl (fun a y => if ltPI a y = true then y else a) p
def minPD : D → Option D
  | .lst xs => (asPS xs).bind fun ps => match ps with
    | [] => none
    | p :: ps => some (pSD (minPS p ps))
  | _ => none
def maxPD : D → Option D
  | .lst xs => (asPI xs).bind fun ps => match ps with
    | [] => none
    | p :: ps => some (pID (maxPI p ps))
  | _ => none
def pStr (p : Int × List Nat) : Int × Str := (p.1, mkS p.2)
theorem pStr_lt (p q : Int × List Nat) : PySem.W.DatumOrd.lt (pStr p) (pStr q) = ltPS p q := by
  show (if p.1 = q.1 then decide ((mkS p.2).cps.toList < (mkS q.2).cps.toList) else decide (p.1 < q.1)) = _
  rw [mkS_cps, mkS_cps]; rfl
theorem minOf_map (p : Int × List Nat) (ps : List (Int × List Nat)) : PySem.W.minOf (pStr p) (ps.map pStr) = pStr (minPS p ps) := by
  unfold PySem.W.minOf minPS
  induction ps generalizing p with
  | nil => rfl
  | cons y ys ih =>
    rw [List.map_cons, List.foldl_cons, List.foldl_cons, ← ih]
    congr 1
    rw [pStr_lt]
    split <;> rfl
theorem toPys_pS (ps : List (Int × List Nat)) : toPys (ps.map pSD) = (ps.map pStr).map PySem.W.Datum.toD := by
  induction ps with
  | nil => rfl
  | cons p ps ih =>
    show toPy (pSD p) :: toPys (ps.map pSD) = _
    rw [ih]; rfl
theorem toPys_pI (ps : List (Int × Int)) : toPys (ps.map pID) = ps.map PySem.W.Datum.toD := by
  induction ps with
  | nil => rfl
  | cons p ps ih =>
    show toPy (pID p) :: toPys (ps.map pID) = _
    rw [ih]; rfl
theorem flats_pS (ps : List (Int × List Nat)) : flats 8 (ps.map pSD) = true := by
  induction ps with
  | nil => rfl
  | cons p ps ih =>
    show (flat 8 (pSD p) && flats 8 (ps.map pSD)) = true
    rw [ih]; rfl
theorem flats_pI (ps : List (Int × Int)) : flats 8 (ps.map pID) = true := by
  induction ps with
  | nil => rfl
  | cons p ps ih =>
    show (flat 8 (pID p) && flats 8 (ps.map pID)) = true
    rw [ih]; rfl
theorem DpAll.step {K : PySem.W.Frag} {H H' : Hp} (e : Same H H') {ds : List D} {vs : List V} (h : DvAll K H vs ds) : DvAll K H' vs ds := DvAll.mono e ds h
section
variable {X : Cx}
theorem c_minP (hc : X.calm = true) (hu : X.A.units + 64 < cLine) : C1 X (.builtin "min") minPD := by
  refine ⟨_, cr_minP (α := Int × Str) hc (by show X.A.units + 1 + 1 < cLine; omega), fun W H Hf g x a d Q B ha ed k => ?_⟩
  match a, ed, ha with
  | .lst xs, ed, ha =>
    obtain ⟨p, vs, rfl, h1, h2⟩ := ha.lst B.fh
    obtain ⟨ps, e1, e2⟩ := Option.bind_eq_some_iff.mp ed
    obtain rfl := asPS_some e1
    match ps, e2, h1, h2 with
    | q :: ps, e2, h1, h2 =>
      cases e2
      have dp := (dps_of 8 _ (flats_pS (q :: ps)) (DpAll.step B.fh h2)).1
      rw [toPys_pS] at dp
      refine ⟨p, vs, pStr q, ps.map pStr, rfl, SqL.of h1, dp, fun i v hv hi => ?_⟩
      rw [minOf_map] at hi
      obtain ⟨d, e3, e4⟩ := h2.get hv
      rw [List.getElem?_map] at e3
      obtain ⟨r, e5, rfl⟩ := Option.map_eq_some_iff.mp e3
      have e6 : ((q :: ps).map pStr)[i]? = some (pStr (minPS q ps)) := hi
      rw [List.getElem?_map, e5] at e6
      have e7 : pStr r = pStr (minPS q ps) := Option.some.inj e6
      have e8 : r = minPS q ps := Prod.ext (congrArg (fun z : Int × Str => z.1) e7) (mkS_inj (congrArg (fun z : Int × Str => z.2) e7))
      subst e8
      exact k _ _ _ B e4
theorem c_maxP (hc : X.calm = true) (hu : X.A.units + 64 < cLine) : C1 X (.builtin "max") maxPD := by
  refine ⟨_, cr_maxP (α := Int × Int) hc (by show X.A.units + 1 + 1 < cLine; omega), fun W H Hf g x a d Q B ha ed k => ?_⟩
  match a, ed, ha with
  | .lst xs, ed, ha =>
    obtain ⟨p, vs, rfl, h1, h2⟩ := ha.lst B.fh
    obtain ⟨ps, e1, e2⟩ := Option.bind_eq_some_iff.mp ed
    obtain rfl := asPI_some e1
    match ps, e2, h1, h2 with
    | q :: ps, e2, h1, h2 =>
      cases e2
      have dp := (dps_of 8 _ (flats_pI (q :: ps)) (DpAll.step B.fh h2)).1
      rw [toPys_pI] at dp
      refine ⟨p, vs, q, ps, rfl, SqL.of h1, dp, fun i v hv hi => ?_⟩
      obtain ⟨d, e3, e4⟩ := h2.get hv
      rw [List.getElem?_map] at e3
      obtain ⟨r, e5, rfl⟩ := Option.map_eq_some_iff.mp e3
      rw [e5] at hi
      have e8 : r = maxPI q ps := Option.some.inj hi
      subst e8
      exact k _ _ _ B e4
/-- min(a, b), max(a, b) of whole numbers -/
theorem c_max2 (hc : X.calm = true) : CallR X (.builtin "max") (fun xs H Q => ∃ i j, xs = [.int i, .int j] ∧ Q (.int (if j > i then j else i)) H) := call_max2 hc
end
end DL
/-! ### a dict whose keys are tuples -/
namespace DL
open PySem L2
section
variable {X : Cx} {k v : Expr} {tk tv : TE} {pos : Pos}
def tDispT (tk tv : TE) : TE := fun σ H Q => ∀ p, H p = none → tk σ (upd H p (.dT [])) fun x H1 => tv σ H1 fun y H2 => H2 p = some (.dT []) ∧ ∃ b ks, x = .ref b ∧ H2 b = some (.tup ((ks : List Key).map kV)) ∧ Q (.ref p) (upd H2 p (.dT [(ks, y)]))
theorem pe_dispT (hu : X.A.units + 1 < cLine) (hk : PE X k tk) (hv : PE X v tv) : PE X (.Dict [some k] [v] pos) (tDispT tk tv) := by
  refine ⟨fun pins s σ H Q I q => ?_⟩
  have hn := I.hok.fresh (Nat.le_refl s.heap.objs.size)
  have I1 := I.laid (a := s.heap.objs.size) (o := .dT []) (h' := s.heap.push { cls := .type "dict", data := .dict #[] }) (t' := s.toks) (fun _ _ q => Heap.get?_push_of_some _ q) (Nat.le_refl _) (dt_empty s.heap I.big)
  have hrun : wpAny (model X.prog X.w) X.A (evalPairs (pairTrees [some k] [v] X.env pos)) (fun vs s' => ∃ u r, vs = [(u, r)] ∧ ∃ H2, Inv X pins σ H2 s' ∧ H2 s.heap.objs.size = some (.dT []) ∧ ∃ b ks y, RelV (.ref b) u ∧ RelV y r ∧ H2 b = some (.tup ((ks : List Key).map kV)) ∧ Q (.ref s.heap.objs.size) (upd H2 s.heap.objs.size (.dT [(ks, y)]))) X.xe { s with heap := s.heap.push { cls := .type "dict", data := .dict #[] } } := by
    refine pairTrees_cons_walk (thn (hk.run pins _ σ _ _ I1 (q _ hn)) fun u s1 ⟨x, H1, I1, rx, q1⟩ => thn (hv.run pins s1 σ H1 _ I1 q1) fun w2 s2 ⟨y, H2, I2, ry, q2⟩ => pairTrees_nil_walk ?_)
    obtain ⟨e, b, ks, rfl, eb, q3⟩ := q2
    exact ⟨u, w2, rfl, H2, I2, e, b, ks, y, rx, ry, eb, q3⟩
  rw [arm_eval_Dict, zip_pairTrees [some k] [v] X.env pos rfl rfl, dictDisplay_pairs _ (by intro h; cases h) (by rw [pairTrees_length [some k] [v] X.env pos rfl rfl]; simp)]
  refine wpAny_bind (wpAny_standAt (wpAny_bind (wpAny_subDictH (knd := tupleKind (mixKind X.prog X.w)) (Q := fun d s' => wpAny (model X.prog X.w) X.A (pure (Value.ref d)) (EP X pins σ Q) X.xe s') (show X.A.units < cLine by omega) (by rw [pairTrees_length [some k] [v] X.env pos rfl rfl]; simp) (thn hrun fun ws s2 h2 => ?_))))
  obtain ⟨u, r, rfl, H2, I2, e, b, ks, y, rx, ry, eb, q2⟩ := h2
  cases (show u = Value.ref b from rx)
  obtain ⟨z, hd, xs, rel, dd⟩ := dt_of I2.hok e
  cases rel
  refine ⟨[(ks, b, r)], ⟨rfl, rfl, key_of I2.hok eb, trivial⟩, dd, fun h' tk dd' hs => wpAny_pure ⟨.ref s.heap.objs.size, _, ?_, rfl, q2⟩⟩
  obtain ⟨o, es, ep, ho, h2, h3, h4, _, h5⟩ := dd'
  refine d_write I2 (by rw [e]; exact True.intro) hs ⟨o, ho⟩ ⟨by rw [sizeLine_eq]; simp, hd, _, .cons ⟨rfl, ?_, ry⟩ .nil, o, es, ep, ho, h2, h3, h4, h5⟩
  rw [upd_ne (ne_of eb e (fun z => nomatch z))]
  exact eb
end
/-! ### the rules -/
section
variable {G : Type}
def xTnew (fk fv : M G D) : M G Slot := M.bind fk fun k => M.bind fv fun v => M.lift ((keyT k).map fun ks => .oT [(ks, v)])
def sOwnT (i : Nat) (k : SM G) : SM G := fun sl g => match sl[i]? with
  | some (some (.oT _)) => k sl g
  | _ => none
def sMutT (i : Nat) (h : List (List DKey × D) → Option (List (List DKey × D))) : SM G := fun sl g => match sl[i]? with
  | some (some (.oT xs)) => match h xs with
    | some ys => some (.nx, sl.set i (some (.oT ys)), g)
    | none => none
  | _ => none
def sTPut (i : Nat) (fk fv : M G D) : SM G := sOwnT i <| sDo fv fun v => sDo fk fun k => sMutT i fun kvs => (keyT k).bind fun ks => if kvs.length < LIM then some (dPut kvs ks v) else none
end
section
variable {X : Cx} {Z : Cn} {E : Ent Z.W} {Wx : WX} {e a b c tg : Expr} {pos p ap cp : Pos} {fe fa fb fc : M Z.W.G D} {i : Nat} {x : Str}
theorem keyT_v {K : PySem.W.Frag} {H : Hp} {v : V} : ∀ {d : D} {ks : List DKey}, keyT d = some ks → Dv K H v d → ∃ b, v = .ref b ∧ H b = some (.tup ((ks.map toKey).map kV))
  | .tupS ds, ks, h, dv => by
    cases dv with
    | tupS h1 h2 =>
      rename_i a vs
      have h' : keysD ds = some ks := h
      rw [keysD_v h' h2] at h1
      exact ⟨a, rfl, h1⟩
theorem dx_tnew (hu : X.A.units + 1 < cLine) (hk : DE X Z E Wx a fa) (hv : DE X Z E Wx e fe) : DX X Z E Wx (.Dict [some a] [e] pos) (xTnew fa fe) := by
  refine PE.imp (pe_dispT hu hk hv) fun σ H Q ⟨Hf, g, sl, r, q⟩ p hp => ?_
  obtain ⟨n1, n2, n3⟩ := new_n r.base.self hp
  have hE : E.H p = none := by
    cases e : E.H p with
    | none => rfl
    | some o => exact absurd n1 (r.base.there p (by rw [e]; simp))
  have b0 := r.base.self.allocU (.dT []) hp
  refine ⟨Hf, g, sl, r.step b0, ?_⟩
  unfold xTnew M.bind at q
  match ek : fa sl g with
  | none => rw [ek] at q; exact q.elim
  | some (.exc c, g1) =>
    rw [ek] at q
    exact fun H' Hf' b' => q H' Hf' (b0.trans b')
  | some (.ok kd, g1) =>
    rw [ek] at q
    intro y H1 Hf1 b1 d1
    refine ⟨Hf1, g1, sl, (r.step b0).step b1, ?_⟩
    simp only at q
    match ev : fe sl g1 with
    | none => rw [ev] at q; exact q.elim
    | some (.exc c, g2) =>
      rw [ev] at q
      exact fun H' Hf' b' => q H' Hf' (b0.trans (b1.trans b'))
    | some (.ok vd, g2) =>
      rw [ev] at q
      intro y2 H2 Hf2 b2 d2
      simp only [M.lift] at q
      match et : keyT kd with
      | none => rw [et] at q; exact q.elim
      | some ks =>
        rw [et] at q
        obtain ⟨b, rfl, hb⟩ := keyT_v et d1
        have b12 := b1.trans b2
        have hp2 : H2 p = some (.dT []) := b12.keep p _ upd_same n3
        have hf2 : Hf2 p = none := (b12.old p (by rw [upd_same]; simp)).trans n2
        have hg2 : ¬ Z.W.fp g2 p := fun z => by
          rcases b12.fpo p z with z | z
          · exact n3 z
          · rw [upd_same] at z; cases z
        refine ⟨hp2, b, ks.map toKey, rfl, b2.fh _ _ (b2.ff _ _ hb), ?_⟩
        have bA := (b0.trans b12).updFresh (.dT [(ks.map toKey, y2)]) n1 hf2 hg2
        exact q _ _ _ bA ⟨⟨p, _, rfl, upd_same, .cons ⟨rfl, d2⟩ .nil, hE, hf2, hg2⟩, fun _ a ea => by cases ea; exact n1⟩
theorem mT_go {α β : Type} {Rl : Z.W.G → Hp → Hp → β → α → Prop} {σ : St} {sl : SL} {H Hf : Hp} {g : Z.W.G} {k : List (List DKey × D) → M Z.W.G α} {Q : β → Hp → Prop} (r : R X.K E H Hf g sl σ) (h : go Z Rl Wx σ (M.bind (mT i) k sl g) H Hf g Q) :
    ∃ a kvs, σ[i]? = some (some (.ref a)) ∧ sl[i]? = some (some (.oT kvs)) ∧ go Z Rl Wx σ (k kvs sl g) H Hf g Q := by
  unfold M.bind mT at h
  match e : sl[i]? with
  | some (some (.oT kvs)) =>
    rw [e] at h
    obtain ⟨v, h1, a, vs, rfl, _⟩ := r.slot i _ e
    exact ⟨a, kvs, h1, rfl, h⟩
  | some (some (.d y)) => rw [e] at h; exact h.elim
  | some (some (.oL y)) => rw [e] at h; exact h.elim
  | some (some (.oK y)) => rw [e] at h; exact h.elim
  | some (some (.kK y)) => rw [e] at h; exact h.elim
  | some none => rw [e] at h; exact h.elim
  | none => rw [e] at h; exact h.elim
theorem R.dt {σ : St} {sl : SL} {H Hf : Hp} {g : Z.W.G} {a : Addr} {kvs : List (List DKey × D)} (r : R X.K E H Hf g sl σ) (hs : sl[i]? = some (some (.oT kvs))) (ha : σ[i]? = some (some (.ref a))) :
    ∃ vs, H a = some (.dT vs) ∧ TVd X.K Hf vs kvs ∧ OwnOk E Hf g a := by
  obtain ⟨v, h1, b, vs, rfl, h2, h3, h4⟩ := r.slot i _ hs
  rw [ha] at h1
  cases h1
  exact ⟨vs, h2, h3, h4⟩
theorem de_tget (hu : X.A.units + 1 < cLine) (hk : DE X Z E Wx a fa) (hN : X.N[i]? = some x := by rfl) (hv : Vis X.env.scope x := by first | exact Or.inl rfl | exact Or.inr (Or.inl rfl) | exact Or.inr (Or.inr rfl)) (hd : (x == ("__debug__" : Str)) = false := by decide)
    (hcd : (x == ("__classdict__" : Str)) = false := by decide) (hs : NoSl a := by intro _ _; rfl) : DE X Z E Wx (.Subscript (.Name x p) a pos) (eTGet i fa) := by
  refine PE.imp (pe_dget hu (pe_var hN hv hd hcd) hk hs) fun σ H Q ⟨Hf, g, sl, r, q⟩ => ?_
  obtain ⟨b, kvs, h1, h2, q1⟩ := mT_go r q
  refine ⟨_, h1, Hf, g, sl, r, (go_bind (Rm := RlD X.K) q1).mono fun y H1 ⟨Hf1, g1, kd, b1, d1, q2⟩ => ?_⟩
  obtain ⟨d, ed, k⟩ := go_lift q2
  obtain ⟨ky, e1, e2⟩ := Option.bind_eq_some_iff.mp ed
  obtain ⟨t, rfl, ht⟩ := keyT_v e1 d1
  obtain ⟨vs, rd, kv, _⟩ := (r.step b1).dt h2 h1
  rcases pv_get (f := fun l : List DKey => l.map toKey) toKeys_inj ky kv with ⟨n1, _⟩ | ⟨d', v, n1, n2, n3⟩
  · rw [e2] at n1; cases n1
  · rw [e2] at n1
    cases n1
    refine ⟨b, v, rfl, ?_, k _ _ _ b1.self n3⟩
    rw [← n2]
    exact DGet.t rd (b1.fh _ _ ht)
theorem dt_tnin (hu : X.A.units + 1 < cLine) (hk : DE X Z E Wx a fa) (hN : X.N[i]? = some x := by rfl) (hv : Vis X.env.scope x := by first | exact Or.inl rfl | exact Or.inr (Or.inl rfl) | exact Or.inr (Or.inr rfl)) (hd : (x == ("__debug__" : Str)) = false := by decide)
    (hcd : (x == ("__classdict__" : Str)) = false := by decide) (hb : behindInMarks .NotIn (.Name x p) = false := by rfl) : DT X Z E Wx (.Compare a [.NotIn] [.Name x p] pos) (tV (eTNin i fa)) := by
  refine PT.imp (pt_cmp (pc_dnotin hu hk (pe_var hN hv hd hcd)) hb) fun σ H Q h => tB_of h fun Q' q => ?_
  obtain ⟨Hf, g, sl, r, q⟩ := q
  refine ⟨Hf, g, sl, r, (go_bind (Rm := RlD X.K) q).mono fun y H1 ⟨Hf1, g1, kd, b1, d1, q1⟩ => ?_⟩
  obtain ⟨b, kvs, h1, h2, q2⟩ := mT_go (r.step b1) q1
  obtain ⟨d, ed, k⟩ := go_lift q2
  obtain ⟨ky, e1, rfl⟩ := Option.map_eq_some_iff.mp ed
  obtain ⟨t, rfl, ht⟩ := keyT_v e1 d1
  obtain ⟨vs, rd, kv, _⟩ := (r.step b1).dt h2 h1
  refine ⟨_, h1, b, valV vs (ky.map toKey), rfl, DGet.t rd (b1.fh _ _ ht), ?_⟩
  rcases pv_get (f := fun l : List DKey => l.map toKey) toKeys_inj ky kv with ⟨n1, n2⟩ | ⟨d', v, n1, n2, n3⟩
  · rw [n1] at k
    rw [n2]
    exact k _ _ _ b1.self (.bl _)
  · rw [n1] at k
    rw [n2]
    exact k _ _ _ b1.self (.bl _)
/-- the own thing at q is written -/
theorem R.updAny {H Hf : Hp} {g : Z.W.G} {sl : SL} {σ : St} {x y : Slot} {q : Addr} {o : HO} (r : R X.K E H Hf g sl σ) (hi : sl[i]? = some (some x)) (ox : x.own = true) (oy : y.own = true) (hq : σ[i]? = some (some (.ref q))) (h4 : OwnOk E Hf g q) (hy : SlotOk X.K E (upd H q o) Hf g (.ref q) y) :
    R X.K E (upd H q o) Hf g (sl.set i (some y)) σ := by
  have key : ∀ (j : Nat) (z : Slot), (sl.set i (some y))[j]? = some (some z) → (j = i ∧ z = y) ∨ (j ≠ i ∧ sl[j]? = some (some z)) := by
    intro j z ej
    rw [List.getElem?_set] at ej
    split at ej
    · rename_i hij
      split at ej
      · cases ej; exact .inl ⟨hij.symm, rfl⟩
      · cases ej
    · rename_i hij
      exact .inr ⟨fun z => hij z.symm, ej⟩
  refine ⟨r.base.updFresh _ h4.1 h4.2.1 h4.2.2, fun j z ej => ?_, fun j l z z' b n ej el oz oz' => ?_, by rw [List.length_set]; exact r.len⟩
  · rcases key j z ej with ⟨rfl, rfl⟩ | ⟨hj, ej'⟩
    · exact ⟨_, hq, hy⟩
    · obtain ⟨w, q1, q2⟩ := r.slot j z ej'
      refine ⟨w, q1, ?_⟩
      have hw : z.own = true → w ≠ .ref q := fun oz e => by subst e; exact r.apart i j _ z q (Ne.symm hj) hi ej' ox oz hq q1
      match z, q2, hw with
      | .d x, q2, _ => exact q2
      | .oL zs, ⟨b, us, e1, k1, k2, k3⟩, hw => exact ⟨b, us, e1, by rw [upd_ne (fun z => hw rfl (by rw [e1, z]))]; exact k1, k2, k3⟩
      | .oK zs, ⟨b, us, e1, k1, k2, k3⟩, hw => exact ⟨b, us, e1, by rw [upd_ne (fun z => hw rfl (by rw [e1, z]))]; exact k1, k2, k3⟩
      | .kK zs, q2, _ => exact q2
      | .oT zs, ⟨b, us, e1, k1, k2, k3⟩, hw => exact ⟨b, us, e1, by rw [upd_ne (fun z => hw rfl (by rw [e1, z]))]; exact k1, k2, k3⟩
  · have aux : ∀ (j : Nat) (z : Slot), (sl.set i (some y))[j]? = some (some z) → z.own = true → ∃ z', sl[j]? = some (some z') ∧ z'.own = true := by
      intro j z ej oz
      rcases key j z ej with ⟨rfl, rfl⟩ | ⟨hj, ej'⟩
      · exact ⟨_, hi, ox⟩
      · exact ⟨z, ej', oz⟩
    obtain ⟨y', e1, o1⟩ := aux j z ej oz
    obtain ⟨z2, e2, o2⟩ := aux l z' el oz'
    exact r.apart j l y' z2 b n e1 e2 o1 o2
theorem goS_ownT {K : PySem.W.Frag} {Hf : Hp} {sl : SL} {g : Z.W.G} {k : SM Z.W.G} {D : Ends} (h : goS Z K E Wx Hf (sOwnT i k sl g) D) : ∃ xs, sl[i]? = some (some (.oT xs)) ∧ goS Z K E Wx Hf (k sl g) D := by
  unfold sOwnT at h
  split at h
  · rename_i xs hx; exact ⟨xs, hx, h⟩
  · exact h.elim
theorem goS_mutT {H Hf : Hp} {sl : SL} {σ : St} {g : Z.W.G} {h : List (List DKey × D) → Option (List (List DKey × D))} {xs : List (List DKey × D)} {D : Ends} (r : R X.K E H Hf g sl σ) (hi : sl[i]? = some (some (.oT xs))) (q : goS Z X.K E Wx Hf (sMutT i h sl g) D) :
    ∃ ys, h xs = some ys ∧ ∀ q ws, σ[i]? = some (some (.ref q)) → OwnOk E Hf g q → TVd X.K Hf ws ys → D.nx σ (upd H q (.dT ws)) := by
  unfold sMutT at q
  rw [hi] at q
  simp only at q
  split at q
  · rename_i ys hy
    refine ⟨ys, hy, fun a ws ha own d => q σ _ Hf (same_refl _) (r.updAny hi rfl rfl ha own ⟨a, ws, rfl, upd_same, d, own⟩)⟩
  · exact q.elim
theorem ds_tput {ps : Pos} (hu : X.A.units + 1 < cLine) (hk : DE X Z E Wx a fa) (he : DE X Z E Wx e fe) (hN : X.N[i]? = some x := by rfl) (hv : Vis X.env.scope x := by first | exact Or.inl rfl | exact Or.inr (Or.inl rfl) | exact Or.inr (Or.inr rfl)) (hd : (x == ("__debug__" : Str)) = false := by decide)
    (hcd : (x == ("__classdict__" : Str)) = false := by decide) (hs : swapsWith e (some (.Subscript (.Name x p) a ps)) pos.line X.env = pure false := by rfl) :
    DS X Z E Wx (.Assign [.Subscript (.Name x p) a ps] e pos) (sTPut i fa fe) := by
  refine PS.imp (ps_dput hu (pe_var hN hv hd hcd) hk he hs) fun D σ H ⟨Hf, g, sl, r, q⟩ => ?_
  obtain ⟨xs, hi, q⟩ := goS_ownT q
  refine ⟨Hf, g, sl, r, (goS_do (Rl := RlD X.K) r q).mono fun v H1 ⟨Hf1, g1, d, b1, r1, d1, q1⟩ => ?_⟩
  obtain ⟨v0, h1, l, vs, rfl, hH, dv, hown⟩ := r1.slot i _ hi
  refine ⟨_, h1, Hf1, g1, sl, r1, (goS_do (Rl := RlD X.K) r1 q1).mono fun kv H2 ⟨Hf2, g2, kd, b2, r2, d2, q2⟩ => ?_⟩
  obtain ⟨ys, ey, k⟩ := goS_mutT r2 hi q2
  obtain ⟨ks, e1, e2⟩ := Option.bind_eq_some_iff.mp ey
  obtain ⟨t, rfl, ht⟩ := keyT_v e1 d2
  obtain ⟨vs2, rd, kv2, own2⟩ := r2.dt hi h1
  split at e2
  · rename_i hlen
    cases e2
    refine ⟨l, _, rfl, DPut.t rd (b2.fh _ _ ht) (by rw [pv_len (f := fun l : List DKey => l.map toKey) kv2]; exact lim_lt (Nat.le_of_lt hlen)), k l _ h1 own2 (pv_put (f := fun l : List DKey => l.map toKey) toKeys_inj ks (Dv.mono b2.ff _ d1) kv2)⟩
  · cases e2
end
end DL
namespace DL
open PySem L2
/-! ### a dict of written texts -/
abbrev trC (l : List (List Nat × List Nat)) : List (TE × TE) := l.map fun p => (tC (.str (mkS p.1)), tC (.str (mkS p.2)))
theorem tPairs_c {σ : St} {H : Hp} : ∀ (l : List (List Nat × List Nat)) {Q : List (V × V) → Hp → Prop}, Q (l.map fun p => (V.str (mkS p.1), V.str (mkS p.2))) H → tPairs (trC l) σ H Q
  | [], _, h => h
  | p :: l, Q, h => by
    show tPairs (trC l) σ H fun ps H3 => Q ((V.str (mkS p.1), V.str (mkS p.2)) :: ps) H3
    exact tPairs_c l h
def dispK (l : List (List Nat × List Nat)) : List (DKey × D) := l.map fun p => (.inr p.1, .str p.2)
def xDisp {G : Type} (l : List (List Nat × List Nat)) : M G Slot := M.pure (.oK (dMerge [] (dispK l)))
def okPs (l : List (List Nat × List Nat)) : Bool := l.all fun p => okSb p.2
theorem kvd_disp {K : PySem.W.Frag} {Hf : Hp} : ∀ (l : List (List Nat × List Nat)), okPs l = true → KVd K Hf (l.map fun p => ((.inr (mkS p.1) : Key), V.str (mkS p.2))) (dispK l)
  | [], _ => .nil
  | p :: l, ok => by
    have ok' : (okSb p.2 && okPs l) = true := ok
    rw [Bool.and_eq_true] at ok'
    exact .cons ⟨rfl, .str p.2 (okSb_ok ok'.1)⟩ (kvd_disp l ok'.2)
theorem pps_c {X : Cx} {pos : Pos} (a b : List Nat) {x y : Str} {j j2 : Nat} {p p2 : Pos} {ks : List (Option Expr)} {vs : List Expr} {l : List (List Nat × List Nat)} (hr : PPs X pos ks vs (trC l)) (hx : x = mkS a := by rfl) (hy : y = mkS b := by rfl) :
    PPs X pos (some (.Constant (.str x) j p) :: ks) (.Constant (.str y) j2 p2 :: vs) (trC ((a, b) :: l)) := by
  subst hx hy
  exact pps_cons pe_str pe_str hr
section
variable {X : Cx} {Z : Cn} {E : Ent Z.W} {Wx : WX} {pos : Pos}
theorem dx_disp (l : List (List Nat × List Nat)) {keys : List (Option Expr)} {values : List Expr} (h : PPs X pos keys values (trC l)) (hall : keys.all (·.isSome) = true) (hl : keys.length = values.length) (h0 : keys ≠ []) (h15 : keys.length ≤ 15) (hl15 : l.length ≤ 15) (ok : okPs l = true) :
    DX X Z E Wx (.Dict keys values pos) (xDisp l) := by
  refine PE.imp (pe_disp h hall hl h0 h15) fun σ H Q ⟨Hf, g, sl, r, q⟩ p hp => ?_
  obtain ⟨n1, n2, n3⟩ := new_n r.base.self hp
  have hE : E.H p = none := by
    cases e : E.H p with
    | none => rfl
    | some o => exact absurd n1 (r.base.there p (by rw [e]; simp))
  refine tPairs_c l ⟨upd_same, l.map fun p => (.inr (mkS p.1), .str (mkS p.2)), ?_, by rw [List.length_map]; exact hl15, ?_⟩
  · rw [List.map_map]; rfl
  · have b0 := (r.base.self.allocU (.dK []) hp).updFresh (.dK (mergeK [] (l.map fun p => (.inr (mkS p.1), .str (mkS p.2))))) n1 n2 n3
    have kv := kvd_disp (K := X.K) (Hf := Hf) l ok
    exact go_pure q _ _ _ b0 ⟨⟨p, _, rfl, upd_same, pv_merge kv .nil, hE, n2, n3⟩, fun _ a ea => by cases ea; exact n1⟩
end
end DL
namespace DL
open PySem L2
/-! ### d.update(dict(..)), sorted(d) -/
section
variable {X : Cx}
def rDUpd : V → List V → Hp → VK → Prop := fun x xs H Q => ∃ (d o : Addr) (kvs more : List (Key × V)), x = .ref d ∧ xs = [.ref o] ∧ d ≠ o ∧ H d = some (.dK kvs) ∧ H o = some (.dK more) ∧ kvs.length + more.length ≤ sizeLine ∧ Q .non (upd H d (.dK (mergeK kvs more)))
theorem mt_dupd : MtR X "dict.update" rDUpd := by
  intro pins s σ H x xs v us Q I rx rs h
  obtain ⟨d, o, kvs, more, rfl, rfl, hne, hd, ho, hz, q⟩ := h
  obtain rfl : v = Value.ref d := rx
  rw [Vals.ref1 rs]
  obtain ⟨z, hdS, vs, rel, dd⟩ := dk_of I.hok hd
  obtain ⟨z2, hoS, vs2, rel2, dd2⟩ := dk_of I.hok ho
  refine call_meetsIn PySem.F.slot_dict_update dd.typeIs PySem.F.entry_dict_update (PySem.F.args_dict_update_2 _ _) (meets_dict_update (mixKind X.prog X.w) d o hne hoS)
    ⟨vs, vs2, dd, dd2, by rw [← rel.length, ← rel2.length]; exact hz, fun h' dd' _ hs => ?_⟩
  have he : ∃ q, h'.get? d = some q := let ⟨q, _, _, hq, _⟩ := dd'; ⟨q, hq⟩
  have hlen : (mergeK kvs more).length ≤ sizeLine := Nat.le_trans (length_mergeK more kvs) hz
  exact ⟨.non, _, d_write (t' := s.toks) I (by rw [hd]; exact True.intro) hs he (dk_new hlen hdS (rel2.merge rel) dd'), rfl, q⟩
end
section
variable {G : Type}
def sOwnK (i : Nat) (k : SM G) : SM G := fun sl g => match sl[i]? with
  | some (some (.oK _)) => k sl g
  | _ => none
def sMutK (i : Nat) (h : List (DKey × D) → Option (List (DKey × D))) : SM G := fun sl g => match sl[i]? with
  | some (some (.oK xs)) => match h xs with
    | some ys => some (.nx, sl.set i (some (.oK ys)), g)
    | none => none
  | _ => none
def sUpd (i : Nat) (f : M G D) : SM G := sOwnK i <| sDo f fun d => sMutK i fun kvs => ((asL d).bind asPrs).bind fun prs => if kvs.length + prs.length ≤ LIM then some (dMerge kvs (dMerge [] prs)) else none
def intKs : List (DKey × D) → Option (List Int)
  | [] => some []
  | (.inl i, _) :: l => (intKs l).map (i :: ·)
  | (.inr _, _) :: _ => none
def eSortK (i : Nat) : M G D := M.bind (mK i) fun kvs => M.lift ((intKs kvs).bind fun ks => if ks.length < 64 then some (.lst ((sortG leI ks).map D.int)) else none)
end
section
variable {X : Cx} {Z : Cn} {E : Ent Z.W} {Wx : WX} {e a b c tg : Expr} {pos p p2 ap cp dp : Pos} {fe fa fb fc : M Z.W.G D} {i : Nat} {x : Str}
theorem goS_ownK {K : PySem.W.Frag} {Hf : Hp} {sl : SL} {g : Z.W.G} {k : SM Z.W.G} {D : Ends} (h : goS Z K E Wx Hf (sOwnK i k sl g) D) : ∃ xs, sl[i]? = some (some (.oK xs)) ∧ goS Z K E Wx Hf (k sl g) D := by
  unfold sOwnK at h
  split at h
  · rename_i xs hx; exact ⟨xs, hx, h⟩
  · exact h.elim
theorem asPrs_len : ∀ {ds : List D} {prs : List (DKey × D)}, asPrs ds = some prs → prs.length = ds.length
  | [], _, h => by cases h; rfl
  | .tup [k, v] :: ds, _, h => by
    obtain ⟨k', e1, e2⟩ := Option.bind_eq_some_iff.mp h
    obtain ⟨l, e3, rfl⟩ := Option.map_eq_some_iff.mp e2
    simp [asPrs_len e3]
theorem ds_upd (hc : X.calm = true) (hg : Gl X "dict") (hm : X.mg "dict" = none) (ha : DR X Z E Wx a fa) (hN : X.N[i]? = some x := by rfl) (hv : Vis X.env.scope x := by first | exact Or.inl rfl | exact Or.inr (Or.inl rfl) | exact Or.inr (Or.inr rfl)) (hd : (x == ("__debug__" : Str)) = false := by decide)
    (hcd : (x == ("__classdict__" : Str)) = false := by decide) (hbase : attributeBase (.Name x p) "update" X.env (eval (.Name x p) X.env) = eval (.Name x p) X.env := by rfl)
    (hfew : ((backTo cp (starEach [.Call (.Name "dict" p2) [a] [] dp] X.env)).all (fun x => !x.1) && (backToKw cp (keywordEach [] X.env)).all (fun x => x.1.isSome)
      && decide (([.Call (.Name "dict" p2) [a] [] dp] : List Expr).length + ([] : List Keyword).length + (if ([] : List Keyword).isEmpty then 0 else 1) < 30)) = true := by rfl)
    (hline : (ap.endLine == cp.line) = true := by rfl) (hst : starEach [.Call (.Name "dict" p2) [a] [] dp] X.env = (false, eval (.Call (.Name "dict" p2) [a] [] dp) X.env) :: starEach [] X.env := by rfl) (hplain : (backTo cp (starEach [] X.env)).any (·.1) = false := by rfl)
    (hsa : starEach [a] X.env = (false, eval a X.env) :: starEach [] X.env := by rfl) (hpl : (backTo dp (starEach [] X.env)).any (·.1) = false := by rfl)
    (hs : swapsWith (.Call (.Attribute (.Name x p) "update" ap) [.Call (.Name "dict" p2) [a] [] dp] [] cp) none pos.line X.env = pure false := by rfl) : DS X Z E Wx (.Expr (.Call (.Attribute (.Name x p) "update" ap) [.Call (.Name "dict" p2) [a] [] dp] [] cp) pos) (sUpd i fa) := by
  refine PS.imp (ps_expr (pe_bm PySem.F.plainAttrs_dict PySem.F.slot_dict_update PySem.F.type_dict_update mt_dupd (pe_var hN hv hd hcd) (pa_cons (pe_callTy (call_dictP hc) hg hm bt_dict (pa_cons ha pa_nil hsa) (by decide) (by decide) hsa hpl) pa_nil hst) hbase hfew hline hst hplain) hs) fun D σ H ⟨Hf, g, sl, r, q⟩ => ?_
  obtain ⟨kvs, hi, q⟩ := goS_ownK q
  obtain ⟨v0, h1, l, vs, rfl, hH, kv, hown⟩ := r.slot i _ hi
  refine ⟨_, h1, .inr (.inr (.inl ⟨rfl, .inl ⟨vs, hH⟩⟩)), Hf, g, sl, r, (goS_do (Rl := RlR X.K) r q).mono fun y H1 ⟨Hf1, g1, d, b1, r1, d1, q1⟩ => ?_⟩
  unfold sMutK at q1
  rw [hi] at q1
  simp only at q1
  match em : ((asL d).bind asPrs) with
  | none => rw [em] at q1; exact q1.elim
  | some prs =>
    rw [em] at q1
    simp only [Option.bind_some] at q1
    split at q1
    · rename_i ys hys
      split at hys
      · rename_i hlen
        cases hys
        obtain ⟨ds, e1, e3⟩ := Option.bind_eq_some_iff.mp em
        obtain rfl := asL_some e1
        obtain ⟨l2, vs2, rfl, g1', g2'⟩ := d1.lst b1.fh
        obtain ⟨ps, ms, rfl, q2, q3⟩ := asPrs_v b1.fh e3 g2'
        refine ⟨l2, ps, ms, rfl, SqL.of g1', q2, fun pn hpn => ?_⟩
        obtain ⟨n1, n2, n3⟩ := new_n b1 hpn
        have r2 := r1.step (r1.base.self.allocU (.dK (mergeK [] ms)) hpn)
        obtain ⟨v1, h1', l', vs', e', hH', kv', hown'⟩ := r2.slot i _ hi
        rw [h1] at h1'
        cases h1'
        cases e'
        have hne : l ≠ pn := fun z => by
          subst z
          rw [hH] at n1
          cases n1
        have kvM : KVd X.K Hf1 (mergeK [] ms) (dMerge [] prs) := pv_merge q3 .nil
        refine ⟨l, pn, vs', mergeK [] ms, rfl, rfl, hne, hH', upd_same, ?_, ?_⟩
        · have a1 := pv_len kv'
          have a2 := length_mergeK ms []
          have a3 : ms.length = prs.length := pv_len q3
          simp only [List.length_nil, Nat.zero_add] at a2
          have := lim_line2 hlen
          omega
        · exact q1 σ _ Hf1 (same_refl _) (r2.updAny hi rfl rfl h1 hown' ⟨l, _, rfl, upd_same, pv_merge kvM kv', hown'⟩)
      · cases hys
    · exact q1.elim
theorem intKs_keys {K : PySem.W.Frag} {Hf : Hp} : ∀ {kvs : List (DKey × D)} {vs : List (Key × V)} {ks : List Int}, intKs kvs = some ks → KVd K Hf vs kvs → vs.map (·.1) = ks.map Sum.inl
  | [], _, _, h, .nil => by cases h; rfl
  | (.inl i, d) :: kvs, _, _, h, .cons h1 t => by
    obtain ⟨l, e1, rfl⟩ := Option.map_eq_some_iff.mp h
    rw [List.map_cons, intKs_keys e1 t, h1.1]
    rfl
theorem de_sortK (hc : X.calm = true) (hg : Gl X "sorted") (hm : X.mg "sorted" = none) (hN : X.N[i]? = some x := by rfl) (hv : Vis X.env.scope x := by first | exact Or.inl rfl | exact Or.inr (Or.inl rfl) | exact Or.inr (Or.inr rfl)) (hd : (x == ("__debug__" : Str)) = false := by decide)
    (hcd : (x == ("__classdict__" : Str)) = false := by decide) (hs : starEach [(.Name x p2 : Expr)] X.env = (false, eval (.Name x p2) X.env) :: starEach [] X.env := by rfl) (hpl : (backTo pos (starEach [] X.env)).any (·.1) = false := by rfl) :
    DE X Z E Wx (.Call (.Name "sorted" p) [.Name x p2] [] pos) (eSortK i) := by
  refine PE.imp (pe_callB (call_sortedDI hc) hg hm bt_sorted (pa_cons (pe_var hN hv hd hcd) pa_nil hs) (by decide) (by decide) hs hpl) fun σ H Q ⟨Hf, g, sl, r, q⟩ => ?_
  obtain ⟨b, kvs, h1, h2, q1⟩ := mK_go r q
  refine ⟨_, h1, ?_⟩
  obtain ⟨d, ed, k⟩ := go_lift q1
  obtain ⟨ks, e1, e2⟩ := Option.bind_eq_some_iff.mp ed
  split at e2
  · rename_i hlt
    cases e2
    obtain ⟨vs, rd, kv⟩ := r.dk h2 h1
    refine ⟨b, vs, ks, rfl, rd, intKs_keys e1 kv, hlt, fun ys p' pm po hp => ?_⟩
    rw [sortI_uniq pm po]
    exact k _ _ _ (r.base.self.alloc (.lst ((sortG leI ks).map V.int)) hp) (.lst upd_same (DvAll.ofInts _))
  · cases e2
def max2D : D → D → Option D
  | .int i, .int j => some (.int (if j > i then j else i))
  | _, _ => none
def min2D : D → D → Option D
  | .int i, .int j => some (.int (if j < i then j else i))
  | _, _ => none
theorem de_max2 (hc : X.calm = true) (hg : Gl X "max") (hm : X.mg "max" = none) (ha : DE X Z E Wx a fa) (hb : DE X Z E Wx b fb) (hs : starEach [a, b] X.env = (false, eval a X.env) :: starEach [b] X.env := by rfl) (hs2 : starEach [b] X.env = (false, eval b X.env) :: starEach [] X.env := by rfl) (hpl : (backTo pos (starEach [b] X.env)).any (·.1) = false := by rfl) :
    DE X Z E Wx (.Call (.Name "max" p) [a, b] [] pos) (e2 max2D fa fb) := by
  refine PE.imp (pe_callB (call_max2 hc) hg hm bt_max (pa_cons ha (pa_cons hb pa_nil hs2) hs) (by decide) (by decide) hs hpl) fun σ H Q ⟨Hf, g, sl, r, q⟩ => ⟨Hf, g, sl, r, (go_bind (Rm := RlD X.K) q).mono fun y H1 ⟨Hf1, g1, d, b1, d1, q1⟩ => ⟨Hf1, g1, sl, r.step b1, (go_bind (Rm := RlD X.K) q1).mono fun y2 H2 ⟨Hf2, g2, d', b2, d2, q2⟩ => ?_⟩⟩
  obtain ⟨o, ed, k⟩ := go_lift q2
  match d, d', ed, d1, d2 with
  | .int i, .int j, ed, d1, d2 =>
    cases ed
    cases d1
    cases d2
    exact ⟨i, j, rfl, k _ _ _ b2.self (.int _)⟩
theorem de_min2 (hc : X.calm = true) (hg : Gl X "min") (hm : X.mg "min" = none) (ha : DE X Z E Wx a fa) (hb : DE X Z E Wx b fb) (hs : starEach [a, b] X.env = (false, eval a X.env) :: starEach [b] X.env := by rfl) (hs2 : starEach [b] X.env = (false, eval b X.env) :: starEach [] X.env := by rfl) (hpl : (backTo pos (starEach [b] X.env)).any (·.1) = false := by rfl) :
    DE X Z E Wx (.Call (.Name "min" p) [a, b] [] pos) (e2 min2D fa fb) := by
  refine PE.imp (pe_callB (call_min2 hc) hg hm bt_min (pa_cons ha (pa_cons hb pa_nil hs2) hs) (by decide) (by decide) hs hpl) fun σ H Q ⟨Hf, g, sl, r, q⟩ => ⟨Hf, g, sl, r, (go_bind (Rm := RlD X.K) q).mono fun y H1 ⟨Hf1, g1, d, b1, d1, q1⟩ => ⟨Hf1, g1, sl, r.step b1, (go_bind (Rm := RlD X.K) q1).mono fun y2 H2 ⟨Hf2, g2, d', b2, d2, q2⟩ => ?_⟩⟩
  obtain ⟨o, ed, k⟩ := go_lift q2
  match d, d', ed, d1, d2 with
  | .int i, .int j, ed, d1, d2 =>
    cases ed
    cases d1
    cases d2
    exact ⟨i, j, rfl, k _ _ _ b2.self (.int _)⟩
end
end DL
namespace DL
open PySem L2
/-! ### behind a store under a name of one's own a token is out -/
section
variable {M : Model} {A : Around} {s : Shared}
theorem text_tok {Γ : Ctx} {x : Str} {f : Value → Sem Unit} {Q : Unit → Shared → Prop} {E : Value → Shared → Prop} {p : Pos} (h : Sem.wp M Γ (mkText x >>= f) (fun a _ s' => Q a s') (fun e _ s' => E e s') p s) : Sem.wp M Γ (mkText x >>= f) (fun a _ s' => 1 ≤ s'.toks ∧ Q a s') (fun e _ s' => E e s') p s := by
  have h' : Sem.wp M Γ (f (.str x s.toks)) (fun a _ s' => Q a s') (fun e _ s' => E e s') p { s with toks := s.toks + 1 } := by
    rw [Sem.wp_bind'] at h
    exact h
  rw [Sem.wp_bind']
  show Sem.wp M Γ (f (.str x s.toks)) (fun a _ s' => 1 ≤ s'.toks ∧ Q a s') (fun e _ s' => E e s') p { s with toks := s.toks + 1 }
  exact Sem.wp_mono M Γ _ (fun _ _ _ z => z) (fun _ _ _ z => z.2) _ _ (Sem.wp_toks M Γ 1 _ _ _ _ _ (by show 1 ≤ s.toks + 1; omega) h')
theorem nsSet_tok {a : Addr} {x : Str} {v : Value} {Q : Unit → Shared → Prop} {E : Value → Shared → Prop} (h : wpAny M A (nsSet a x v) Q E s) : wpAny M A (nsSet a x v) (fun u s' => 1 ≤ s'.toks ∧ Q u s') E s := by
  intro Γ p hΓ
  have h := h Γ p hΓ
  unfold nsSet at h ⊢
  rw [Sem.wp_bind'] at h ⊢
  exact Sem.wp_mono M Γ _ (fun hv p1 s1 h1 => text_tok h1) (fun _ _ _ z => z) p s h
theorem store_tok {X : Cx} {pins : List (Addr × Obj)} {σ : List (Option V)} {H : Hp} {E : Value → Shared → Prop} {i : Nat} {x : Str} {v : V} {u : Value} {Q : Unit → Shared → Prop} (I : Inv X pins σ H s) (hN : X.N.Nodup) (hi : X.N[i]? = some x) (hx : X.env.scope.names.lookup x = some .local) (r : RelV v u)
    (h : ∀ s', 1 ≤ s'.toks → Inv X pins (σ.set i (some v)) H s' → Q () s') : wpAny M A (storeName X.env x u) Q E s := by
  have hcls : (X.env.scope.kind == .class || (X.env.scope.kind == .module && X.env.locals != X.env.globals)) = false := by rw [I.ok.kind]; rfl
  have w := store_ok (M := M) (A := A) (E := E) (Q := fun _ s' => Inv X pins (σ.set i (some v)) H s') I hN hi (.inl hx) r (fun s' I' => I') (.inr hx)
  rw [storeName_local hx hcls] at w ⊢
  exact thn (nsSet_tok w) fun _ s' ⟨k, I'⟩ => h s' k I'
end
section
variable {X : Cx} {rest : List Stmt} {u : TS}
theorem PST.imp {st : Stmt} {t t' : TS} (h : PST X st t) (k : ∀ D σ H, t' D σ H → t D σ H) : PST X st t' := fun pins s σ H D h0 I q => h pins s σ H D h0 I (k D σ H q)
theorem PSsT.imp {st : List Stmt} {t t' : TS} (h : PSsT X st t) (k : ∀ D σ H, t' D σ H → t D σ H) : PSsT X st t' := fun pins s σ H D h0 I q => h pins s σ H D h0 I (k D σ H q)
/-- x = e, x a name of one's own: behind it a token is out -/
theorem pss_asgT {i : Nat} {x : Str} {e : Expr} {te : TE} {pos' pos : Pos} (hN : X.N.Nodup) (hi : X.N[i]? = some x) (hx : X.env.scope.names.lookup x = some .local) (he : PE X e te) (h2 : PSsT X rest u)
    (hs : swapsWith e (some (.Name x pos')) pos.line X.env = pure false := by rfl) : PSs X (.Assign [.Name x pos'] e pos :: rest) (tSeq (tAsg te (gName i)) u) := by
  refine ⟨fun pins s σ H D I h => ?_⟩
  refine wpAny_execs_cons (wpAny_Assign_Name (thn (he.run pins s σ H _ I h) fun v s1 ⟨y, H1, I1, r1, q1⟩ => ?_) hs)
  exact store_tok I1 hN hi hx r1 fun s2 k I2 => h2 pins s2 _ H1 D k I2 q1
/-- x = e, where e wants a token -/
theorem pst_set {i : Nat} {x : Str} {e : Expr} {te : TE} {pos' pos : Pos} (hN : X.N.Nodup) (hi : X.N[i]? = some x) (hx : Loc X.env.scope x) (he : PET X e te) (hs : swapsWith e (some (.Name x pos')) pos.line X.env = pure false := by rfl)
    (hf : X.fn x = true ∨ X.env.scope.names.lookup x = some .local := by first | exact .inl rfl | exact .inr rfl | assumption) : PST X (.Assign [.Name x pos'] e pos) (tAsg te (gName i)) := by
  intro pins s σ H D h0 I h
  refine wpAny_Assign_Name (thn (he pins s σ H _ h0 I h) fun v s1 ⟨y, H1, I1, r1, q1⟩ => ?_) hs
  exact store_ok I1 hN hi hx r1 (fun s2 I2 => ⟨_, H1, I2, q1⟩) hf
end
end DL
namespace DL
open PySem PySem.Spec PyProof.Rows L2
/-! ### o.replace("..", a[b]) -/
def tReplE (to : TE) (y : Str) (ta tb : TE) : TE := fun σ H Q => to σ H fun v H1 => ∃ x, v = .str x ∧ ta σ H1 fun va H2 => tb σ H2 fun vb H3 => ∃ z i c, va = .str z ∧ vb = .int i ∧ 0 ≤ i ∧ i < 2 ^ 63 ∧ i < z.length ∧ z.cps[i.toNat]? = some c ∧ (y == (⟨#[c]⟩ : Str)) = false ∧ x.length + (x.length + 1) * (⟨#[c]⟩ : Str).length ≤ 16777216 ∧ Q (.str (Txt.replace x y ⟨#[c]⟩)) H3
section
variable {X : Cx} {o a b : Expr} {to ta tb : TE} {y : Str} {j : Nat} {c0 spos apos pos : Pos}
theorem pet_replE (ho : PE X o to) (ha : PE X a ta) (hb : PE X b tb) (hs : PlainIxT b)
    (hst : starEach [.Constant (.str y) j c0, .Subscript a b spos] X.env = [(false, eval (.Constant (.str y) j c0) X.env), (false, eval (.Subscript a b spos) X.env)] := by rfl)
    (hbase : attributeBase o "replace" X.env (eval o X.env) = eval o X.env := by rfl) (hline : (apos.endLine == pos.line) = true := by rfl) :
    PET X (.Call (.Attribute o "replace" apos) [.Constant (.str y) j c0, .Subscript a b spos] [] pos) (tReplE to y ta tb) := by
  intro pins s σ H Q h0 I h
  refine PySem.Call_method2 hbase hst hline (wpAny_mono (PySem.wpAny_toks (ho.run pins s σ H _ I h)) (fun v s1 q => ?_) fun _ _ z => z.2)
  obtain ⟨hk, v', H1, I1, r1, x, e1, q⟩ := q
  subst e1
  obtain ⟨tx, e2⟩ := r1
  subst e2
  refine ⟨"str", _, PySem.F.plainAttrs_str, PySem.F.slot_str_replace, PySem.F.type_str_replace, typeIs_str _ _ _, (fun _ e => nomatch e), Calls.callWith_builtin rfl (Calls.evalArgs_plain (Calls.spliced_cons ?_))⟩
  refine Calls.Constant_str (Calls.spliced_cons ?_)
  refine Subscript_ (wpAny_mono (PySem.wpAny_toks (ha.run pins _ σ H1 _ (I1.tok (s1.toks + 1)) q)) (fun va s2 q2 => ?_) fun _ _ z => z.2)
  obtain ⟨k2, xa, H2, I2, r2, q2⟩ := q2
  refine wpAny_mono (PySem.wpAny_toks (hb.run pins s2 σ H2 _ I2 q2)) (fun vb s3 q3 => ?_) fun _ _ z => z.2
  obtain ⟨k3, xb, H3, I3, r3, z, i, c, rfl, rfl, i0, i63, i1, hc, hyz, hbd, q3⟩ := q3
  obtain ⟨t, rfl⟩ := r2
  obtain ⟨t', rfl⟩ := r3
  have k2' : s1.toks + 1 ≤ s2.toks := k2
  have e : seqIndex? i z.length = some i.toNat := PySem.StrLaws.seqIndex_nonneg i0 i1
  refine tail_any (typeIs_str s3 z t) slot_str_getitem.lookup (getItem_str (c := c) (by
    have e1 : decide (i < -(2 ^ 63 : Int)) = false := decide_eq_false (by omega)
    have e2 : decide (i ≥ 2 ^ 63) = false := decide_eq_false (by omega)
    rw [e1, e2] <;> rfl) (by rw [e]; exact hc) (Calls.spliced_nil ?_)) (hs _ _)
  exact PySem.SC.replace (by show s1.toks ≠ 0; omega) (by show s3.toks ≠ 0; omega) (by show s1.toks ≠ s3.toks; omega) hyz hbd fun t' k => ⟨.str (Txt.replace x y ⟨#[c]⟩), H3, I3.tok k, ⟨t', rfl⟩, q3⟩
end
end DL
namespace DL
open PySem PySem.Spec PyProof.Rows L2
theorem repl_map (p c : Nat) : ∀ x : List Nat, PySem.StrLaws.replL [p] [c] x = x.map fun d => if d = p then c else d
  | [] => PySem.StrLaws.replL_nil
  | d :: x => by
    by_cases h : d = p
    · subst h
      rw [PySem.StrLaws.replL_hit (by simp) (by simp)]
      show [c] ++ PySem.StrLaws.replL [d] [c] x = _
      rw [repl_map]; simp
    · rw [PySem.StrLaws.replL_miss (by simpa using h), repl_map]; simp [h]
theorem replace_map (p c : Nat) (x : List Nat) : Txt.replace (mkS x) (mkS [p]) (mkS [c]) = mkS (x.map fun d => if d = p then c else d) := by
  have := PySem.StrLaws.replace_list (x := mkS x) (y := mkS [p]) (z := mkS [c]) (by rw [mkS_len]; simp)
  rw [mkS_cps, mkS_cps, mkS_cps, repl_map] at this
  rw [← mkS_surj (Txt.replace _ _ _), this]
theorem dv_okS {K : PySem.W.Frag} {H : Hp} {v : V} {s : List Nat} (h : Dv K H v (.str s)) : v = .str (mkS s) ∧ okS s := by
  cases h with
  | str _ h => exact ⟨rfl, h⟩
/-- o.replace("p", a[b]): what it gives, on data -/
def rplD (p : Nat) (x : List Nat) (da db : D) : Option D := match da, db with
  | .str z, .int i => match z[i.toNat]? with
    | some c => if 0 ≤ i ∧ i < 1000 ∧ c ≠ p ∧ x.length ≤ 1000 ∧ i < z.length then some (.str (x.map fun d => if d = p then c else d)) else none
    | none => none
  | _, _ => none
def eRepl {G : Type} (p : Nat) (fo fa fb : M G D) : M G D := M.bind fo fun d => match d with
  | .str s => M.bind fa fun da => M.bind fb fun db => M.lift (rplD p s da db)
  | _ => M.lift none
section
variable {X : Cx} {Z : Cn} {E : Ent Z.W} {Wx : WX} {o a b : Expr} {fo fa fb : M Z.W.G D} {j : Nat} {c0 spos apos pos : Pos} {st : Stmt} {sts : List Stmt} {fs fs' : SM Z.W.G}
abbrev DET (X : Cx) (Z : Cn) (E : Ent Z.W) (Wx : WX) (e : Expr) (f : M Z.W.G D) : Prop := PET X e (tG Z X.K E (RlD X.K) Wx f)
abbrev DST (X : Cx) (Z : Cn) (E : Ent Z.W) (Wx : WX) (st : Stmt) (f : SM Z.W.G) : Prop := PST X st (tS Z X.K E Wx f)
abbrev DSsT (X : Cx) (Z : Cn) (E : Ent Z.W) (Wx : WX) (st : List Stmt) (f : SM Z.W.G) : Prop := PSsT X st (tS Z X.K E Wx f)
theorem PET.imp {e : Expr} {t t' : TE} (h : PET X e t) (k : ∀ σ H Q, t' σ H Q → t σ H Q) : PET X e t' := fun pins s σ H Q h0 I q => h pins s σ H Q h0 I (k σ H Q q)
theorem det_repl {p : Nat} (ho : DE X Z E Wx o fo) (ha : DE X Z E Wx a fa) (hb : DE X Z E Wx b fb) (hs : PlainIxT b)
    (hst : starEach [.Constant (.str (mkS [p])) j c0, .Subscript a b spos] X.env = [(false, eval (.Constant (.str (mkS [p])) j c0) X.env), (false, eval (.Subscript a b spos) X.env)] := by rfl)
    (hbase : attributeBase o "replace" X.env (eval o X.env) = eval o X.env := by rfl) (hline : (apos.endLine == pos.line) = true := by rfl) :
    DET X Z E Wx (.Call (.Attribute o "replace" apos) [.Constant (.str (mkS [p])) j c0, .Subscript a b spos] [] pos) (eRepl p fo fa fb) := by
  refine PET.imp (pet_replE ho ha hb hs hst hbase hline) fun σ H Q ⟨Hf, g, sl, r, q⟩ => ⟨Hf, g, sl, r, (go_bind (Rm := RlD X.K) q).mono fun v H1 ⟨Hf1, g1, d, b1, d1, q1⟩ => ?_⟩
  cases d with
  | str x =>
    obtain ⟨rfl, hx⟩ := dv_okS d1
    refine ⟨mkS x, rfl, Hf1, g1, sl, r.step b1, (go_bind (Rm := RlD X.K) q1).mono fun va H2 ⟨Hf2, g2, da, b2, d2, q2⟩ => ⟨Hf2, g2, sl, (r.step b1).step b2, (go_bind (Rm := RlD X.K) q2).mono fun vb H3 ⟨Hf3, g3, db, b3, d3, q3⟩ => ?_⟩⟩
    obtain ⟨d, ed, k⟩ := go_lift q3
    unfold rplD at ed
    split at ed
    · rename_i z i _
      split at ed
      · rename_i c hc
        split at ed
        · rename_i hcond
          obtain ⟨i0, i1, hne, hxl, hiz⟩ := hcond
          cases ed
          obtain ⟨rfl, hz⟩ := dv_okS d2
          cases d3
          have e1 : (⟨#[c]⟩ : Str) = mkS [c] := rfl
          have hcm : c ∈ z := List.mem_of_getElem? hc
          refine ⟨mkS z, i, c, rfl, rfl, i0, by omega, by rw [mkS_len]; exact hiz, by simpa [mkS] using hc, ?_, ?_, ?_⟩
          · rw [e1]
            exact beq_false_of_ne fun e => hne (by have := mkS_inj e; simp at this; exact this.symm)
          · rw [e1, mkS_len, mkS_len]; simp; omega
          · rw [e1, replace_map]
            refine k _ _ _ b3.self (.str _ ⟨?_, fun d hd => ?_⟩)
            · rw [List.length_map]; exact hx.1
            · obtain ⟨d', hd', rfl⟩ := List.mem_map.mp hd
              split
              · exact hz.2 c hcm
              · exact hx.2 d' hd'
        · cases ed
      · cases ed
    · cases ed
  | _ => obtain ⟨d, ed, k⟩ := go_lift q1; cases ed
theorem dsst_cons (h1 : DST X Z E Wx st fs) (h2 : DSsT X Z E Wx sts fs') : DSsT X Z E Wx (st :: sts) (sSeq fs fs') :=
  PSsT.imp (psst_cons h1 h2) fun D σ H ⟨Hf, g, sl, r, q⟩ => ⟨Hf, g, sl, r, goS_seq q⟩
theorem dst_of (h : DS X Z E Wx st fs) : DST X Z E Wx st fs := PST.of h
theorem dsst_of (h : DSs X Z E Wx sts fs) : DSsT X Z E Wx sts fs := PSsT.of h
end
end DL
namespace DL
open PySem PySem.Spec PyProof.Rows L2
section
variable {X : Cx} {Z : Cn} {E : Ent Z.W} {Wx : WX} {e : Expr} {fe : M Z.W.G D} {fx : M Z.W.G Slot} {pos : Pos} {st : Stmt} {sts : List Stmt} {fs fs' : SM Z.W.G}
abbrev DXT (X : Cx) (Z : Cn) (E : Ent Z.W) (Wx : WX) (e : Expr) (f : M Z.W.G Slot) : Prop := PET X e (tX Z X.K E Wx f)
theorem dxt_e (h : DET X Z E Wx e fe) : DXT X Z E Wx e (xD fe) := by
  refine PET.imp h fun σ H Q ⟨Hf, g, sl, r, q⟩ => ⟨Hf, g, sl, r, (go_bind (Rm := RlD X.K) q).mono fun v H1 ⟨Hf1, g1, d, b1, d1, q1⟩ => ?_⟩
  exact q1 _ _ _ b1.self ⟨d1, fun z => by cases z⟩
theorem dst_set {i : Nat} {x : Str} {pos' : Pos} (hN : X.N.Nodup) (hi : X.N[i]? = some x) (hx : Loc X.env.scope x) (he : DXT X Z E Wx e fx) (hs : swapsWith e (some (.Name x pos')) pos.line X.env = pure false := by rfl)
    (hf : X.fn x = true ∨ X.env.scope.names.lookup x = some .local := by first | exact .inl rfl | exact .inr rfl | assumption) : DST X Z E Wx (.Assign [.Name x pos'] e pos) (sAsg i fx) :=
  PST.imp (pst_set hN hi hx he hs hf) fun D σ H ⟨Hf, g, sl, r, q⟩ => ⟨Hf, g, sl, r, (goS_do (Rl := RlX X.K E H) r q).mono fun v H1 ⟨Hf1, g1, s, b1, r1, d1, q1⟩ => q1 _ H1 Hf1 (same_refl _) (R.set_new r r1 d1)⟩
theorem dss_setT {i : Nat} {x : Str} {pos' : Pos} (hN : X.N.Nodup) (hi : X.N[i]? = some x) (hx : X.env.scope.names.lookup x = some .local) (he : DX X Z E Wx e fx) (h2 : DSsT X Z E Wx sts fs') (hs : swapsWith e (some (.Name x pos')) pos.line X.env = pure false := by rfl) :
    DSs X Z E Wx (.Assign [.Name x pos'] e pos :: sts) (sSeq (sAsg i fx) fs') :=
  PSs.imp (pss_asgT hN hi hx he h2 hs) fun D σ H ⟨Hf, g, sl, r, q⟩ => ⟨Hf, g, sl, r, (goS_do (Rl := RlX X.K E H) r (goS_seq q)).mono fun v H1 ⟨Hf1, g1, s, b1, r1, d1, q1⟩ => q1 _ H1 Hf1 (same_refl _) (R.set_new r r1 d1)⟩
theorem dss_docT {x : Str} {j : Nat} {p p' : Pos} (h : DSsT X Z E Wx sts fs) : DSs X Z E Wx (.Expr (.Constant (.str x) j p) p' :: sts) fs := CwR.pss_docT h
end
end DL
namespace DL
open PySem PySem.Spec PyProof.Rows L2
section
variable {X : Cx} {Z : Cn} {E : Ent Z.W} {Wx : WX} {e : Expr} {fe : M Z.W.G D} {pos : Pos}
theorem dst_ret (h : DET X Z E Wx e fe) : DST X Z E Wx (.Return (some e) pos) (sRet fe) :=
  PST.imp (CwR.pst_ret h) fun D σ H ⟨Hf, g, sl, r, q⟩ => ⟨Hf, g, sl, r, (goS_do (Rl := RlD X.K) r q).mono fun v H1 ⟨Hf1, g1, d, b1, r1, d1, q1⟩ => q1 v H1 Hf1 r1.base d1⟩
end
end DL
namespace DL
open PySem PySem.Spec PyProof.Rows L2
/-! ### min of three texts -/
def strOfV : Value → List Nat
  | .str x _ => x.cps.toList
  | _ => []
def IsS (v : Value) : Prop := ∃ x t, v = .str x t
theorem cmpOf_ltS {prog : Program} {w : World} {A : Around} (vs : Array Value) (hn : ∀ v ∈ vs, IsS v) :
    CmpOf prog w A .Lt (fun i v => vs[i]? = some v) (fun i j => decide (strOfV (vs.getD i .none) < strOfV (vs.getD j .none))) := fun i j vi vj s Q E hi hj h => by
  have e1 : vs.getD i .none = vi := by simp [Array.getD_eq_getD_getElem?, hi]
  have e2 : vs.getD j .none = vj := by simp [Array.getD_eq_getD_getElem?, hj]
  simp only [e1, e2] at h
  obtain ⟨x, t, rfl⟩ := hn _ (Array.mem_of_getElem? hi)
  obtain ⟨y, u, rfl⟩ := hn _ (Array.mem_of_getElem? hj)
  exact PySem.P.lt_str h
theorem min3_str {prog : Program} {w : World} {A : Around} {E : Value → Shared → Prop} {s : Shared} {Q : Value → Shared → Prop} {a b c : Value} (hh : A.handled = none) (ha : IsS a) (hb : IsS b) (hc : IsS c)
    (h : ∀ h' tk, (∀ d o, s.heap.get? d = some o → h'.get? d = some o) →
      Q (if strOfV c < strOfV (if strOfV b < strOfV a then b else a) then c else (if strOfV b < strOfV a then b else a)) { s with heap := h', toks := tk }) :
    wpAny (model prog w) A (call (.builtin "min") [a, b, c]) Q E s := by
  have hT : (s.heap.push { cls := .type "tuple", data := .seq #[a, b, c] }).IsTuple s.heap.objs.size #[a, b, c] := ⟨_, Heap.get?_push_size _ rfl, rfl, 0, rfl⟩
  refine call_min_three (wpAny_pyIter_tuple hT ?_)
  have hsz : (s.heap.push { cls := .type "tuple", data := .seq #[a, b, c] }).objs.size = s.heap.objs.size + 1 := Heap.size_push ..
  refine ⟨_, [_, s.heap.objs.size], [_], _, _, _, _, rfl, Walks.tuple (A := A.in1) hh _ s.heap.objs.size (by rw [hsz]; exact Nat.ne_of_lt (Nat.lt_succ_self _)) #[a, b, c],
    ⟨⟨_, Heap.get?_push_size _ rfl, rfl, rfl⟩, hT.push _⟩, fun d hd => ?_, by simp, cmpOf_ltS #[a, b, c] (by simp [ha, hb, hc]), fun v h' tk hP hk => ?_⟩
  · show d < ((s.heap.push _).push _).objs.size
    rw [Heap.size_push, hsz]
    rcases List.mem_cons.mp hd with rfl | hd
    · rw [hsz]; exact Nat.lt_succ_self _
    · rcases List.mem_cons.mp hd with rfl | hd
      · exact Nat.lt_succ_of_lt (Nat.lt_succ_self _)
      · cases hd
  · have hold : ∀ d o, s.heap.get? d = some o → h'.get? d = some o := fun d o e => by
      refine hk d o (fun hm => ?_) (Heap.get?_push_of_some _ (Heap.get?_push_of_some _ e))
      rcases List.mem_cons.mp hm with e1 | hm
      · have := Heap.lt_size e; rw [e1, hsz] at this; exact Nat.lt_irrefl _ (Nat.lt_of_succ_lt this)
      · cases hm
    have := h h' tk hold
    have hv : (if strOfV c < strOfV (if strOfV b < strOfV a then b else a) then c else (if strOfV b < strOfV a then b else a)) = v := by
      by_cases h1 : strOfV b < strOfV a
      · by_cases h2 : strOfV c < strOfV b <;> simp [argBest, h1, h2] at hP <;> simp [h1, h2] <;> exact hP
      · by_cases h2 : strOfV c < strOfV a <;> simp [argBest, h1, h2] at hP <;> simp [h1, h2] <;> exact hP
    rw [hv] at this
    exact this
section
variable {X : Cx}
def minS (a b : List Nat) : List Nat := if b < a then b else a
theorem call_min3S (hc : X.calm = true) : CallR X (.builtin "min") (fun xs H Q => ∃ a b c : List Nat, xs = [.str (mkS a), .str (mkS b), .str (mkS c)] ∧ Q (.str (mkS (minS (minS a b) c))) H) := by
  intro pins s σ H xs us Q I r h
  obtain ⟨a, b, c, rfl, q⟩ := h
  obtain ⟨u1, u2, u3, rfl, r1, r2, r3⟩ : ∃ u1 u2 u3, us = [u1, u2, u3] ∧ RelV (.str (mkS a)) u1 ∧ RelV (.str (mkS b)) u2 ∧ RelV (.str (mkS c)) u3 := by
    cases r with
    | cons q1 r => cases r with
      | cons q2 r => cases r with
        | cons q3 r => cases r; exact ⟨_, _, _, rfl, q1, q2, q3⟩
  obtain ⟨t1, rfl⟩ := r1
  obtain ⟨t2, rfl⟩ := r2
  obtain ⟨t3, rfl⟩ := r3
  refine min3_str (I.ok.hd hc) ⟨_, _, rfl⟩ ⟨_, _, rfl⟩ ⟨_, _, rfl⟩ fun h' tk k => ⟨_, H, I.kept k, ?_, q⟩
  show RelV _ _
  unfold minS
  by_cases h1 : b < a
  · by_cases h2 : c < b
    · simp [strOfV, mkS_cps, h1, h2]; exact ⟨_, rfl⟩
    · simp [strOfV, mkS_cps, h1, h2]; exact ⟨_, rfl⟩
  · by_cases h2 : c < a
    · simp [strOfV, mkS_cps, h1, h2]; exact ⟨_, rfl⟩
    · simp [strOfV, mkS_cps, h1, h2]; exact ⟨_, rfl⟩
end
def min3D : D → D → D → Option D
  | .str a, .str b, .str c => some (.str (minS (minS a b) c))
  | _, _, _ => none
def eMin3 {G : Type} (fa fb fc : M G D) : M G D := M.bind fa fun x => M.bind fb fun y => M.bind fc fun z => M.lift (min3D x y z)
section
variable {X : Cx} {Z : Cn} {E : Ent Z.W} {Wx : WX} {a b c : Expr} {fa fb fc : M Z.W.G D} {p pos apos : Pos}
theorem minS_ok {x y : List Nat} (h1 : okS x) (h2 : okS y) : okS (minS x y) := by unfold minS; split <;> assumption
theorem de_min3 (hc : X.calm = true) (hg : Gl X "min") (hm : X.mg "min" = none) (ha : DE X Z E Wx a fa) (hb : DE X Z E Wx b fb) (hcc : DE X Z E Wx c fc) (hs : starEach [a, b, c] X.env = (false, eval a X.env) :: starEach [b, c] X.env := by rfl) (hs2 : starEach [b, c] X.env = (false, eval b X.env) :: starEach [c] X.env := by rfl) (hs3 : starEach [c] X.env = (false, eval c X.env) :: starEach [] X.env := by rfl) (hpl : (backTo pos (starEach [b, c] X.env)).any (·.1) = false := by rfl) :
    DE X Z E Wx (.Call (.Name "min" p) [a, b, c] [] pos) (eMin3 fa fb fc) := by
  refine PE.imp (pe_callB (call_min3S hc) hg hm bt_min (pa_cons ha (pa_cons hb (pa_cons hcc pa_nil hs3) hs2) hs) (by decide) (by decide) hs hpl) fun σ H Q ⟨Hf, g, sl, r, q⟩ => ⟨Hf, g, sl, r, (go_bind (Rm := RlD X.K) q).mono fun y H1 ⟨Hf1, g1, d, b1, d1, q1⟩ => ⟨Hf1, g1, sl, r.step b1, (go_bind (Rm := RlD X.K) q1).mono fun y2 H2 ⟨Hf2, g2, d', b2, d2, q2⟩ => ⟨Hf2, g2, sl, (r.step b1).step b2, (go_bind (Rm := RlD X.K) q2).mono fun y3 H3 ⟨Hf3, g3, d'', b3, d3, q3⟩ => ?_⟩⟩⟩
  obtain ⟨o, ed, k⟩ := go_lift q3
  match d, d', d'', ed, d1, d2, d3 with
  | .str i, .str j, .str l, ed, d1, d2, d3 =>
    cases ed
    obtain ⟨rfl, h1⟩ := dv_okS d1
    obtain ⟨rfl, h2⟩ := dv_okS d2
    obtain ⟨rfl, h3⟩ := dv_okS d3
    exact ⟨i, j, l, rfl, k _ _ _ b3.self (.str _ (minS_ok (minS_ok h1 h2) h3))⟩
/-! ### l.index(x), texts -/
def idxD (xs : List D) : D → Option D
  | .str s => (asSs xs).bind fun ss => if s ∈ ss then some (.int (ss.idxOf s : Nat)) else none
  | _ => none
theorem idx_first : ∀ (ss : List (List Nat)) (s : List Nat) (m : Nat), m < ss.idxOf s → ss[m]? ≠ some s
  | [], s, m, h, e => by simp at e
  | x :: ss, s, m, h, e => by
    rw [List.idxOf_cons] at h
    by_cases hx : x = s
    · subst hx; simp at h
    · have : (x == s) = false := by simpa using hx
      rw [this] at h
      cases m with
      | zero => simp at e; exact hx e
      | succ m => exact idx_first ss s m (by simpa using h) (by simpa using e)
def eIdx {G : Type} (fo fa : M G D) : M G D := M.bind fo fun d => match d with
  | .lst xs => M.bind fa fun y => M.lift (idxD xs y)
  | _ => M.lift none
theorem de_index {o : Expr} {fo : M Z.W.G D} (ho : DE X Z E Wx o fo) (ha : DE X Z E Wx a fa) (hst : starEach [a] X.env = (false, eval a X.env) :: starEach [] X.env := by rfl)
    (hbase : attributeBase o "index" X.env (eval o X.env) = eval o X.env := by rfl)
    (hfew : ((backTo pos (starEach [a] X.env)).all (fun x => !x.1) && (backToKw pos (keywordEach [] X.env)).all (fun x => x.1.isSome)
      && decide ([a].length + ([] : List Keyword).length + (if ([] : List Keyword).isEmpty then 0 else 1) < 30)) = true := by rfl)
    (hline : (apos.endLine == pos.line) = true := by rfl) (hplain : (backTo pos (starEach [] X.env)).any (·.1) = false := by rfl) :
    DE X Z E Wx (.Call (.Attribute o "index" apos) [a] [] pos) (eIdx fo fa) := by
  refine PE.imp (pe_bm PySem.F.plainAttrs_list PySem.F.slot_list_index PySem.F.type_list_index mt_index ho (pa_cons ha pa_nil hst) hbase hfew hline hst hplain) fun σ H Q ⟨Hf, g, sl, r, q⟩ => ⟨Hf, g, sl, r, (go_bind (Rm := RlD X.K) q).mono fun v H1 ⟨Hf1, g1, d, b1, d1, q1⟩ => ?_⟩
  cases d with
  | lst xs =>
    cases d1 with
    | lst h1 h2 =>
      refine ⟨.inl ⟨rfl, _, .inl (.inl (b1.fh _ _ h1))⟩, Hf1, g1, sl, r.step b1, (go_bind (Rm := RlD X.K) q1).mono fun y H2 ⟨Hf2, g2, d', b2, d2, q2⟩ => ?_⟩
      obtain ⟨oo, ed, k⟩ := go_lift q2
      match d', ed, d2 with
      | .str s, ed, d2 =>
        obtain ⟨rfl, hs⟩ := dv_okS d2
        unfold idxD at ed
        obtain ⟨ss, e1, e2⟩ := Option.bind_eq_some_iff.mp ed
        have := asSs_some e1
        subst this
        have hv := DvAll.strs h2
        subst hv
        split at e2
        · rename_i hm
          cases e2
          have hlt : ss.idxOf s < ss.length := List.idxOf_lt_length_of_mem hm
          refine ⟨_, _, _, ss.idxOf s, .str (mkS s), rfl, rfl, .inl (.inl (b2.fh _ _ (b2.ff _ _ h1))), rfl, ?_, ?_, ?_, fun m z' hm' hz => ?_, k _ _ _ b2.self (.int _)⟩
          · rw [List.all_map]; exact List.all_eq_true.mpr fun _ _ => rfl
          · rw [List.getElem?_map, List.getElem?_map, List.getElem?_eq_getElem hlt, List.getElem_idxOf hlt]; rfl
          · simp [eqV]
          · rw [List.getElem?_map, List.getElem?_map] at hz
            obtain ⟨x, hx, rfl⟩ := Option.map_eq_some_iff.mp hz
            obtain ⟨x', hx', rfl⟩ := Option.map_eq_some_iff.mp hx
            have hne : x' ≠ s := fun e => by
              subst e
              exact idx_first ss x' m hm' hx'
            have hne' : mkS x' ≠ mkS s := fun e => hne (mkS_inj e)
            simp [eqV, hne']
        · cases e2
  | _ => exact absurd q1 (by intro h; obtain ⟨_, e, _⟩ := go_lift h; cases e)
end
end DL
namespace DL
open PySem PySem.Spec PyProof.Rows L2
/-! ### t.index(x), t a tuple made right ahead of it -/
def TupAt (s : Shared) (p : Addr) : Prop := s.TypeIs (.ref p) "tuple" ∧ ∃ ob, s.heap.get? p = some ob ∧ ob.dict = none
def NmT (i : Nat) (s : Shared) (σ : L2.St) : Prop := ∃ p, σ[i]? = some (some (V.ref p)) ∧ TupAt s p
section
variable {X : Cx} {i : Nat}
def PEk (X : Cx) (i : Nat) (e : Expr) (t : TE) : Prop := ∀ (pins : List (Addr × Obj)) (s : Shared) (σ : L2.St) (H : Hp) (Q : VK), NmT i s σ → Inv X pins σ H s → t σ H Q → wpAny (model X.prog X.w) X.A (eval e X.env) (EP X pins σ Q) X.xe s
def PTk (X : Cx) (i : Nat) (e : Expr) (t : TT) : Prop := ∀ (pins : List (Addr × Obj)) (s : Shared) (σ : L2.St) (H : Hp) (Q : Bool → Hp → Prop), NmT i s σ → Inv X pins σ H s → t σ H Q → wpAny (model X.prog X.w) X.A (isTrue e X.env (eval e X.env)) (TP X pins σ Q) X.xe s
def PWk (X : Cx) (i : Nat) (e : Expr) (t : TT) : Prop := ∀ (whole : Sem Value) (pins : List (Addr × Obj)) (s : Shared) (σ : L2.St) (H : Hp) (Q : Bool → Hp → Prop), NmT i s σ → Inv X pins σ H s → t σ H Q → wpAny (model X.prog X.w) X.A (isTrue e X.env whole) (TP X pins σ Q) X.xe s
def PSk (X : Cx) (i : Nat) (st : Stmt) (t : TS) : Prop := ∀ (pins : List (Addr × Obj)) (s : Shared) (σ : L2.St) (H : Hp) (D : Ends), NmT i s σ → Inv X pins σ H s → t D σ H → wpAny (model X.prog X.w) X.A (exec st X.env) (SP X pins D) X.xe s
def PSsk (X : Cx) (i : Nat) (st : List Stmt) (t : TS) : Prop := ∀ (pins : List (Addr × Obj)) (s : Shared) (σ : L2.St) (H : Hp) (D : Ends), NmT i s σ → Inv X pins σ H s → t D σ H → wpAny (model X.prog X.w) X.A (execs st X.env) (SP X pins D) X.xe s
theorem PEk.imp {e : Expr} {t t' : TE} (h : PEk X i e t) (k : ∀ σ H Q, t' σ H Q → t σ H Q) : PEk X i e t' := fun pins s σ H Q n I q => h pins s σ H Q n I (k σ H Q q)
theorem PTk.imp {e : Expr} {t t' : TT} (h : PTk X i e t) (k : ∀ σ H Q, t' σ H Q → t σ H Q) : PTk X i e t' := fun pins s σ H Q n I q => h pins s σ H Q n I (k σ H Q q)
theorem PWk.imp {e : Expr} {t t' : TT} (h : PWk X i e t) (k : ∀ σ H Q, t' σ H Q → t σ H Q) : PWk X i e t' := fun w pins s σ H Q n I q => h w pins s σ H Q n I (k σ H Q q)
theorem PSk.imp {e : Stmt} {t t' : TS} (h : PSk X i e t) (k : ∀ D σ H, t' D σ H → t D σ H) : PSk X i e t' := fun pins s σ H D n I q => h pins s σ H D n I (k D σ H q)
theorem PSsk.imp {e : List Stmt} {t t' : TS} (h : PSsk X i e t) (k : ∀ D σ H, t' D σ H → t D σ H) : PSsk X i e t' := fun pins s σ H D n I q => h pins s σ H D n I (k D σ H q)
theorem PWk.pt {e : Expr} {t : TT} (h : PWk X i e t) : PTk X i e t := h _
theorem ld_var {pins : List (Addr × Obj)} {s : Shared} {σ : L2.St} {H : Hp} {x : Str} {v : V} {pos : Pos} {Q : Value → Shared → Prop} {E : Value → Shared → Prop} (I : Inv X pins σ H s) (hN : X.N[i]? = some x) (e : σ[i]? = some (some v)) (hv : Vis X.env.scope x) (h : ∀ u, RelV v u → Q u s)
    (hd : (x == ("__debug__" : Str)) = false) (hcd : (x == ("__classdict__" : Str)) = false) : wpAny (model X.prog X.w) X.A (eval (.Name x pos) X.env) Q E s := by
  obtain ⟨m, hn, hl⟩ := I.loc
  obtain ⟨u, r, l⟩ := hl i x v hN e hv
  have fin : Q u s := h u r
  rcases l with ⟨hk, hm⟩ | ⟨hk, c, hc, hcell⟩
  · exact wpAny_Name (wpAny_loadName_local I.ok.kind hk hn hm fin) hd
  · rcases hk with hk | hk
    · exact wpAny_Name (wpAny_loadName_cell I.ok.kind hk hc hcell fin) hd
    · exact wpAny_Name (wpAny_loadName_free I.ok.kind hk hc hcell fin hcd) hd
def rTIx (K : PySem.W.Frag) (x : V) (xs : List V) (H : Hp) (Q : VK) : Prop := ∃ p, ∃ ys : List Str, ∃ z j, x = .ref p ∧ xs = [.str z] ∧ SqT K H p (ys.map V.str) ∧ ys[j]? = some z ∧ (∀ m, m < j → ys[m]? ≠ some z) ∧ Q (.int (j : Nat)) H
theorem pek_index {x : Str} {a : Expr} {ta : TA} {npos apos pos : Pos} (hN : X.N[i]? = some x) (hv : Vis X.env.scope x) (ha : PA X [a] ta) (hst : starEach [a] X.env = (false, eval a X.env) :: starEach [] X.env)
    (hbase : attributeBase (.Name x npos) "index" X.env (eval (.Name x npos) X.env) = eval (.Name x npos) X.env)
    (hfew : ((backTo pos (starEach [a] X.env)).all (fun x => !x.1) && (backToKw pos (keywordEach [] X.env)).all (fun x => x.1.isSome)
      && decide ([a].length + ([] : List Keyword).length + (if ([] : List Keyword).isEmpty then 0 else 1) < 30)) = true)
    (hline : (apos.endLine == pos.line) = true) (hplain : (backTo pos (starEach [] X.env)).any (·.1) = false) (hd : (x == ("__debug__" : Str)) = false) (hcd : (x == ("__classdict__" : Str)) = false) :
    PEk X i (.Call (.Attribute (.Name x npos) "index" apos) [a] [] pos) (fun σ H Q => ta σ H fun xs H2 => ∃ v, σ[i]? = some (some v) ∧ rTIx X.K v xs H2 Q) := by
  intro pins s σ H Q ⟨p, hp, h1, h2⟩ I q
  refine wpAny_Call_method_late hbase hfew hline rfl (ld_var I hN hp hv (fun u r => ?_) hd hcd)
  cases r
  refine ⟨"tuple", "tuple.index", PySem.F.plainAttrs_tuple, PySem.F.slot_tuple_index, PySem.F.type_tuple_index, h1, (fun a e => by cases e; exact h2), ?_⟩
  have hA := ha.run pos pins s σ H _ I q
  rw [hst] at hA ⊢
  refine Calls.callWith_builtin (by show (false || (backTo pos (starEach [] X.env)).any (·.1)) = false; rw [hplain] <;> rfl) (Calls.evalArgs_plain ?_)
  refine thn hA fun us s2 ⟨vs, H2, I2, r2, v, hv', q2⟩ => ?_
  rw [hp] at hv'
  cases hv'
  exact mt_tup_index pins s2 σ H2 (.ref p) vs (.ref p) us Q I2 rfl r2 q2
theorem ptk_cmpR {a b : Expr} {ta tb : TE} {pos : Pos} {op : CmpOp} {r : R2} (ho : OpR X (compareOp op) r) (ha : PEk X i a ta) (hb : PE X b tb) (hm : behindInMarks op b = false) : PTk X i (.Compare a [op] [b] pos) (tTest (tOp r ta tb)) := by
  intro pins s σ H Q n I h
  refine wpAny_isTrue_Compare1 (thn (ha pins s σ H _ n I h) fun v s1 ⟨x, H1, I1, r1, q1⟩ => thn (hb.run pins s1 σ H1 _ I1 q1) fun u s2 ⟨y, H2, I2, r2, q2⟩ =>
    thn (ho pins s2 σ H2 x y v u _ I2 r1 r2 q2) fun c s3 ⟨z, H3, I3, r3, k, e, q3⟩ => ?_) hm
  subst e
  cases r3
  exact wpAny_truthy_bool ⟨H3, I3, q3⟩
theorem pwk_or {a b : Expr} {rest : List Expr} {pos : Pos} {tA tB' : TT} (ha : PTk X i a tA) (hb : PW X (.BoolOp .Or (b :: rest) pos) tB') : PWk X i (.BoolOp .Or (a :: b :: rest) pos) (tOr tA tB') := by
  intro wh pins s σ H Q n I h
  refine isTrue_or (thn (ha pins s σ H _ n I h) fun c s1 ⟨H1, I1, q1⟩ => ?_)
  cases c with
  | true => exact ⟨H1, I1, q1⟩
  | false => exact hb.run wh pins s1 σ H1 Q I1 q1
theorem psk_if {c : Expr} {a b : List Stmt} {tc : TT} {t u : TS} {pos : Pos} (hc : PTk X i c tc) (ha : PSs X a t) (hb : PSs X b u) : PSk X i (.If c a b pos) (tIfS tc t u) := by
  intro pins s σ H D n I h
  refine wpAny_If (thn (hc pins s σ H _ n I h) fun d s1 ⟨H1, I1, q1⟩ => ?_)
  cases d with
  | true => exact ha.run pins s1 σ H1 D I1 q1
  | false => exact hb.run pins s1 σ H1 D I1 q1
theorem pssk_cons {st : Stmt} {rest : List Stmt} {t u : TS} (h1 : PSk X i st t) (h2 : PSs X rest u) : PSsk X i (st :: rest) (tSeq t u) := by
  intro pins s σ H D n I h
  refine wpAny_execs_cons (thn (h1 pins s σ H _ n I h) fun f s1 q => ?_)
  cases f with
  | next => obtain ⟨σ', H', I', q'⟩ := q; exact h2.run pins s1 σ' H' D I' q'
  | brk => exact q
  | cont => exact q
  | ret u => exact q
/-- x = tuple(l), l a list: behind it the tuple is known to be one -/
theorem pss_tupK {x : Str} {e : Expr} {es : TA} {p pos' cpos pos : Pos} {rest : List Stmt} {u : TS} (hg : Gl X "tuple") (hm : X.mg "tuple" = none) (hN : X.N.Nodup) (hi : X.N[i]? = some x) (hx : Loc X.env.scope x) (he : PA X [e] es) (h2 : PSsk X i rest u)
    (hst : starEach [e] X.env = (false, eval e X.env) :: starEach [] X.env) (hpl : (backTo cpos (starEach [] X.env)).any (·.1) = false) (hs : swapsWith (.Call (.Name "tuple" p) [e] [] cpos) (some (.Name x pos')) pos.line X.env = pure false)
    (hf : X.fn x = true ∨ X.env.scope.names.lookup x = some .local) : PSs X (.Assign [.Name x pos'] (.Call (.Name "tuple" p) [e] [] cpos) pos :: rest) (fun D σ H => es σ H fun xs H1 => ∃ q ys, xs = [.ref q] ∧ SqL X.K H1 q ys ∧ ∀ l, H1 l = none → u D (σ.set i (some (.ref l))) (upd H1 l (.tup ys))) := by
  refine ⟨fun pins s σ H D I h => ?_⟩
  refine wpAny_execs_cons (wpAny_Assign_Name ?_ hs)
  refine wpAny_Call_Name_kw (ld_blt I hg hm bt_tuple ?_ (by decide) (by decide))
  refine PyProof.Rows.callWith_type1 (thn (he.run cpos pins s σ H _ I h) fun us s1 ⟨vs, H1, I1, r1, q1⟩ => ?_) hst hpl
  obtain ⟨q, ys, rfl, hq, k⟩ := q1
  obtain ⟨uu, rfl, rx⟩ := vals1 r1
  cases rx
  obtain ⟨its, r', pl, hz⟩ := I1.list hq
  have hlen := r'.length
  refine call_tuple_list pl.isList (fun h' kp => ?_) (by simp only [List.size_toArray] <;> omega)
  have I2 : Inv X pins σ H1 { s1 with heap := h' } := I1.kept (t' := s1.toks) kp
  have I3 : Inv X pins σ (upd H1 h'.objs.size (.tup ys)) { s1 with heap := h'.push { cls := .type "tuple", data := .seq its.toArray } } :=
    I2.laid (t' := s1.toks) (fun b o e => Heap.get?_push_of_some _ e) (Nat.le_refl _) (show ObjOk X.prog X.w _ _ _ (.tup ys) from ⟨hz, its, r', IsTup.new _ _⟩)
  refine store_ok2 (v := .ref h'.objs.size) I3 hN hi hx rfl (fun s4 I4 ⟨a, sb, hb⟩ => ?_) hf
  have hne : h'.objs.size ≠ a := fun z => by
    have hsome : (upd H1 h'.objs.size (.tup ys)) h'.objs.size = some (.tup ys) := upd_same
    rcases hb with e | e
    · rw [z, e] at hsome
      have := I4.free
      rw [z, e] at this
      rw [hsome] at this
      cases this
    · have := I4.freeC x a e
      rw [z] at hsome this
      rw [hsome] at this
      cases this
  have hget : s4.heap.get? h'.objs.size = some { cls := .type "tuple", data := .seq its.toArray } := by
    rw [sb.2 _ hne]; exact Heap.get?_push_size _ rfl
  refine h2 pins s4 _ _ D ⟨h'.objs.size, ?_, ⟨_, hget, rfl⟩, ⟨_, hget, rfl⟩⟩ I4 (k _ (I2.hok.fresh (Nat.le_refl _)))
  have hlt : i < σ.length := by rw [I3.len]; exact (List.getElem?_eq_some_iff.mp hi).1
  simp [hlt]
end
end DL
namespace DL
open PySem PySem.Spec PyProof.Rows L2
def eIdxT {G : Type} (i : Nat) (fa : M G D) : M G D := fun sl g => match sl[i]? with
  | some (some (.d (.tup xs))) => M.bind fa (fun y => M.lift (idxD xs y)) sl g
  | _ => none
def tupLD : D → Option D
  | .lst s => some (.tup s)
  | _ => none
section
variable {X : Cx} {Z : Cn} {E : Ent Z.W} {Wx : WX} {a b c e : Expr} {fa fb fe : M Z.W.G D} {ft fu : M Z.W.G Bool} {fs fs' : SM Z.W.G} {st : Stmt} {sts : List Stmt} {p npos pos apos : Pos} {i : Nat}
abbrev DEk (X : Cx) (Z : Cn) (E : Ent Z.W) (Wx : WX) (i : Nat) (e : Expr) (f : M Z.W.G D) : Prop := PEk X i e (tG Z X.K E (RlD X.K) Wx f)
abbrev DRk (X : Cx) (Z : Cn) (E : Ent Z.W) (Wx : WX) (i : Nat) (e : Expr) (f : M Z.W.G D) : Prop := PEk X i e (tG Z X.K E (RlR X.K) Wx f)
abbrev DTk (X : Cx) (Z : Cn) (E : Ent Z.W) (Wx : WX) (i : Nat) (e : Expr) (f : M Z.W.G Bool) : Prop := PTk X i e (tG Z X.K E RlB Wx f)
abbrev DWk (X : Cx) (Z : Cn) (E : Ent Z.W) (Wx : WX) (i : Nat) (e : Expr) (f : M Z.W.G Bool) : Prop := PWk X i e (tG Z X.K E RlB Wx f)
abbrev DSk (X : Cx) (Z : Cn) (E : Ent Z.W) (Wx : WX) (i : Nat) (st : Stmt) (f : SM Z.W.G) : Prop := PSk X i st (tS Z X.K E Wx f)
abbrev DSsk (X : Cx) (Z : Cn) (E : Ent Z.W) (Wx : WX) (i : Nat) (st : List Stmt) (f : SM Z.W.G) : Prop := PSsk X i st (tS Z X.K E Wx f)
theorem drk_index {x : Str} (ha : DE X Z E Wx a fa) (hN : X.N[i]? = some x := by rfl) (hv : Vis X.env.scope x := by first | exact Or.inl rfl | exact Or.inr (Or.inl rfl) | exact Or.inr (Or.inr rfl)) (hst : starEach [a] X.env = (false, eval a X.env) :: starEach [] X.env := by rfl)
    (hbase : attributeBase (.Name x npos) "index" X.env (eval (.Name x npos) X.env) = eval (.Name x npos) X.env := by rfl)
    (hfew : ((backTo pos (starEach [a] X.env)).all (fun x => !x.1) && (backToKw pos (keywordEach [] X.env)).all (fun x => x.1.isSome)
      && decide ([a].length + ([] : List Keyword).length + (if ([] : List Keyword).isEmpty then 0 else 1) < 30)) = true := by rfl)
    (hline : (apos.endLine == pos.line) = true := by rfl) (hplain : (backTo pos (starEach [] X.env)).any (·.1) = false := by rfl) (hd : (x == ("__debug__" : Str)) = false := by decide) (hcd : (x == ("__classdict__" : Str)) = false := by decide) :
    DRk X Z E Wx i (.Call (.Attribute (.Name x npos) "index" apos) [a] [] pos) (eIdxT i fa) := by
  refine PEk.imp (pek_index hN hv (pa_cons ha pa_nil hst) hst hbase hfew hline hplain hd hcd) fun σ H Q ⟨Hf, g, sl, r, q⟩ => ⟨Hf, g, sl, r, ?_⟩
  unfold eIdxT at q
  split at q
  · rename_i xs hsl
    obtain ⟨v, h1, h2⟩ := r.slot i _ hsl
    refine (go_bind (Rm := RlD X.K) q).mono fun y H2 ⟨Hf2, g2, d', b2, d2, q2⟩ => ?_
    obtain ⟨oo, ed, k⟩ := go_lift q2
    have h2 : Dv X.K Hf v (.tup xs) := h2
    cases h2 with
    | tup hh1 hh2 =>
      match d', ed, d2 with
      | .str s, ed, d2 =>
        obtain ⟨rfl, hs⟩ := dv_okS d2
        unfold idxD at ed
        obtain ⟨ss, e1, e2⟩ := Option.bind_eq_some_iff.mp ed
        have := asSs_some e1
        subst this
        have hv' := DvAll.strs hh2
        subst hv'
        split at e2
        · rename_i hm
          cases e2
          have hlt : ss.idxOf s < ss.length := List.idxOf_lt_length_of_mem hm
          refine ⟨_, h1, _, ss.map mkS, mkS s, ss.idxOf s, rfl, rfl, .inl (b2.rd (Same.rd b2.ff hh1)), ?_, fun m hm' hz => ?_, k _ _ _ b2.self (.inl (.int _))⟩
          · rw [List.getElem?_map, List.getElem?_eq_getElem hlt, List.getElem_idxOf hlt]; rfl
          · rw [List.getElem?_map] at hz
            obtain ⟨x', hx', hxe⟩ := Option.map_eq_some_iff.mp hz
            have := mkS_inj hxe
            subst this
            exact idx_first ss x' m hm' hx'
        · cases e2
  · exact q.elim
theorem dtk_cmp {o : CmpOp} {op : D → D → Option D} (ho : OpD X (compareOp o) op) (ha : DRk X Z E Wx i a fa) (hb : DR X Z E Wx b fb) (hm : behindInMarks o b = false := by rfl) : DTk X Z E Wx i (.Compare a [o] [b] pos) (tV (e2 op fa fb)) := by
  obtain ⟨r, hr, k⟩ := ho
  exact PTk.imp (ptk_cmpR hr ha hb hm) fun σ H Q h => tTest_of h fun Q' q => op_run k q
theorem dwk_or {rest : List Expr} (ha : DTk X Z E Wx i a ft) (hb : DW X Z E Wx (.BoolOp .Or (b :: rest) pos) fu) : DWk X Z E Wx i (.BoolOp .Or (a :: b :: rest) pos) (tOrM ft fu) := by
  refine PWk.imp (pwk_or ha hb) fun σ H Q ⟨Hf, g, sl, r, q⟩ => ⟨Hf, g, sl, r, (go_bind (Rm := RlB) q).mono fun x H1 ⟨Hf1, g1, c, b1, e1, q1⟩ => ?_⟩
  cases e1
  cases x with
  | true => rw [if_pos rfl] at q1 ⊢; exact q1 _ _ _ b1.self rfl
  | false => rw [if_neg (by decide)] at q1 ⊢; exact ⟨Hf1, g1, sl, r.step b1, q1⟩
theorem dsk_if {ca cb : List Stmt} (hc : DTk X Z E Wx i c ft) (ha : DSs X Z E Wx ca fs) (hb : DSs X Z E Wx cb fs') : DSk X Z E Wx i (.If c ca cb pos) (sIf ft fs fs') := by
  refine PSk.imp (psk_if hc ha hb) fun D σ H ⟨Hf, g, sl, r, q⟩ => ⟨Hf, g, sl, r, (goS_do (Rl := RlB) r q).mono fun v H1 ⟨Hf1, g1, k, b1, r1, e1, q1⟩ => ?_⟩
  cases e1
  cases v with
  | true => rw [if_pos rfl] at q1 ⊢; exact ⟨Hf1, g1, sl, r1, q1⟩
  | false => rw [if_neg (by decide)] at q1 ⊢; exact ⟨Hf1, g1, sl, r1, q1⟩
theorem dssk_cons (h1 : DSk X Z E Wx i st fs) (h2 : DSs X Z E Wx sts fs') : DSsk X Z E Wx i (st :: sts) (sSeq fs fs') :=
  PSsk.imp (pssk_cons h1 h2) fun D σ H ⟨Hf, g, sl, r, q⟩ => ⟨Hf, g, sl, r, goS_seq q⟩
theorem dss_tupK {x : Str} {pos' cpos : Pos} (hg : Gl X "tuple") (hm : X.mg "tuple" = none) (hN : X.N.Nodup) (hi : X.N[i]? = some x) (hx : Loc X.env.scope x) (he : DE X Z E Wx e fe) (h2 : DSsk X Z E Wx i sts fs')
    (hst : starEach [e] X.env = (false, eval e X.env) :: starEach [] X.env := by rfl) (hpl : (backTo cpos (starEach [] X.env)).any (·.1) = false := by rfl) (hs : swapsWith (.Call (.Name "tuple" p) [e] [] cpos) (some (.Name x pos')) pos.line X.env = pure false := by rfl)
    (hf : X.fn x = true ∨ X.env.scope.names.lookup x = some .local := by first | exact .inl rfl | exact .inr rfl | assumption) :
    DSs X Z E Wx (.Assign [.Name x pos'] (.Call (.Name "tuple" p) [e] [] cpos) pos :: sts) (sSeq (sAsg i (xD (e1 tupLD fe))) fs') := by
  refine PSs.imp (pss_tupK hg hm hN hi hx (pa_cons he pa_nil hst) h2 hst hpl hs hf) fun D σ H ⟨Hf, g, sl, r, q⟩ => ⟨Hf, g, sl, r, (go_bind (Rm := RlD X.K) (go_bind (Rm := RlD X.K) (goS_do (Rl := RlX X.K E H) r (goS_seq q)))).mono fun v H1 ⟨Hf1, g1, d, b1, d1, q3⟩ => ?_⟩
  obtain ⟨o, ed, k⟩ := go_lift q3
  match d, ed, d1 with
  | .lst ys, ed, d1 =>
    cases ed
    have d1' : Dv X.K Hf1 v (.lst ys) := d1
    cases d1' with
    | @lst q' vs _ hh1 hh2 =>
      refine ⟨q', vs, rfl, .inl (.inl (b1.fh _ _ hh1)), fun l hl => ?_⟩
      obtain ⟨Hf2, g2, d2, b2, dd2, q4⟩ := k (.ref l) _ _ (b1.self.alloc (.tup vs) hl) (.tup (.inl upd_same) (DvAll.mono (same_new (b1.hn hl)) _ hh2))
      obtain ⟨Hf3, g3, s3, b3, r3, d3, q5⟩ := q4 _ _ _ b2.self ⟨dd2, fun z => by cases z⟩
      exact q5 _ _ Hf3 (same_refl _) (R.set_new r r3 d3)
end
end DL
namespace L2
open PySem PySem.Spec PyProof.Rows
section
variable {X : Cx}
/-- sorted(t), t a tuple of texts -/
def rSortedTS (K : PySem.W.Frag) : List V → Hp → VK → Prop := fun vs H Q => ∃ (a : Addr) (xs : List Str), vs = [V.ref a] ∧ SqT K H a (xs.map V.str) ∧
  ∀ (ys : List Str) (p : Addr), ys.Perm xs → sortedS ys = true → H p = none → Q (.ref p) (upd H p (.lst (ys.map V.str)))
theorem cr_sortedTS : CallR X (.builtin "sorted") (rSortedTS X.K) := by
  intro pins s σ H vs us Q I r h
  obtain ⟨a, xs, rfl, hs, q⟩ := h
  obtain ⟨its, rv, ht, hz⟩ := I.tuple hs
  rw [Vals.ref1 r]
  have hi := rv.strs
  have hlen := rv.length
  refine Calls.call_function_entry kind_sorted plain_sorted entry_sorted (args_sorted1 _) ?_
  unfold Builtin.«sorted»
  refine wpAny_bind (m := checkCount "sorted" 1 1 _) (wpAny_pure (wpAny_bind (collect_tup ht (by rw [← hlen]; exact hz) fun h' k hsz => ?_)))
  have I1 : Inv X pins σ H { s with heap := h' } := I.kept (t' := s.toks) k
  refine wpAny_bind (wpAny_newList ?_ (by rw [← hlen]; exact hz))
  have hL : (h'.push (seqObj "list" its.toArray 0)).get? h'.objs.size = some (seqObj "list" its.toArray 0) := Heap.get?_push_size _ rfl
  refine wpAny_bind (wpAny_holding (wpAny_call_entry slot_list_sort ⟨_, hL, rfl⟩ entry_list_sort
    (list_sort_treeKAny strKind_oneLt (s := { s with heap := h'.push (seqObj "list" its.toArray 0) }) hL hi.keysOf (fun v₁ v₂ rest e => keyKind_strs (by rw [← e]; exact hi)) (by rw [← hlen]; exact hz) fun st' hp hs' => ⟨_, rfl, ?_⟩) (args_list_sort _)))
  obtain ⟨ys, a1, a2, a3⟩ := sorted_out_str hi hp hs'
  obtain ⟨e', he'⟩ := sortedHeap_at (vs := its) (out := _) hL
  have lenY : (ys.map V.str).length ≤ sizeLine := by
    rw [List.length_map, a2.length_eq]
    rw [List.length_map] at hz
    exact hz
  refine wpAny_pure ⟨_, rfl, .ref h'.objs.size, upd H h'.objs.size (.lst (ys.map V.str)), I1.laid (t' := s.toks) (fun b u e => ?_) (Nat.le_refl _)
    (show ObjOk X.prog X.w _ _ _ (.lst (ys.map V.str)) from ⟨lenY, _, e', vals_of_strs a1, by rw [Array.toArray_toList]; exact he'⟩), rfl, q ys _ a2 a3 (I1.hok.fresh (Nat.le_refl _))⟩
  have hb : b < h'.objs.size := Heap.lt_size e
  rw [sortedHeap_old (Nat.ne_of_lt hb) (by rw [size_push']; exact Nat.lt_succ_of_lt hb)]
  exact Heap.get?_push_of_some _ e
end
end L2
namespace DL
open PySem PySem.Spec PyProof.Rows L2
def sortTSD : D → Option D
  | .tup xs => (asSs xs).map fun ss => .lst ((sortG leS ss).map D.str)
  | _ => none
theorem c_sortTS {X : Cx} : C1 X (.builtin "sorted") sortTSD := by
  refine ⟨_, cr_sortedTS, fun W H Hf g x a d Q B ha ed k => ?_⟩
  match a, ed, ha with
  | .tup xs, ed, ha =>
    obtain ⟨ss, e1, rfl⟩ := Option.map_eq_some_iff.mp ed
    obtain rfl := asSs_some e1
    obtain ⟨p, vs, rfl, h1, h2⟩ := ha.tup
    have hvs := h2.strs
    subst hvs
    have oks := h2.oks
    refine ⟨p, ss.map mkS, rfl, (.inl (B.rd h1)), fun ys q pm po hq => ?_⟩
    rw [sortS_uniq pm po]
    exact k _ _ _ (B.alloc (.lst (((sortG leS ss).map mkS).map V.str)) hq) (.lst upd_same (DvAll.ofStrs _ fun s hs => oks s ((sortG_perm leS ss).mem_iff.mp hs)))
end DL
namespace DL
open PySem PySem.Spec PyProof.Rows L2 LamX
/-! ### a lambda that is made: the one table grows, or nothing -/
def TabStep (H H1 : Hp) (P : Addr) (q : Str) (c : Addr) : Prop :=
  (H1 = H ∧ ∃ (ps : Array Value) (pos : Pos), H P = some (.tbl ps) ∧ codeAmong pos ps.toList = some (.ref c)) ∨
  ∃ (ps ps' : Array Value), H P = some (.tbl ps) ∧ H c = none ∧ TriplesOk ps'.toList ∧ (∀ pos cv, codeAmong pos ps'.toList = some cv → codeAmong pos ps.toList = some cv ∨ cv = .ref c) ∧ H1 = upd (upd H P (.tbl ps')) c (CodeO c q)
/-- the def that calls what it got: a calls it; TT: what it makes of the lambda's reading -/
def Gives3 (X : Cx) (Ng : List Str) (x : Str) (sg : Scope) (g : Addr) (cdg : Value) (bg : List Stmt) (a : Str) (q : Str) (TT : Addr → (XK → Hp → VK → Prop) → Hp → VK → Prop) : Prop :=
  ∀ (f c' : Addr) (s : Shared) (H : Hp) (Q : VK) (tl : XK → Hp → VK → Prop), Room 1 (X.A.deeper (envOfC x sg s.heap.objs.size g cdg)) →
    (∀ (W : WX) (pn : List (Addr × Obj)) (xe : Value → Shared → Prop) (p1 p2 : Pos), Takes ((cxOf C8.CX0 X.prog X.w X.K X.mg X.base Ng x sg g cdg X.A X.stack s H C8.E0).tr pn xe) W →
      PE ((cxOf C8.CX0 X.prog X.w X.K X.mg X.base Ng x sg g cdg X.A X.stack s H C8.E0).tr pn xe) (.Call (.Name a p1) [] [] p2) (fun σZ HZ Q => σZ[0]? = some (some (.ref f)) ∧ HZ c' = some (CodeO c' q) ∧ tl (fun cls d H' => W cls d σZ H') HZ Q)) →
    H c' = some (CodeO c' q) → TT c' tl H Q →
    ∃ t, PSs (cxOf C8.CX0 X.prog X.w X.K X.mg X.base Ng x sg g cdg X.A X.stack s H C8.E0).nox bg t ∧ t { nx := fun _ H' => Q .non H', rt := Q } (L2.start Ng [.ref f]) H
section
variable {X : Cx} {pins : List (Addr × Obj)} {σ : L2.St} {H : Hp} {s : Shared}
theorem lam_make3 {c P : Addr} {params : Arguments} {body : Expr} {scope : Scope} {pos : Pos} {E : Value → Shared → Prop} {Q : Value → Shared → Prop} (I : Inv X pins σ H s) (TB : TabB X.base X.mg c P) (hcode : X.env.code = .ref c)
    (hT : TabS H P (X.env.qual ++ "<lambda>")) (hdef : defaultsOf params X.env = ([], [])) (hfree : ∀ y ∈ scope.names, y.2 = .free → ∃ c, X.env.cells.lookup y.1 = some c)
    (h : ∀ (f c' : Addr) (pm ctv : Value) (H1 : Hp) (s' : Shared), Inv X pins σ H1 s' → TabStep H H1 P (X.env.qual ++ "<lambda>") c' → TabS H1 P (X.env.qual ++ "<lambda>") →
      s'.heap.get? f = some (PySem.W.kla_obj "<lambda>" (X.env.qual ++ "<lambda>") params body scope (cloFrom X.env.cells scope.names []) pm c' ctv) → H1 f = none → f ∉ frs X.stack → H1 c' = some (CodeO c' (X.env.qual ++ "<lambda>")) → Q (.ref f) s') :
    wpAny (model X.prog X.w) X.A (eval (.Lambda params body scope pos) X.env) Q E s := by
  obtain ⟨ps, hP, ht, ha⟩ := hT
  have bP : s.heap.BuiltinsAt X.mg P := TB.bm.keeps I.bk
  have oP : s.heap.get? P = some { cls := .none, data := .fields ps } := I.hok P _ hP
  have out : ∀ f, s.heap.objs.size ≤ f → f ∉ frs X.stack := fun f hf z => by
    rcases List.mem_cons.mp (I.stkSub _ z) with e | e
    · have h1 := I.lt
      rw [← e] at h1
      exact absurd h1 (Nat.not_lt.mpr hf)
    · exact I.nofs hf e
  refine PySem.W.kla_eval hdef ?_
  cases hc : codeAmong pos ps.toList with
  | some cv =>
    obtain ⟨c', rfl, hco⟩ := ha pos cv hc
    refine PySem.W.kla_makeFunctionHit (mg := X.mg) (c := c) (P := P) (ps := ps) (closure_ok hfree) I.ok.glob (I.mod.glob.keeps I.bk) hcode (TB.code.keeps I.bk) oP ht hc bP fun ctv h' tk hx hsz => ?_
    exact h h'.objs.size c' _ ctv H _ (I.kept fun b o e => Heap.get?_push_of_some _ (hx b o e)) (.inl ⟨rfl, ps, pos, hP, hc⟩) ⟨ps, hP, ht, ha⟩ (Heap.get?_push_size _ rfl) (I.hok.fresh hsz) (out _ hsz) hco
  | none =>
    refine PySem.W.kla_makeFunction (mg := X.mg) (c := c) (P := P) (ps := ps) (closure_ok hfree) I.ok.glob (I.mod.glob.keeps I.bk) hcode (TB.code.keeps I.bk) oP ht hc TB.gP bP fun c' ctv h' tk hx hge hlt hrec htb => ?_
    obtain ⟨c2, oc, vs, t, e2, hoc, hd, hv⟩ := hrec
    cases e2
    have hsz : s.heap.objs.size ≤ h'.objs.size := Nat.le_trans hge (Nat.le_of_lt hlt)
    have nC : H c' = none := I.hok.fresh hge
    have nPc : P ≠ c' := ne_of_none hP nC
    refine h h'.objs.size c' _ ctv _ _ (inv_table (t' := tk) (more := #[rawInt pos.line, rawInt pos.col, .ref c']) I hP (fun b o hb e => Heap.get?_push_of_some _ (hx b o hb e)) (Heap.get?_push_of_some _ htb) hge ⟨oc, vs, t, Heap.get?_push_of_some _ hoc, hd, hv⟩)
      (.inr ⟨ps, _, hP, nC, by rw [Array.toList_append]; exact PySem.TriplesOk_snoc _ _ _ _ ht, fun p' cv hcv => by rw [Array.toList_append] at hcv; exact among_app _ ht hcv, rfl⟩) ⟨ps ++ #[rawInt pos.line, rawInt pos.col, .ref c'], by rw [upd_ne nPc, upd_same], ?_, fun p' cv hcv => ?_⟩ (Heap.get?_push_size _ rfl) ?_ (out _ hsz) upd_same
    · rw [Array.toList_append]; exact PySem.TriplesOk_snoc _ _ _ _ ht
    · rw [Array.toList_append] at hcv
      rcases among_app _ ht hcv with z | z
      · obtain ⟨c0, e1, e2⟩ := ha p' cv z
        have n0 : c0 ≠ c' := ne_of_none e2 nC
        have n1 : c0 ≠ P := fun w => by
          rw [w, hP] at e2
          exact codeO_ne ps (Option.some.inj e2).symm
        exact ⟨c0, e1, by rw [upd_ne n0, upd_ne n1]; exact e2⟩
      · exact ⟨c', z, upd_same⟩
    · have n1 : h'.objs.size ≠ c' := Nat.ne_of_gt hlt
      have n2 : h'.objs.size ≠ P := Nat.ne_of_gt (Nat.lt_of_lt_of_le (Heap.lt_size oP) hsz)
      rw [upd_ne n1, upd_ne n2]
      exact I.hok.fresh hsz
end
/-- a(), in the def that got the lambda; what it raises is asked at that very place -/
theorem pe_act3 {CXg : CXT} {Eg : XK} {Ng : List Str} {qg : Str} {sg : Scope} {g f c' : Addr} {cdg pm ctv : Value} {params : Arguments} {body : Expr} {scope : Scope} {k i : Nat} {a : Str} {pn : List (Addr × Obj)} {xe : Value → Shared → Prop} {W : WX} {tb : XK → TE} {p1 p2 : Pos} {X : Cx} {pins : List (Addr × Obj)} {σ : L2.St} {H : Hp} {s : Shared}
    (I : Inv X pins σ H s) (L : LamS X.env.scope scope) (hf : s.heap.get? f = some (PySem.W.kla_obj "<lambda>" (X.env.qual ++ "<lambda>") params body scope (cloFrom X.env.cells scope.names []) pm c' ctv)) (hfn : H f = none) (hfr : f ∉ frs X.stack)
    (hbind : bindArgs (PySem.W.kla_fn "<lambda>" (X.env.qual ++ "<lambda>") params body scope (cloFrom X.env.cells scope.names []) pm (.ref c') ctv) ⟨[], []⟩ = pure [])
    (tk : Takes ((cxOf CXg X.prog X.w X.K X.mg X.base Ng qg sg g cdg X.A X.stack s H Eg).tr pn xe) W) (hr : Room (k + 1) (X.A.deeper (envOfC qg sg s.heap.objs.size g cdg)))
    (hbody : ∀ (A : Around) (outer : List Env) (s : Shared) (H : Hp) (E : XK), Room k (A.deeper (lamEnv X scope s.heap.objs.size f c')) → PE (lamCx X A outer s H E scope f c') body (tb E))
    (hN : Ng[i]? = some a) (hv : Vis sg a) (hd : (a == ("__debug__" : Str)) = false) (hcd : (a == ("__classdict__" : Str)) = false) :
    PE ((cxOf CXg X.prog X.w X.K X.mg X.base Ng qg sg g cdg X.A X.stack s H Eg).tr pn xe) (.Call (.Name a p1) [] [] p2)
      (fun σZ HZ Q => σZ[i]? = some (some (.ref f)) ∧ HZ c' = some (CodeO c' (X.env.qual ++ "<lambda>")) ∧ tb (fun cls d H' => W cls d σZ H') σ HZ Q) := by
  refine ⟨fun pinsZ sZ σZ HZ Q IZ ⟨hs, hc, ht⟩ => ?_⟩
  refine wpAny_Call_Name_kw (ld_var (i := i) IZ hN hs hv (fun u ru => ?_) hd hcd)
  cases ru
  have of1 : sZ.heap.get? f = some (PySem.W.kla_obj "<lambda>" (X.env.qual ++ "<lambda>") params body scope (cloFrom X.env.cells scope.names []) pm c' ctv) := IZ.base.keep f _ hf hfn hfr (fun z => nomatch (show f ∈ ([] : List Addr) from z))
  refine PySem.W.callWith_F0 ⟨_, _, _, _, of1⟩ ?_
  have un : Un (frs X.stack) [] H HZ s.heap sZ.heap := IZ.base
  obtain ⟨⟨oc, vs, t, hoc, hdc, hvc⟩, _, _⟩ := IZ.hok c' _ hc
  have rc : codeAny (model X.prog X.w) (X.A.deeper (envOfC qg sg s.heap.objs.size g cdg)) (.call (.ref f) ⟨[], []⟩) (CR (L2.CX X.prog X.w) (envOfC qg sg s.heap.objs.size g cdg :: X.stack) X.prog X.w HZ sZ Q (WE W σZ)) sZ := by
    refine PySem.W.kla_callFunE hr.depth of1 rfl L.co L.gen rfl ⟨c', oc, vs, t, rfl, hoc, hdc, hvc⟩ ?_
    rw [hbind]
    refine wpAny_pure (wpAny_newFunctionEnv (fun y hy => (L.own y hy).2) (fun y hy => absurd hy (by simp)) (fun h₁ hns hsb => ⟨IZ.nolimit.fresh _ hsb, ?_⟩) L.kind)
    show codeAny _ _ (.expr body (lamEnv X scope sZ.heap.objs.size f c')) _ _
    have kp : ∀ b o, sZ.heap.get? b = some o → h₁.get? b = some o := fun b o e => hsb.extBut b o (Nat.ne_of_lt (Heap.lt_size e)) (Heap.get?_push_of_some _ e)
    have J : Inv (lamCx X (X.A.deeper (envOfC qg sg s.heap.objs.size g cdg)) (envOfC qg sg s.heap.objs.size g cdg :: X.stack) sZ HZ (WE W σZ) scope f c') [] σ HZ { sZ with heap := h₁, toks := sZ.toks + ([] : List (Str × Value)).length } :=
      lam_start2 I L IZ.env0 hr.hd un hns kp
    refine PySem.W.kla_codeExpr (wpAny_mono ((hbody _ _ sZ HZ (WE W σZ) (hr.deeper _)).run [] _ _ HZ Q J ht) (fun v s' hq => ?_) fun e s' hq => hq)
    obtain ⟨w', H', J', rv, q⟩ := hq
    exact ⟨w', H', J'.os, J'.bare, J'.base, J'.hok, rv, q⟩
  refine wpAny_call (codeAny_mono rc fun r s' hq => ?_)
  cases r with
  | error e => exact passAt tk σZ pinsZ HZ sZ e s' IZ hq
  | ok fl =>
    cases fl with
    | ret u => exact IZ.after hq
    | next => exact False.elim hq
    | brk => exact False.elim hq
    | cont => exact False.elim hq
def tLam3 (P : Addr) (q : Str) (TT : Addr → (XK → Hp → VK → Prop) → Hp → VK → Prop) (t : XK → TE) : TE := fun σ H Q => TabS H P q ∧ ∀ H1 c', TabStep H H1 P q c' → TabS H1 P q → TT c' (fun E H' Q' => t E σ H' Q') H1 Q
section
variable {X : Cx}
/-- x(lambda: body) -/
theorem pe_lam3 {TT : Addr → (XK → Hp → VK → Prop) → Hp → VK → Prop} {x a : Str} {g c P : Addr} {k : Nat} {pg : Arguments} {bg : List Stmt} {sg : Scope} {dV kV doc pm cdv ct oc : Value} {an od : Option Addr} {osl : Array (Option Value)} {Ng : List Str}
    {params : Arguments} {body : Expr} {scope : Scope} {t : XK → TE} {p lpos pos : Pos} (hg : Gl X x) (hm : X.mg x = some (.ref g)) (hk : PySem.W.keepIn X.K (.ref g) = true)
    (lk : X.K.lookup g = some ⟨oc, od, .func (PySem.W.fnOf x x pg bg sg dV kV doc pm an cdv ct), osl⟩) (hcg : PySem.W.codeIn X.K cdv x = true) (hb : L2.Binds X.K (PySem.W.fnOf x x pg bg sg dV kV doc pm an cdv ct) [a] []) (Sg : FnScope Ng [a] sg) (hNg : Ng[0]? = some a) (hva : Vis sg a)
    (hG : Gives3 X Ng x sg g cdv bg a (X.env.qual ++ "<lambda>") TT)
    (TB : TabB X.base X.mg c P) (hcode : X.env.code = .ref c) (hr : Room (k + 2) X.A) (L : LamS X.env.scope scope) (hdef : defaultsOf params X.env = ([], []))
    (hbind : ∀ (q : Str) (cl : List (Str × Addr)) (pm cv ctv : Value), bindArgs (PySem.W.kla_fn "<lambda>" q params body scope cl pm cv ctv) ⟨[], []⟩ = pure [])
    (hbody : ∀ (A : Around) (outer : List Env) (s : Shared) (H : Hp) (E : XK) (f c' : Addr), Room k (A.deeper (lamEnv X scope s.heap.objs.size f c')) → PE (lamCx X A outer s H E scope f c') body (t E))
    (hdb : (x == ("__debug__" : Str)) = false := by decide) (hd : (a == ("__debug__" : Str)) = false := by decide) (hcd : (a == ("__classdict__" : Str)) = false := by decide) :
    PE X (.Call (.Name x p) [.Lambda params body scope lpos] [] pos) (tLam3 P (X.env.qual ++ "<lambda>") TT t) := by
  refine ⟨fun pins s σ H Q I ⟨hT, h⟩ => ?_⟩
  refine wpAny_Call_Name_kw (ld_glob I hg hm ?_ hdb)
  refine PySem.W.callWith_K (h₀ := X.base) I.ok.mod.kin hk ?_ (by rfl) (by rfl)
  show wpAny _ _ (spliced ((false, eval (.Lambda params body scope lpos) X.env) :: backTo pos (starEach [] X.env))) _ _ s
  refine Calls.spliced_cons (lam_make3 I TB hcode hT hdef (L.has I.ok) fun f c' pm' ctv H1 s' I1 st T1 hf hfn hfr hco => Calls.spliced_nil ⟨I1.kIn, ?_⟩)
  have rc : codeAny (model X.prog X.w) X.A (.call (.ref g) ⟨[.ref f], []⟩) (CR C8.CX0 X.stack X.prog X.w H1 s' Q C8.E0) s' := by
    refine run_ofS (N := Ng) (ps := [a]) (us := [.ref f]) (vs := [.ref f]) lk hcg Sg hr I1.env0 (hb s' [.ref f] I1.kIn rfl) (.cons rfl .nil) rfl fun hr' => ?_
    obtain ⟨t', ht', hq'⟩ := hG f c' s' H1 Q (fun E H' Q' => t E σ H' Q') (hr'.mono (by omega)) (fun W pn xe p1 p2 tk => pe_act3 (i := 0) (tb := t) I1 L hf hfn hfr (hbind _ _ _ _ _) tk hr' (fun A outer s H E hr2 => hbody A outer s H E f c' hr2) hNg hva hd hcd) hco (h H1 c' st T1)
    exact ⟨t', ht'.nox, hq'⟩
  refine wpAny_call (codeAny_mono rc fun r s2 hq => ?_)
  cases r with
  | error e => exact (show False from hq).elim
  | ok fl =>
    cases fl with
    | ret u => exact I1.after hq
    | next => exact False.elim hq
    | brk => exact False.elim hq
    | cont => exact False.elim hq
end
end DL
namespace DL
open PySem PySem.Spec PyProof.Rows L2 LamX
/-! ### try: .. / except x as n: ..: what is caught is known behind it, too -/
/-- what the clause wishes of an exception of the body: it is caught; NX: what is asked behind the clause -/
def wAsK (K : PySem.W.Frag) (c : Value) (i : Nat) (ts : Addr → Value → Option Addr → TS) (NX : Addr → Value → Option Addr → L2.St → Hp → Prop) : WX := fun cls d σ H =>
  PySem.W.exmOne K cls c = some true ∧ ∀ a, H a = none → ts a cls d { nx := fun σ' H' => NX a cls d (σ'.set i none) H', rt := fun _ _ => False, bk := fun _ _ => False, ct := fun _ _ => False } (σ.set i (some (.ref a))) H
section
variable {X : Cx} {x n : Str} {c : Value} {i : Nat} {body suite : List Stmt} {b₀ : Stmt} {np pos pos' : Pos} {tb : WX → TS} {ts : Addr → Value → Option Addr → TS}
theorem try_asK (hs : X.stack = X.env :: X.outer) (hf : X.env.frame = some X.env.locals) (hN : X.N.Nodup) (hi : X.N[i]? = some n) (hln : X.env.kindOf n = some .local) (hc : Names X x c)
    (hb : ∀ (W : WX) (pn : List (Addr × Obj)) (xe : Value → Shared → Prop), Takes (X.tr pn xe) W → PassesOwn (model X.prog X.w) X.A X.env xe → PSs (X.tr pn xe) body (tb W))
    (hsu : ∀ (a : Addr) (oe : Obj) (cls : Value) (d : Option Addr) (pn : List (Addr × Obj)), Zc cls d oe → (∃ vs, oe.data = .fields vs) → PSs (X.suite a ((a, oe) :: pn)) (b₀ :: suite) (ts a cls d))
    {pins : List (Addr × Obj)} {s : Shared} {σ : L2.St} {H : Hp} {D : Ends} {NX : Addr → Value → Option Addr → L2.St → Hp → Prop} (I : Inv X pins σ H s) (h : tb (wAsK X.K c i ts NX) D σ H) :
    wpAny (model X.prog X.w) X.A (exec (.Try body [.ExceptHandler (some (.Name x np)) (some n) (b₀ :: suite) pos'] [] [] pos) X.env)
      (fun f s1 => SP X pins D f s1 ∨ (f = .next ∧ ∃ a oe cls d σ' H', Inv X ((a, oe) :: pins) σ' H' s1 ∧ Zc cls d oe ∧ (∃ vs, oe.data = .fields vs) ∧ NX a cls d σ' H')) X.xe s := by
  have ok := I.ok
  have hfr : X.A.frames = some (X.env :: X.outer) := by rw [ok.frames, hs]
  have hloc : Loc X.env.scope n := .inl hln
  refine wpAny_Try_except ?_
  refine wpAny_mono ((hb (wAsK X.K c i ts NX) (X.pn ++ pins) (fun e s₁ => wpAny (model X.prog X.w) X.A (noteFrame e X.env) (fun _ s₂ => wpAny (model X.prog X.w) X.A (setFlight e none) (fun _ s₃ =>
    wpAny (model X.prog X.w) X.A (handleBy e X.env [.ExceptHandler (some (.Name x np)) (some n) (b₀ :: suite) pos']) (fun f s1 => SP X pins D f s1 ∨ (f = .next ∧ ∃ a oe cls d σ' H', Inv X ((a, oe) :: pins) σ' H' s1 ∧ Zc cls d oe ∧ (∃ vs, oe.data = .fields vs) ∧ NX a cls d σ' H')) X.xe s₃) X.xe s₂) X.xe s₁) (fun u s' xx => ?_) PassesOwn.looking).run [] s σ H D (I.toTry _) h) (fun f s1 hsp => ?_) (fun e s1 he => he)
  · obtain ⟨a, B, sI, pins', σ', H', cls, d, rfl, J', nb, up, sky, na, os, ag, hb1, hyes⟩ := xx
    have J : Inv X pins σ' H' sI := J'.ofTry ok
    have sky' : Sky B (X.env :: X.outer) a (Zc cls d) X.env.locals s'.heap := by rw [← hs]; exact sky
    show wpAny (model X.prog X.w) X.A (noteFrame (.ref a) X.env) _ _ _
    refine Sky.land Zc.steady hfr hf sky' fun h3 fl3 up3 => ?_
    have J3 : Inv X pins σ' H' { s' with heap := h3 } := J.landed nb fl3.1 (up.trans up3) os ag
    obtain ⟨oe3, vs3, he3, hz3, hd3⟩ := fl3.there
    have nfr : a ∉ frs (X.env :: X.outer) := fun hm => by
      obtain ⟨_, o', e', hnf⟩ := fl3.2.2.1.mem hm
      rw [he3] at e'; cases e'
      exact hnf _ hd3
    have nL : a ≠ X.env.locals := fun z => nfr (List.mem_filterMap.mpr ⟨X.env, List.mem_cons_self, by rw [hf, z]⟩)
    have nF : a ∉ X.fs := fun hm => by
      obtain ⟨e, he, q⟩ := List.mem_filterMap.mp hm
      exact nfr (List.mem_filterMap.mpr ⟨e, List.mem_cons_of_mem _ he, q⟩)
    have S3 := J3.suite he3 hd3 na nL nF
    refine wpAny_handleBy_cons (codeAny_handlers_test ?_) (by intro q; cases q)
    have LT : PySem.W.Looks (model X.prog X.w) h3 (typeOf (.ref a)) cls := fun A Q E s k q => wpAny_typeOf_ref (k _ _ he3) (by rw [hz3.1]; exact q)
    have LM := PySem.W.exm_one (M := model X.prog X.w) (J3.kIn) LT hb1
    have test : ∀ {Q : Value → Shared → Prop} {E : Value → Shared → Prop}, Q c { s' with heap := h3 } → wpAny (model X.prog X.w) (X.A.mark (some (.ref a))) (eval (.Name x np) X.env) Q E { s' with heap := h3 } := fun {Q E} q => by
      obtain ⟨hg, hdbg, hm | ⟨hm, hv, hnn⟩⟩ := hc
      · exact ld_glob (X := X.suite a ((a, oe3) :: (X.pn ++ pins))) S3 hg hm q hdbg
      · exact ld_blt (X := X.suite a ((a, oe3) :: (X.pn ++ pins))) S3 hg hm hv q hnn hdbg
    refine test (LM.here ?_)
    refine codeAny_handlers_suite_as ?_
    refine HandSPX.lands_againZ fl3 fun h4 fl4 up4 => ?_
    have J4 : Inv X pins σ' H' { s' with heap := h4 } := J.landed nb fl4.1 ((up.trans up3).trans up4) os ag
    obtain ⟨oe4, vs4, he4, hz4, hd4⟩ := fl4.there
    have S4 := J4.suite he4 hd4 na nL nF
    refine store_ok (X := X.suite a ((a, oe4) :: (X.pn ++ pins))) (v := .ref a) S4 hN hi hloc rfl (fun s5 S5 => ?_) (.inr hln)
    refine wpAny_mono ((hsu a oe4 cls d (X.pn ++ pins) hz4 ⟨_, hd4⟩).run [] s5 _ H' _ S5 (hyes a na)) (fun f s6 hsp => ?_) (fun _ _ z => False.elim z)
    cases f with
    | next =>
      obtain ⟨σ6, H6, S6, q6⟩ := hsp
      have J6 : Inv X ((a, oe4) :: pins) σ6 H6 s6 := (S6.unsuite ok).pins_of fun p hp => by
        rcases List.mem_cons.mp hp with rfl | hp
        · exact S6.pin _ (List.mem_append_left _ List.mem_cons_self)
        · exact (S6.unsuite ok).pin p (List.mem_append_right _ hp)
      exact gone_ok J6 hN hi hln fun s7 J7 => .inr ⟨rfl, a, oe4, cls, d, _, _, J7, hz4, ⟨_, hd4⟩, q6⟩
    | brk => obtain ⟨_, _, _, q⟩ := hsp; exact q.elim
    | cont => obtain ⟨_, _, _, q⟩ := hsp; exact q.elim
    | ret u => obtain ⟨_, _, _, _, _, q⟩ := hsp; exact q.elim
  · cases f with
    | next =>
      obtain ⟨σ', H', J', q⟩ := hsp
      exact wpAny_execs_nil (.inl ⟨σ', H', J'.ofTry ok, q⟩)
    | brk =>
      obtain ⟨σ', H', J', q⟩ := hsp
      exact .inl ⟨σ', H', J'.ofTry ok, q⟩
    | cont =>
      obtain ⟨σ', H', J', q⟩ := hsp
      exact .inl ⟨σ', H', J'.ofTry ok, q⟩
    | ret u =>
      obtain ⟨v, σ', H', J', r, q⟩ := hsp
      exact .inl ⟨v, σ', H', J'.ofTry ok, r, q⟩
/-- the try and what stands behind it: t0 where the body ran through, t1 where something was caught -/
theorem pss_tryK {rest : List Stmt} {t0 : TS} {t1 : Addr → Value → Option Addr → TS} (hs : X.stack = X.env :: X.outer) (hf : X.env.frame = some X.env.locals) (hN : X.N.Nodup) (hi : X.N[i]? = some n) (hln : X.env.kindOf n = some .local) (hc : Names X x c)
    (hb : ∀ (W : WX) (pn : List (Addr × Obj)) (xe : Value → Shared → Prop), Takes (X.tr pn xe) W → PassesOwn (model X.prog X.w) X.A X.env xe → PSs (X.tr pn xe) body (tb W))
    (hsu : ∀ (a : Addr) (oe : Obj) (cls : Value) (d : Option Addr) (pn : List (Addr × Obj)), Zc cls d oe → (∃ vs, oe.data = .fields vs) → PSs (X.suite a ((a, oe) :: pn)) (b₀ :: suite) (ts a cls d))
    (h0 : PSs X rest t0) (h1 : ∀ (a : Addr) (oe : Obj) (cls : Value) (d : Option Addr) (pn : List (Addr × Obj)), (a, oe) ∈ pn → Zc cls d oe → (∃ vs, oe.data = .fields vs) → PSs (X.tr pn X.xe) rest (t1 a cls d)) :
    PSs X (.Try body [.ExceptHandler (some (.Name x np)) (some n) (b₀ :: suite) pos'] [] [] pos :: rest)
      (fun D σ H => tb (wAsK X.K c i ts (fun a cls d σ' H' => t1 a cls d D σ' H')) { D with nx := t0 D } σ H) := by
  refine ⟨fun pins s σ H D I h => ?_⟩
  refine wpAny_execs_cons (thn (try_asK hs hf hN hi hln hc hb hsu I h) fun f s1 q => ?_)
  rcases q with q | ⟨rfl, a, oe, cls, d, σ', H', J, hz, hv, q⟩
  · cases f with
    | next => obtain ⟨σ', H', I', q⟩ := q; exact h0.run pins s1 σ' H' D I' q
    | brk => exact q
    | cont => exact q
    | ret u => exact q
  · refine wpAny_mono ((h1 a oe cls d (X.pn ++ ((a, oe) :: pins)) (List.mem_append_right _ List.mem_cons_self) hz hv).run [] s1 σ' H' D (J.toTry _) q) (fun f s2 hsp => ?_) fun _ _ z => z
    have down : ∀ {σ2 : L2.St} {H2 : Hp}, Inv (X.tr (X.pn ++ ((a, oe) :: pins)) X.xe) [] σ2 H2 s2 → Inv X pins σ2 H2 s2 := fun {σ2 H2} K => (K.ofTry I.ok).pins_of fun p hp => (K.ofTry I.ok).pin p (List.mem_append_right _ (List.mem_cons_of_mem _ hp))
    cases f with
    | next => obtain ⟨σ2, H2, K, q2⟩ := hsp; exact ⟨σ2, H2, down K, q2⟩
    | brk => obtain ⟨σ2, H2, K, q2⟩ := hsp; exact ⟨σ2, H2, down K, q2⟩
    | cont => obtain ⟨σ2, H2, K, q2⟩ := hsp; exact ⟨σ2, H2, down K, q2⟩
    | ret u => obtain ⟨v, σ2, H2, K, r, q2⟩ := hsp; exact ⟨v, σ2, H2, down K, r, q2⟩
/-- isinstance(e, c), e an exception of an own class that is pinned -/
theorem call_isP {a D : Addr} {oe : Obj} (C : ExcC X.K D) (hz : Zc (.ref D) none oe) (hv : ∃ vs, oe.data = .fields vs) (hp : (a, oe) ∈ X.pn) : CallR X (.builtin "isinstance") (rIsE X.K D a) := by
  intro pins s σ H xs us Q I r h
  obtain ⟨c, cv, b, rfl, hcv, e, q⟩ := h
  cases r with
  | cons rx rr =>
    cases rr with
    | cons rt rr =>
      cases rr
      cases rx
      have ec := hcv _ rt
      subst ec
      obtain ⟨hget, _⟩ := I.pin (a, oe) (List.mem_append_left _ hp)
      obtain ⟨vs, hv⟩ := hv
      have J : PySem.W.InstAt s.heap a oe D none := by
        obtain ⟨oc, od, oda, osl⟩ := oe
        obtain ⟨h1, h2⟩ := hz
        dsimp only at h1 h2 hv
        subst h1 h2 hv
        exact ⟨hget, rfl, rfl, trivial⟩
      exact PySem.W.kia_one (PySem.W.handS_kitx_exc C.hg C.hk C.hs C.hd C.ha C.hn C.ht C.hm) I.kIn J e (fun z => nomatch z) fun tk => ⟨.bl b, H, I.kept (t' := tk) fun _ _ z => z, rfl, q⟩
end
end DL
namespace DL
open PySem PySem.Spec PyProof.Rows L2 LamX
/-! ### the world's table of code objects -/
def TabR (P : Addr) (q : Str) (H Hf : Hp) : Prop := ∃ ps : Array Value, H P = some (.tbl ps) ∧ TriplesOk ps.toList ∧ ∀ (pos : Pos) (cv : Value), codeAmong pos ps.toList = some cv → ∃ c, cv = .ref c ∧ Hf c = some (CodeO c q)
theorem TabR.loc {P : Addr} {q : Str} {H H' Hf Hf' : Hp} (r : TabR P q H Hf) (e : H' P = H P) (x : ∀ b o, stays o = true → Hf b = some o → Hf' b = some o) : TabR P q H' Hf' := by
  obtain ⟨ps, h1, h2, h3⟩ := r
  refine ⟨ps, e.trans h1, h2, fun pos cv hc => ?_⟩
  obtain ⟨c, e1, e2⟩ := h3 pos cv hc
  exact ⟨c, e1, x c _ rfl e2⟩
def VwX (L : List (Addr × Str)) (Vx : Wd) : Wd where
  G := Vx.G
  rep := fun g H Hf => (∀ t ∈ L, TabR t.1 t.2 H Hf) ∧ Vx.rep g H Hf ∧ ∀ t ∈ L, ¬ Vx.fp g t.1
  fp := fun g b => (∃ t ∈ L, b = t.1) ∨ Vx.fp g b
  loc := fun g H H' Hf Hf' r e x => ⟨fun t ht => (r.1 t ht).loc (e _ (.inl ⟨t, ht, rfl⟩)) x, Vx.loc g H H' Hf Hf' r.2.1 (fun b hb => e b (.inr hb)) x, r.2.2⟩
  there := fun g H Hf b r h => by
    rcases h with ⟨t, ht, rfl⟩ | h
    · obtain ⟨ps, h1, _⟩ := r.1 t ht
      rw [h1]; simp
    · exact Vx.there g H Hf b r.2.1 h
/-- a table that stands but once among them -/
def OneT (L : List (Addr × Str)) (P : Addr) (q : Str) : Prop := (P, q) ∈ L ∧ ∀ t ∈ L, t.1 = P → t = (P, q)
section
variable {Vx : Wd} {L : List (Addr × Str)}
theorem tabS_of {K : PySem.W.Frag} {P : Addr} {q : Str} {H0 Hf0 H Hf : Hp} {g0 g : Tw × Vx.G} (hL : OneT L P q) (b : Base (TW K (VwX L Vx)) H0 Hf0 g0 H Hf g) : TabS H P q := by
  obtain ⟨ps, h1, h2, h3⟩ := b.rep.2.1.1 _ hL.1
  exact ⟨ps, h1, h2, fun pos cv hc => by
    obtain ⟨c, e1, e2⟩ := h3 pos cv hc
    exact ⟨c, e1, b.fh _ _ e2⟩⟩
theorem base_tab {K : PySem.W.Frag} {P c : Addr} {q : Str} {H H1 Hf : Hp} {g : Tw × Vx.G} (hL : OneT L P q) (b : Base (TW K (VwX L Vx)) H Hf g H Hf g) (st : TabStep H H1 P q c) : ∃ Hf1, Base (TW K (VwX L Vx)) H Hf g H1 Hf1 g ∧ Hf1 c = some (CodeO c q) := by
  obtain ⟨ps0, r1, r2, r3⟩ := b.rep.2.1.1 _ hL.1
  rcases st with ⟨rfl, ps, pos, hP, hc⟩ | ⟨ps, ps', hP, nC, ht, ha, rfl⟩
  · rw [r1] at hP
    cases hP
    obtain ⟨c0, e1, e2⟩ := r3 pos _ hc
    cases e1
    exact ⟨Hf, b, e2⟩
  · rw [r1] at hP
    cases hP
    have hf := b.hn nC
    have nPc : P ≠ c := ne_of_none r1 nC
    have fpP : (TW K (VwX L Vx)).fp g P := .inr (.inl ⟨_, hL.1, rfl⟩)
    have at_ : ∀ x, x ≠ P → x ≠ c → upd (upd H P (.tbl ps')) c (CodeO c q) x = H x := fun x h1 h2 => by rw [upd_ne h2, upd_ne h1]
    have nfp : ∀ x, g.1.fp x → x ≠ P ∧ x ≠ c := fun x hx => ⟨fun z => by subst z; exact b.rep.2.2 x hx (.inl ⟨_, hL.1, rfl⟩), fun z => by subst z; exact b.rep.1.there hx nC⟩
    have nfx : ∀ x, Vx.fp g.2 x → x ≠ P ∧ x ≠ c := fun x hx => ⟨fun z => by subst z; exact b.rep.2.1.2.2 _ hL.1 hx, fun z => by subst z; exact Vx.there g.2 H Hf x b.rep.2.1.2.1 hx nC⟩
    have ntb : ∀ t ∈ L, t.1 ≠ c := fun t h z => by
      obtain ⟨ps1, h1, _⟩ := b.rep.2.1.1 t h
      rw [z, nC] at h1; cases h1
    refine ⟨upd Hf c (CodeO c q), ?_, upd_same⟩
    exact { ff := same_new hf
            fh := fun x o e => by
              by_cases hx : x = c
              · subst hx; rw [upd_same] at e ⊢; exact e
              · rw [upd_ne hx] at e
                have hxP : x ≠ P := fun z => by subst z; rw [b.dis _ fpP] at e; cases e
                rw [at_ x hxP hx]; exact b.fh x o e
            keep := fun x o e n => by
              have hxP : x ≠ P := fun z => by subst z; exact n fpP
              have hxc : x ≠ c := ne_of_none e nC
              rw [at_ x hxP hxc]; exact e
            old := fun x e => by
              have hxc : x ≠ c := fun z => by subst z; exact e nC
              rw [upd_ne hxc]
            there := fun x e => by
              have hxc : x ≠ c := fun z => by subst z; exact e nC
              by_cases hxP : x = P
              · subst hxP; rw [upd_ne hxc, upd_same]; simp
              · rw [at_ x hxP hxc]; exact e
            rep := ⟨b.rep.1.loc fun x hx => at_ x (nfp x hx).1 (nfp x hx).2, ⟨fun t h => by
              by_cases htP : t.1 = P
              · have := hL.2 t h htP
                subst this
                refine ⟨ps', by rw [upd_ne nPc, upd_same], ht, fun pos cv hcv => ?_⟩
                rcases ha pos cv hcv with z | z
                · obtain ⟨c0, e1, e2⟩ := r3 pos cv z
                  exact ⟨c0, e1, same_new hf _ _ e2⟩
                · exact ⟨c, z, upd_same⟩
              · exact (b.rep.2.1.1 t h).loc (at_ _ htP (ntb t h)) fun x o _ e => same_new hf x o e, Wd.loc2 b.rep.2.1.2.1 (fun x o _ e => same_new hf x o e) fun x hx => at_ x (nfx x hx).1 (nfx x hx).2, b.rep.2.1.2.2⟩, b.rep.2.2⟩
            dis := fun x z => by
              have hxc : x ≠ c := fun w => by
                subst w
                rcases z with z | z | z
                · exact (nfp x z).2 rfl
                · obtain ⟨t, h, e⟩ := z
                  exact ntb t h e.symm
                · exact (nfx x z).2 rfl
              rw [upd_ne hxc]; exact b.dis x z
            fpo := fun x z => .inl z }
end
/-! ### isinstance(e, c) of what is caught -/
def tIsP (i : Nat) (a : Addr) (b : Bool) : TE := fun σ H Q => σ[i]? = some (some (.ref a)) ∧ Q (.bl b) H
section
variable {X : Cx} {i : Nat} {x cn : Str} {p p1 p2 pos : Pos}
theorem pe_isP {a D : Addr} {oe : Obj} {v : V} {cv : Value} {b : Bool} (C : ExcC X.K D) (hz : Zc (.ref D) none oe) (hf : ∃ vs, oe.data = .fields vs) (hp : (a, oe) ∈ X.pn) (hC : PE X (.Name cn p2) (tC v)) (hcv : ∀ u, RelV v u → u = cv) (e : PySem.W.kitOne X.K (.ref D) cv = some b)
    (hg : Gl X "isinstance") (hm : X.mg "isinstance" = none) (hN : X.N[i]? = some x) (hv : Vis X.env.scope x) (hd : (x == ("__debug__" : Str)) = false := by decide) (hcd : (x == ("__classdict__" : Str)) = false := by decide)
    (hs : starEach [.Name x p1, .Name cn p2] X.env = (false, eval (.Name x p1) X.env) :: starEach [.Name cn p2] X.env := by rfl) (hpl : (backTo pos (starEach [.Name cn p2] X.env)).any (·.1) = false := by rfl) :
    PE X (.Call (.Name "isinstance" p) [.Name x p1, .Name cn p2] [] pos) (tIsP i a b) :=
  PE.imp (pe_callB (call_isP C hz hf hp) hg hm (by decide +kernel) (pa_cons (pe_var hN hv hd hcd) (pa_cons hC pa_nil) hs) (by decide) (by decide) hs hpl) fun σ H Q ⟨h1, h2⟩ => ⟨.ref a, h1, v, cv, b, rfl, hcv, e, h2⟩
end
/-! ### dicts of such tests -/
abbrev trB (i : Nat) (a : Addr) (l : List (List Nat × Bool)) : List (TE × TE) := l.map fun p => (tC (.str (mkS p.1)), tIsP i a p.2)
theorem tPairs_b {i : Nat} {a : Addr} {σ : L2.St} {H : Hp} (hi : σ[i]? = some (some (.ref a))) : ∀ (l : List (List Nat × Bool)) {Q : List (V × V) → Hp → Prop}, Q (l.map fun p => (V.str (mkS p.1), V.bl p.2)) H → tPairs (trB i a l) σ H Q
  | [], _, h => h
  | p :: l, Q, h => by
    show σ[i]? = some (some (.ref a)) ∧ tPairs (trB i a l) σ H fun ps H3 => Q ((V.str (mkS p.1), V.bl p.2) :: ps) H3
    exact ⟨hi, tPairs_b hi l h⟩
def dispB (l : List (List Nat × Bool)) : List (DKey × D) := l.map fun p => (.inr p.1, .bl p.2)
theorem kvd_dispB {K : PySem.W.Frag} {Hf : Hp} : ∀ (l : List (List Nat × Bool)), KVd K Hf (l.map fun p => ((.inr (mkS p.1) : Key), V.bl p.2)) (dispB l)
  | [] => .nil
  | p :: l => .cons ⟨rfl, .bl p.2⟩ (kvd_dispB l)
def mAt {G : Type} (i : Nat) (a : Addr) : M G Unit := fun sl g => match sl[i]? with
  | some (some (.d (.ref x))) => if x = a then some (.ok (), g) else none
  | _ => none
def xDispB {G : Type} (i : Nat) (a : Addr) (l : List (List Nat × Bool)) : M G Slot := M.bind (mAt i a) fun _ => M.pure (.oK (dMerge [] (dispB l)))
def eIsB {G : Type} (i : Nat) (a : Addr) (b : Bool) : M G D := M.bind (mAt i a) fun _ => M.pure (.bl b)
def sUpdB {G : Type} (i j : Nat) (a : Addr) (l : List (List Nat × Bool)) : SM G := sOwnK i <| sDo (mAt j a) fun _ => sMutK i fun kvs => if kvs.length + l.length ≤ LIM then some (dMerge kvs (dMerge [] (dispB l))) else none
section
variable {X : Cx} {Z : Cn} {E : Ent Z.W} {Wx : WX} {pos p ap cp dp : Pos} {i j : Nat} {x : Str} {a : Addr}
theorem go_mAt {α β : Type} {Rl : Z.W.G → Hp → Hp → β → α → Prop} {σ : L2.St} {sl : SL} {H Hf : Hp} {g : Z.W.G} {k : Unit → M Z.W.G α} {Q : β → Hp → Prop} (r : R X.K E H Hf g sl σ) (h : go Z Rl Wx σ (M.bind (mAt j a) k sl g) H Hf g Q) :
    σ[j]? = some (some (.ref a)) ∧ go Z Rl Wx σ (k () sl g) H Hf g Q := by
  unfold M.bind mAt at h
  match e : sl[j]? with
  | some (some (.d (.ref y))) =>
    rw [e] at h
    simp only at h
    by_cases hy : y = a
    · rw [if_pos hy] at h
      obtain ⟨v, h1, h2⟩ := r.slot j _ e
      have h2 : Dv X.K Hf v (.ref y) := h2
      cases h2
      exact ⟨by rw [h1, hy], h⟩
    · rw [if_neg hy] at h; exact h.elim
  | some (some (.d .non)) => rw [e] at h; exact h.elim
  | some (some (.d (.bl _))) => rw [e] at h; exact h.elim
  | some (some (.d (.int _))) => rw [e] at h; exact h.elim
  | some (some (.d (.str _))) => rw [e] at h; exact h.elim
  | some (some (.d (.tup _))) => rw [e] at h; exact h.elim
  | some (some (.d (.tupF _))) => rw [e] at h; exact h.elim
  | some (some (.d (.tupS _))) => rw [e] at h; exact h.elim
  | some (some (.d (.lst _))) => rw [e] at h; exact h.elim
  | some (some (.oL y)) => rw [e] at h; exact h.elim
  | some (some (.oK y)) => rw [e] at h; exact h.elim
  | some (some (.oT y)) => rw [e] at h; exact h.elim
  | some (some (.kK y)) => rw [e] at h; exact h.elim
  | some none => rw [e] at h; exact h.elim
  | none => rw [e] at h; exact h.elim
theorem de_isB {e : Expr} {b : Bool} (h : PE X e (tIsP i a b)) : DE X Z E Wx e (eIsB i a b) :=
  PE.imp h fun σ H Q ⟨Hf, g, sl, r, q⟩ => let ⟨h1, q1⟩ := go_mAt r q; ⟨h1, go_pure q1 _ _ _ r.base.self (.bl b)⟩
theorem dx_dispB (l : List (List Nat × Bool)) {keys : List (Option Expr)} {values : List Expr} (h : PPs X pos keys values (trB i a l)) (hall : keys.all (·.isSome) = true) (hl : keys.length = values.length) (h0 : keys ≠ []) (h15 : keys.length ≤ 15) (hl15 : l.length ≤ 15) :
    DX X Z E Wx (.Dict keys values pos) (xDispB i a l) := by
  refine PE.imp (pe_disp h hall hl h0 h15) fun σ H Q ⟨Hf, g, sl, r, q⟩ p hp => ?_
  obtain ⟨hi, q⟩ := go_mAt r q
  obtain ⟨n1, n2, n3⟩ := new_n r.base.self hp
  have hE : E.H p = none := by
    cases e : E.H p with
    | none => rfl
    | some o => exact absurd n1 (r.base.there p (by rw [e]; simp))
  refine tPairs_b hi l ⟨upd_same, l.map fun p => (.inr (mkS p.1), .bl p.2), ?_, by rw [List.length_map]; exact hl15, ?_⟩
  · rw [List.map_map]; rfl
  · have b0 := (r.base.self.allocU (.dK []) hp).updFresh (.dK (mergeK [] (l.map fun p => (.inr (mkS p.1), .bl p.2)))) n1 n2 n3
    have kv := kvd_dispB (K := X.K) (Hf := Hf) l
    exact go_pure q _ _ _ b0 ⟨⟨p, _, rfl, upd_same, pv_merge kv .nil, hE, n2, n3⟩, fun _ a ea => by cases ea; exact n1⟩
theorem ds_updB (l : List (List Nat × Bool)) {keys : List (Option Expr)} {values : List Expr} (h : PPs X dp keys values (trB j a l)) (hall : keys.all (·.isSome) = true) (hl : keys.length = values.length) (h0 : keys ≠ []) (h15 : keys.length ≤ 15) (hl15 : l.length ≤ 15)
    (hN : X.N[i]? = some x := by rfl) (hv : Vis X.env.scope x := by first | exact Or.inl rfl | exact Or.inr (Or.inl rfl) | exact Or.inr (Or.inr rfl)) (hd : (x == ("__debug__" : Str)) = false := by decide)
    (hcd : (x == ("__classdict__" : Str)) = false := by decide) (hbase : attributeBase (.Name x p) "update" X.env (eval (.Name x p) X.env) = eval (.Name x p) X.env := by rfl)
    (hfew : ((backTo cp (starEach [.Dict keys values dp] X.env)).all (fun x => !x.1) && (backToKw cp (keywordEach [] X.env)).all (fun x => x.1.isSome)
      && decide (([.Dict keys values dp] : List Expr).length + ([] : List Keyword).length + (if ([] : List Keyword).isEmpty then 0 else 1) < 30)) = true := by rfl)
    (hline : (ap.endLine == cp.line) = true := by rfl) (hst : starEach [.Dict keys values dp] X.env = (false, eval (.Dict keys values dp) X.env) :: starEach [] X.env := by rfl) (hplain : (backTo cp (starEach [] X.env)).any (·.1) = false := by rfl)
    (hs : swapsWith (.Call (.Attribute (.Name x p) "update" ap) [.Dict keys values dp] [] cp) none pos.line X.env = pure false := by rfl) : DS X Z E Wx (.Expr (.Call (.Attribute (.Name x p) "update" ap) [.Dict keys values dp] [] cp) pos) (sUpdB i j a l) := by
  refine PS.imp (ps_expr (pe_bm PySem.F.plainAttrs_dict PySem.F.slot_dict_update PySem.F.type_dict_update mt_dupd (pe_var hN hv hd hcd) (pa_cons (pe_disp h hall hl h0 h15) pa_nil hst) hbase hfew hline hst hplain) hs) fun D σ H ⟨Hf, g, sl, r, q⟩ => ?_
  obtain ⟨kvs, hi, q⟩ := goS_ownK q
  obtain ⟨v0, h1, lo, vs, rfl, hH, kv, hown⟩ := r.slot i _ hi
  refine ⟨_, h1, .inr (.inr (.inl ⟨rfl, .inl ⟨vs, hH⟩⟩)), fun pn hpn => ?_⟩
  have hj : σ[j]? = some (some (.ref a)) ∧ goS Z X.K E Wx Hf (sMutK i (fun kvs => if kvs.length + l.length ≤ LIM then some (dMerge kvs (dMerge [] (dispB l))) else none) sl g) D := by
    unfold sDo mAt at q
    match e : sl[j]? with
    | some (some (.d (.ref y))) =>
      rw [e] at q
      simp only at q
      by_cases hy : y = a
      · rw [if_pos hy] at q
        obtain ⟨v, h1, h2⟩ := r.slot j _ e
        have h2 : Dv X.K Hf v (.ref y) := h2
        cases h2
        exact ⟨by rw [h1, hy], q⟩
      · rw [if_neg hy] at q; exact q.elim
    | some (some (.d .non)) => rw [e] at q; exact q.elim
    | some (some (.d (.bl _))) => rw [e] at q; exact q.elim
    | some (some (.d (.int _))) => rw [e] at q; exact q.elim
    | some (some (.d (.str _))) => rw [e] at q; exact q.elim
    | some (some (.d (.tup _))) => rw [e] at q; exact q.elim
    | some (some (.d (.tupF _))) => rw [e] at q; exact q.elim
    | some (some (.d (.tupS _))) => rw [e] at q; exact q.elim
    | some (some (.d (.lst _))) => rw [e] at q; exact q.elim
    | some (some (.oL y)) => rw [e] at q; exact q.elim
    | some (some (.oK y)) => rw [e] at q; exact q.elim
    | some (some (.oT y)) => rw [e] at q; exact q.elim
    | some (some (.kK y)) => rw [e] at q; exact q.elim
    | some none => rw [e] at q; exact q.elim
    | none => rw [e] at q; exact q.elim
  obtain ⟨hj, q⟩ := hj
  unfold sMutK at q
  rw [hi] at q
  simp only at q
  split at q
  · rename_i ys hys
    split at hys
    · rename_i hlen
      cases hys
      obtain ⟨n1, n2, n3⟩ := new_n r.base.self hpn
      have hne : lo ≠ pn := fun z => by subst z; rw [hH] at n1; cases n1
      have r2 : R X.K E (upd (upd H pn (.dK [])) pn (.dK (mergeK [] (l.map fun p => (.inr (mkS p.1), .bl p.2))))) Hf g sl σ := r.step ((r.base.self.allocU (.dK []) hpn).updFresh (.dK (mergeK [] (l.map fun p => (.inr (mkS p.1), .bl p.2)))) n1 n2 n3)
      obtain ⟨v1, h1', l', vs', e', hH', kv', hown'⟩ := r2.slot i _ hi
      rw [h1] at h1'
      cases h1'
      cases e'
      have kvM : KVd X.K Hf (mergeK [] (l.map fun p => ((.inr (mkS p.1) : Key), V.bl p.2))) (dMerge [] (dispB l)) := pv_merge (kvd_dispB l) .nil
      refine tPairs_b hj l ⟨upd_same, l.map fun p => (.inr (mkS p.1), .bl p.2), by rw [List.map_map]; rfl, by rw [List.length_map]; exact hl15, lo, pn, vs', _, rfl, rfl, hne, hH', upd_same, ?_, ?_⟩
      · have a1 := pv_len kv'
        have a2 := length_mergeK (l.map fun p => ((.inr (mkS p.1) : Key), V.bl p.2)) []
        simp only [List.length_nil, Nat.zero_add, List.length_map] at a2
        have := lim_line2 hlen
        omega
      · exact q σ _ Hf (same_refl _) (r2.updAny hi rfl rfl h1 hown' ⟨lo, _, rfl, upd_same, pv_merge kvM kv', hown'⟩)
    · cases hys
  · exact q.elim
end
end DL
namespace DL
open PySem PySem.Spec PyProof.Rows L2 LamX
/-! ### what a call answers, or the name of the error that it raises -/
def sReturns : List Nat := [114, 101, 116, 117, 114, 110, 115]
def resD (errs : Nat → List Nat) : Res D → D
  | .ok d => .tup [.str sReturns, d]
  | .exc c => .tup [.str (errs c)]
def eRes {G : Type} (n : Nat) (errs : Nat → List Nat) (f : M G D) : M G D := fun sl g => match f sl g with
  | some (.ok d, g1) => some (.ok (resD errs (.ok d)), g1)
  | some (.exc c, g1) => if c < n then some (.ok (resD errs (.exc c)), g1) else none
  | none => none
def TTres (Z : Cn) (K : PySem.W.Frag) (q : Str) (n : Nat) (errs : Nat → List Nat) : Addr → (XK → Hp → VK → Prop) → Hp → VK → Prop := fun c' tl H1 Q =>
  ∃ (Hf1 : Hp) (g1 : Z.W.G) (out : Res D) (g3 : Z.W.G), Base Z.W H1 Hf1 g1 H1 Hf1 g1 ∧ Hf1 c' = some (CodeO c' q) ∧ (∀ c, out = .exc c → c < n) ∧
    (∀ H2 Hf2, Base Z.W H1 Hf1 g1 H2 Hf2 g1 → ∀ (Ex : XK) (Q' : VK), go Z (RlD K) (fun cls d _ H => Ex cls d H) [] (some (out, g3)) H2 Hf2 g1 Q' → tl Ex H2 Q') ∧
    ∀ v H4 Hf4, Base Z.W H1 Hf1 g1 H4 Hf4 g3 → Dv K Hf4 v (resD errs out) → Q v H4
section
variable {X : Cx} {Z : Cn} {n : Nat} {errs : Nat → List Nat}
abbrev XnC (X : Cx) (N : List Str) (x : Str) (sg : Scope) (g : Addr) (cdg : Value) (s : Shared) (H : Hp) : Cx := (cxOf C8.CX0 X.prog X.w X.K X.mg X.base N x sg g cdg X.A X.stack s H C8.E0).nox
theorem gives_res {N : List Str} {x q a ex nm : Str} {sg : Scope} {g CS : Addr} {cdg : Value} {st1 : Stmt} {rest : List Stmt} {ic ia ie m : Nat} {f1 F0 : SM Z.W.G} {F1 : Addr → Nat → SM Z.W.G} {an cn : Str} {q1 q2 q3 q4 q5 q6 q7 q8 q9 q10 : Pos}
    (hN : N.Nodup) (hl : N.length = m + 1) (hia : N[ia]? = some an) (hic : N[ic]? = some cn) (hie : N[ie]? = some nm) (h0ia : 0 ≠ ia) (h0ic : 0 ≠ ic) (h0ie : 0 ≠ ie)
    (lan : sg.names.lookup an = some .local) (lcn : sg.names.lookup cn = some .local) (lnm : sg.names.lookup nm = some .local) (knm : ∀ s H, (XnC X N x sg g cdg s H).env.kindOf nm = some .local)
    (hex : ∀ s H, Names (XnC X N x sg g cdg s H) ex (.ref CS)) (hexm : ∀ c, c < n → PySem.W.exmOne X.K (Z.cls c) (.ref CS) = some true)
    (dn : (nm == ("__debug__" : Str)) = false) (dcn : (nm == ("__classdict__" : Str)) = false)
    (sw1 : ∀ s H pn xe, swapsWith (.Call (.Name a q2) [] [] q3) (some (.Name an q1)) q4.line ((XnC X N x sg g cdg s H).tr pn xe).env = pure false)
    (sw2 : ∀ s H b pn, swapsWith (.Name nm q7) (some (.Name cn q6)) q8.line ((XnC X N x sg g cdg s H).suite b pn).env = pure false)
    (hst1 : ∀ s H (E2 : Ent Z.W), Room 1 (X.A.deeper (envOfC x sg s.heap.objs.size g cdg)) → DS (XnC X N x sg g cdg s H) Z E2 (fun _ _ _ _ => False) st1 f1)
    (hr0 : ∀ s H (E2 : Ent Z.W), Room 1 (X.A.deeper (envOfC x sg s.heap.objs.size g cdg)) → DSs (XnC X N x sg g cdg s H) Z E2 (fun _ _ _ _ => False) rest F0)
    (hr1 : ∀ s H (E2 : Ent Z.W) (b : Addr) (oe : Obj) (c : Nat) (pn : List (Addr × Obj)), Room 1 (X.A.deeper (envOfC x sg s.heap.objs.size g cdg)) → c < n → (b, oe) ∈ pn → Zc (Z.cls c) none oe → (∃ vs, oe.data = .fields vs) → DSs ((XnC X N x sg g cdg s H).tr pn (XnC X N x sg g cdg s H).xe) Z E2 (fun _ _ _ _ => False) rest (F1 b c))
    (e1 : ∀ (f : Addr) (g : Z.W.G), f1 (some (.d (.ref f)) :: List.replicate m none) g = some (.nx, ((some (.d (.ref f)) :: List.replicate m none).set ic (some (.d .non))).set ia (some (.d .non)), g))
    (e0 : ∀ (f : Addr) (d : D) (g : Z.W.G), ∃ sl', F0 ((((some (.d (.ref f)) :: List.replicate m none).set ic (some (.d .non))).set ia (some (.d .non))).set ia (some (.d d))) g = some (.rt (resD errs (.ok d)), sl', g))
    (e2 : ∀ (f b : Addr) (c : Nat) (g : Z.W.G), c < n → ∃ sl', F1 b c (wipeS ((((((some (.d (.ref f)) :: List.replicate m none).set ic (some (.d .non))).set ia (some (.d .non))).set ie (some (.d (.ref b)))).set ic (some (.d (.ref b))))) [ie]) g = some (.rt (resD errs (.exc c)), sl', g)) :
    Gives3 X N x sg g cdg (st1 :: .Try [.Assign [.Name an q1] (.Call (.Name a q2) [] [] q3) q4] [.ExceptHandler (some (.Name ex q5)) (some nm) [.Assign [.Name cn q6] (.Name nm q7) q8] q9] [] [] q10 :: rest) a q (TTres Z X.K q n errs) := by
  intro f c' s H0 Q tl hr act hc ⟨Hf1, g1, out, g3, B, hcf, hout, htl, hQ⟩
  have hs0 : (L2.start N [V.ref f]) = some (.ref f) :: List.replicate m none := by
    unfold L2.start
    simp [hl]
  refine ⟨_, pss_cons (hst1 s H0 ⟨H0, Hf1, g1⟩ hr) (pss_tryK (X := XnC X N x sg g cdg s H0) (c := .ref CS) (i := ie)
    (tb := fun W D σ H => σ[0]? = some (some (.ref f)) ∧ H c' = some (CodeO c' q) ∧ tl (fun cls d H' => W cls d σ H') H (fun v H' => D.nx (σ.set ia (some v)) H'))
    (ts := fun _ _ _ => tAsg (tVar ie) (gName ic)) (t1 := fun b cls d D σ H => ∃ c, c < n ∧ cls = Z.cls c ∧ d = none ∧ tS Z X.K ⟨H0, Hf1, g1⟩ (fun _ _ _ _ => False) (F1 b c) D σ H)
    rfl rfl hN hie (knm s H0) (hex s H0) (fun W pn xe tk _ => ?_) (fun b oe cls d pn _ _ => ?_) (hr0 s H0 ⟨H0, Hf1, g1⟩ hr) (fun b oe cls d pn hp hz hv => ?_)), ?_⟩
  · exact pss_one (ps_set (X := (XnC X N x sg g cdg s H0).tr pn xe) hN hia (.inl lan) (act W pn xe q2 q3 tk) (sw1 s H0 pn xe) (.inr lan))
  · exact pss_one (ps_set (X := (XnC X N x sg g cdg s H0).suite b ((b, oe) :: pn)) hN hic (.inl lcn) (pe_var hie (.inl lnm) dn dcn) (sw2 s H0 b _) (.inr lcn))
  · refine ⟨fun pins s' σ H' D I ⟨c, hcn, ec, ed, h⟩ => ?_⟩
    subst ec ed
    exact (hr1 s H0 ⟨H0, Hf1, g1⟩ b oe c pn hr hcn hp hz hv).run pins s' σ H' D I h
  · have hlen : (some (.d (.ref f)) :: List.replicate m none : SL).length = m + 1 := by simp
    have R0 : R X.K ⟨H0, Hf1, g1⟩ H0 Hf1 g1 (some (.d (.ref f)) :: List.replicate m none) (L2.start N [V.ref f]) := by
      have := start_R (Z := Z) (P := X.prog) (K := X.K) (N := N) (vs := [V.ref f]) (ds := [.ref f]) B (.cons (.ref f) .nil) (by rw [hl]; simp)
      rw [hl] at this
      simpa using this
    refine ⟨Hf1, g1, _, R0, ?_⟩
    rw [e1 f g1]
    intro σ1 H1 Hf2 sm r
    have b1 := r.base
    have hσ0 : σ1[0]? = some (some (.ref f)) := by
      obtain ⟨v, h1, h2⟩ := r.slot 0 (.d (.ref f)) (by rw [List.getElem?_set_ne h0ia.symm, List.getElem?_set_ne h0ic.symm]; rfl)
      have h2 : Dv X.K Hf2 v (.ref f) := h2
      cases h2
      exact h1
    refine ⟨hσ0, b1.fh _ _ (b1.ff _ _ hcf), htl H1 Hf2 b1 _ _ ?_⟩
    cases out with
    | ok d =>
      intro v H' Hf' b dv
      obtain ⟨sl', e⟩ := e0 f d g3
      refine ⟨Hf', g3, _, (r.step b).setd ia dv, ?_⟩
      rw [e]
      exact fun v4 H4 Hf4 b4 dv4 => hQ v4 H4 Hf4 b4 dv4
    | exc c =>
      intro H' Hf' b
      have hcn := hout c rfl
      refine ⟨hexm c hcn, fun a' na => ?_⟩
      have hlt : ie < σ1.length := by
        rw [← r.len, List.length_set, List.length_set, hlen, ← hl]
        exact (List.getElem?_eq_some_iff.mp hie).1
      refine ⟨.ref a', by rw [List.getElem?_set_self hlt], c, hcn, rfl, rfl, Hf', g3, _, (((r.step b).setd ie (.ref a')).setd ic (.ref a')).wipe [ie], ?_⟩
      obtain ⟨sl', e⟩ := e2 f a' c g3 hcn
      rw [e]
      exact fun v4 H4 Hf4 b4 dv4 => hQ v4 H4 Hf4 b4 dv4
end
end DL
namespace DL
open PySem PySem.Spec PyProof.Rows L2 LamX
section
variable {X : Cx} {q : Str} {P c : Addr} {cls : Nat → Value} {Vx : Wd} {L : List (Addr × Str)} {E : Ent (TW X.K (VwX L Vx))} {Wx : WX} {n : Nat} {errs : Nat → List Nat}
/-- x(lambda: body), x the def that answers so -/
theorem de_res {x a : Str} {g : Addr} {k : Nat} {pg : Arguments} {bg : List Stmt} {sg : Scope} {dV kV doc pm cdv ct oc : Value} {an od : Option Addr} {osl : Array (Option Value)} {Ng : List Str}
    {params : Arguments} {body : Expr} {scope : Scope} {fb : M (Tw × Vx.G) D} {p lpos pos : Pos} (hL : OneT L P q) (hq : X.env.qual ++ "<lambda>" = q) (hg : Gl X x) (hm : X.mg x = some (.ref g)) (hk : PySem.W.keepIn X.K (.ref g) = true)
    (lk : X.K.lookup g = some ⟨oc, od, .func (PySem.W.fnOf x x pg bg sg dV kV doc pm an cdv ct), osl⟩) (hcg : PySem.W.codeIn X.K cdv x = true) (hb : L2.Binds X.K (PySem.W.fnOf x x pg bg sg dV kV doc pm an cdv ct) [a] []) (Sg : FnScope Ng [a] sg) (hNg : Ng[0]? = some a) (hva : Vis sg a)
    (hG : Gives3 X Ng x sg g cdv bg a q (TTres (TZ X.K (VwX L Vx) cls) X.K q n errs))
    (TB : TabB X.base X.mg c P) (hcode : X.env.code = .ref c) (hr : Room (k + 2) X.A) (LS : LamS X.env.scope scope) (hdef : defaultsOf params X.env = ([], []))
    (hbind : ∀ (q : Str) (cl : List (Str × Addr)) (pm cv ctv : Value), bindArgs (PySem.W.kla_fn "<lambda>" q params body scope cl pm cv ctv) ⟨[], []⟩ = pure [])
    (hbody : ∀ (A : Around) (outer : List Env) (s : Shared) (H : Hp) (Ex : XK) (f c' : Addr), Room k (A.deeper (lamEnv X scope s.heap.objs.size f c')) → DE (lamCx X A outer s H Ex scope f c') (TZ X.K (VwX L Vx) cls) E (fun cls d _ H => Ex cls d H) body fb)
    (hdb : (x == ("__debug__" : Str)) = false := by decide) (hd : (a == ("__debug__" : Str)) = false := by decide) (hcd : (a == ("__classdict__" : Str)) = false := by decide) :
    DE X (TZ X.K (VwX L Vx) cls) E Wx (.Call (.Name x p) [.Lambda params body scope lpos] [] pos) (eRes n errs fb) := by
  subst hq
  refine PE.imp (pe_lam3 hg hm hk lk hcg hb Sg hNg hva hG TB hcode hr LS hdef hbind (t := fun Ex => tG (TZ X.K (VwX L Vx) cls) X.K E (RlD X.K) (fun cls d _ H => Ex cls d H) fb) hbody hdb hd hcd) fun σ H Q ⟨Hf, g, sl, r, hgo⟩ => ⟨tabS_of hL r.base, fun H1 c' st T1 => ?_⟩
  obtain ⟨Hf1, b1, hc1⟩ := base_tab hL r.base.self st
  unfold eRes at hgo
  match e : fb sl g with
  | none => rw [e] at hgo; exact hgo.elim
  | some (.ok d, g3) =>
    rw [e] at hgo
    refine ⟨Hf1, g, .ok d, g3, b1.self, hc1, (fun c hc => by cases hc), fun H2 Hf2 b2 Ex Q' h' => ⟨Hf2, g, sl, (r.step b1).step b2, ?_⟩, fun v H4 Hf4 b4 dv => hgo v H4 Hf4 (b1.trans b4) dv⟩
    rw [e]
    exact h'
  | some (.exc k, g3) =>
    rw [e] at hgo
    simp only at hgo
    by_cases hk : k < n
    · rw [if_pos hk] at hgo
      refine ⟨Hf1, g, .exc k, g3, b1.self, hc1, (fun c hc => by cases hc; exact hk), fun H2 Hf2 b2 Ex Q' h' => ⟨Hf2, g, sl, (r.step b1).step b2, ?_⟩, fun v H4 Hf4 b4 dv => hgo v H4 Hf4 (b1.trans b4) dv⟩
      rw [e]
      exact h'
    · rw [if_neg hk] at hgo; exact hgo.elim
end
end DL
namespace DL
open PySem PySem.Spec PyProof.Rows L2 LamX
/-! ### f(a=.., b=..), all by keywords, in the order of the def -/
def KwB (K : PySem.W.Frag) (fd : FuncData) (ps : List Str) : Prop := ∀ (s : Shared) (ws : List Value), K.In s.heap → ws.length = ps.length → BindsTo s fd ⟨[], ps.zip ws⟩ (ps.zip ws)
section
variable {X : Cx} {Z : Cn} {E : Ent Z.W} {Wx : WX} {k n : Nat} {f : Addr} {fd : FuncData} {ps : List Str} {x : Str} {p pos kpos : Pos} {kws : List Keyword} {e : Expr} {nm : Option Str} {fe : M Z.W.G D} {fs : M Z.W.G (List D)}
abbrev DK (X : Cx) (Z : Cn) (E : Ent Z.W) (Wx : WX) (kws : List Keyword) (fs : M Z.W.G (List D)) : Prop := PK X kws (tG Z X.K E (RlA X.K) Wx fs)
theorem PK.imp {t t' : TA} (h : PK X kws t) (k : ∀ σ H Q, t' σ H Q → t σ H Q) : PK X kws t' := ⟨fun pos pins s σ H Q I q => h.run pos pins s σ H Q I (k σ H Q q)⟩
theorem dk_nil : DK X Z E Wx [] aNil := PK.imp pk_nil fun σ H Q ⟨Hf, g, sl, r, q⟩ => q _ _ _ r.base.self .nil
theorem dk_cons (ha : DE X Z E Wx e fe) (hr : DK X Z E Wx kws fs) : DK X Z E Wx (⟨nm, e, kpos⟩ :: kws) (aCons fe fs) := by
  refine PK.imp (pk_cons ha hr) fun σ H Q ⟨Hf, g, sl, r, q⟩ => ⟨Hf, g, sl, r, (go_bind (Rm := RlD X.K) q).mono fun x H1 ⟨Hf1, g1, c, b1, d1, q1⟩ => ⟨Hf1, g1, sl, r.step b1, (go_bind (Rm := RlA X.K) q1).mono fun xs H2 ⟨Hf2, g2, cs, b2, d2, q2⟩ => ?_⟩⟩
  exact q2 _ _ _ b2.self (.cons (Dv.mono b2.ff c d1) d2)
theorem pe_callKw {sp : Sp} {Ex : L2.St → XK} {tk : TA} (F : FnOk X.prog X.w X.K X.mg X.base (L2.CX X.prog X.w) k f fd ps sp) (hr : Room k X.A) (hg : Gl X x) (hm : X.mg x = some (.ref f)) (hk : PySem.W.keepIn X.K (.ref f) = true) (hb : KwB X.K fd ps) (hx : ∀ σ, PassesAt (L2.CX X.prog X.w) X σ (Ex σ))
    (hkw : PK X kws tk) (hdb : (x == ("__debug__" : Str)) = false) (hall : (backToKw pos (keywordEach kws X.env)).all (·.1.isSome) = true) (hks : (backToKw pos (keywordEach kws X.env)).filterMap (·.1) = ps)
    (hpl : ((backTo pos (starEach [] X.env)).any (·.1) || (backToKw pos (keywordEach kws X.env)).any (·.1.isNone)) = false) :
    PE X (.Call (.Name x p) [] kws pos) (fun σ H Q => tk σ H fun zs H2 => zs.length = ps.length ∧ sp zs H2 Q (Ex σ)) := by
  refine ⟨fun pins s σ H Q I h => ?_⟩
  refine wpAny_Call_Name_kw (ld_glob I hg hm ?_ hdb)
  refine PySem.W.callWith_KW0 (h₀ := X.base) I.ok.mod.kin hk hall (thn (hkw.run pos pins s σ H _ I h) fun ws s2 ⟨zs, H2, I2, rz, l2, q2⟩ => ⟨I2.kIn, ?_⟩) hpl
  rw [hks]
  refine wpAny_call (codeAny_mono (F.run X.A X.stack s2 H2 ⟨[], ps.zip ws⟩ ws zs Q (Ex σ) hr I2.env0 (hb s2 ws I2.kIn (rz.length.symm.trans l2)) rz q2) fun r s' hq => ?_)
  cases r with
  | error e => exact hx σ pins H2 s2 e s' I2 hq
  | ok fl =>
    cases fl with
    | ret u => exact I2.after hq
    | next => exact False.elim hq
    | brk => exact False.elim hq
    | cont => exact False.elim hq
theorem de_callKw {F : Fn Z.W.G} (G : FnOk X.prog X.w X.K X.mg X.base (L2.CX X.prog X.w) k f fd ps (spF Z X.K n F)) (hr : Room k X.A) (hg : Gl X x) (hm : X.mg x = some (.ref f)) (hk : PySem.W.keepIn X.K (.ref f) = true) (hb : KwB X.K fd ps)
    (tk : Takes X Wx) (hn : ps.length = n) (ha : DK X Z E Wx kws fs) (hl : ∀ sl g ds g', fs sl g = some (.ok ds, g') → ds.length = n) (hdb : (x == ("__debug__" : Str)) = false := by decide)
    (hall : (backToKw pos (keywordEach kws X.env)).all (·.1.isSome) = true := by rfl) (hks : (backToKw pos (keywordEach kws X.env)).filterMap (·.1) = ps := by rfl)
    (hpl : ((backTo pos (starEach [] X.env)).any (·.1) || (backToKw pos (keywordEach kws X.env)).any (·.1.isNone)) = false := by rfl) :
    DE X Z E Wx (.Call (.Name x p) [] kws pos) (callM F fs) := by
  refine PE.imp (pe_callKw G hr hg hm hk hb (fun σ => passAt tk σ) ha hdb hall hks hpl) fun σ H Q ⟨Hf, g, sl, r, q⟩ => ⟨Hf, g, sl, r, ?_⟩
  unfold callM M.bind at q
  match eq : fs sl g with
  | none => rw [eq] at q; exact q
  | some (.exc c, g1) => rw [eq] at q; exact q
  | some (.ok ds, g1) =>
    rw [eq] at q
    intro vs H1 Hf1 b1 d1
    have hlen : vs.length = n := by rw [d1.len]; exact hl sl g ds g1 eq
    exact ⟨by rw [hlen, hn], hlen, Hf1, g1, ds, b1.self, d1, go_wx (go.later (g := g) q b1)⟩
end
/-! ### what is told of an error's class -/
structure ErrAt (K : PySem.W.Frag) (mg : Str → Option Value) (x : Str) (C CS : Addr) (bm : List Value) (newId : String) : Prop where
  gC : mg x = some (.ref C)
  kC : PySem.W.keepIn K (.ref C) = true
  q : PySem.W.excIn K C bm newId = true
  exC : PySem.W.subIn K (.ref C) (.type "BaseException") = some true
  tyC : PySem.W.typeIn K (.ref C) = some (.type "type")
  ex : ExcC K C
  exm : PySem.W.exmOne K (.ref C) (.ref CS) = some true
  ve : PySem.W.kitOne K (.ref C) (.type "ValueError") = some true
/-! ### the law, with a table of code objects -/
def spLawT (K : PySem.W.Frag) (L : List (Addr × Str)) : Sp := fun vs H Q _ => ∃ (a : Addr) (ns : List Int), vs = [.ref a] ∧ SqL K H a (ns.map V.int) ∧ ns.length ≤ 63 ∧ (∀ t ∈ L, H t.1 = some (.tbl #[])) ∧ ∀ H', Q (.bl true) H'
section
variable {cls : Nat → Value}
theorem law_okT {P : Program} {w : World} {K : PySem.W.Frag} {mg : Str → Option Value} {base : Heap} {x qual : Str} {st st0 : Stmt} {rest : List Stmt} {f c : Addr} {L : List (Addr × Str)} {Vx : Wd} {oc kV doc pm ct : Value} {od an : Option Addr} {osl : Array (Option Value)} {N : List Str} {k : Nat} {fs : SM (Tw × Vx.G)} (i : Nat) (v0 : Vx.G) (hv0 : ∀ H, Vx.rep v0 H (fun _ => none)) (hf0 : ∀ b, ¬ Vx.fp v0 b)
    (lk : K.lookup f = some ⟨oc, od, .func (PySem.W.fnOf x qual (defArgs st) (defBody st) (defScope st) .none kV doc pm an (.ref c) ct), osl⟩) (hcd : PySem.W.codeIn K (.ref c) qual = true) (hKP : ∀ t ∈ L, K.lookup t.1 = none)
    (S : FnScope N ["script"] (defScope st)) (hl : 1 ≤ N.length) (hb : defBody st = st0 :: rest)
    (body0 : ∀ (A : Around) (outer : List Env) (s : Shared) (H : Hp) (Ex : XK), Room k (A.deeper (PyProof.Rows.envOfC qual (defScope st) s.heap.objs.size f (.ref c))) →
      PS (cxOf (L2.CX P w) P w K mg base N qual (defScope st) f (.ref c) A outer s H Ex) st0 (tAsg (fun σ H Q => spBeg K (VwX L Vx) [] H Q fun _ _ _ => False) (gName i)))
    (body : ∀ (A : Around) (outer : List Env) (s : Shared) (H : Hp) (E : Ent (TW K (VwX L Vx))) (Ex : XK), Room k (A.deeper (PyProof.Rows.envOfC qual (defScope st) s.heap.objs.size f (.ref c))) →
      DSs (cxOf (L2.CX P w) P w K mg base N qual (defScope st) f (.ref c) A outer s H Ex) (TZ K (VwX L Vx) cls) E (fun cls d _ H => Ex cls d H) rest fs)
    (law : ∀ (inn : Bool) (a : Addr) (ns : List Int) (t q : Addr), ns.length ≤ 63 → ∃ sl' g', fs ((some (.d (.ref a)) :: List.replicate (N.length - 1) none).set i (some (.d (.ref t)))) (lawG v0 inn a ns t q) = some (.rt (.bl true), sl', g')) :
    FnOk P w K mg base (L2.CX P w) (k + 1) f (PySem.W.fnOf x qual (defArgs st) (defBody st) (defScope st) .none kV doc pm an (.ref c) ct) ["script"] (spLawT K L) := by
  refine fn_of lk hcd S (fun vs H Q E ⟨a, ns, h, _⟩ => by rw [h]; rfl) fun A outer s H vs Q Ex hr ⟨a, ns, ev, hs, hn, hT, qq⟩ => ?_
  subst ev
  have hne : ∀ t ∈ L, a ≠ t.1 := fun t ht z => by
    subst z
    rcases hs with (h | ⟨o, h⟩) | ⟨o, _, _, h, _⟩
    · rw [hT t ht] at h; cases h
    · rw [hT t ht] at h; cases h
    · rw [hKP t ht] at h; cases h
  have hinn : ∃ inn : Bool, (inn = true → H a ≠ none) ∧ SqL K (if inn = true then H else fun _ => none) a (ns.map V.int) := by
    cases e : H a with
    | none =>
      refine ⟨false, (fun h => nomatch h), ?_⟩
      exact sql_loc (H := H) hs (by rw [e]; rfl)
    | some o => exact ⟨true, fun _ => by simp, hs⟩
  obtain ⟨inn, hi1, hi2⟩ := hinn
  let g0 : Tw × Vx.G := (⟨inn, a, ns, none, 0, []⟩, v0)
  have B0 : Base (TW K (VwX L Vx)) H (fun _ => none) g0 H (fun _ => none) g0 := .refl (fun _ _ h => by cases h) ⟨⟨hi2, hi1, fun t q h => by cases h⟩, ⟨fun t ht => ⟨#[], hT t ht, True.intro, fun pos cv hc => by
      have z : codeAmong pos [] = some cv := hc
      simp [codeAmong] at z⟩, hv0 H, fun t ht => hf0 _⟩, fun b hb hv => by
      rcases hb with ⟨_, rfl⟩ | ⟨t, q, e, _⟩
      · rcases hv with ⟨t, ht, e⟩ | hv
        · exact hne t ht e
        · exact hf0 _ hv
      · cases e⟩ (fun _ _ => rfl)
  have hbody : PSs (cxOf (L2.CX P w) P w K mg base N qual (defScope st) f (.ref c) A outer s H Ex) (defBody st) (tSeq (tAsg (fun σ H Q => spBeg K (VwX L Vx) [] H Q fun _ _ _ => False) (gName i)) (tS (TZ K (VwX L Vx) cls) K ⟨H, fun _ => none, g0⟩ (fun cls d _ H => Ex cls d H) fs)) := by
    rw [hb]
    exact pss_cons (body0 A outer s H Ex hr) (body A outer s H ⟨H, fun _ => none, g0⟩ Ex hr)
  refine ⟨_, hbody, ?_⟩
  refine ⟨rfl, _, g0, B0, rfl, fun t q0 H' B => ?_⟩
  refine ⟨fun _ => none, begG g0 t q0, (some (.d (.ref a)) :: List.replicate (N.length - 1) none).set i (some (.d (.ref t))), ?_, ?_⟩
  · have r0 : R (W := TW K (VwX L Vx)) K ⟨H, fun _ => none, g0⟩ H (fun _ => none) g0 (some (.d (.ref a)) :: List.replicate (N.length - 1) none) (L2.start N [.ref a]) :=
      start_R (Z := TZ K (VwX L Vx) cls) (P := P) (K := K) (ds := [.ref a]) B0 (.cons (.ref a) .nil) hl
    exact (r0.step B).setd i (.ref t)
  · obtain ⟨sl', g', e⟩ := law inn a ns t q0 hn
    have e' : fs ((some (.d (.ref a)) :: List.replicate (N.length - 1) none).set i (some (.d (.ref t)))) (begG g0 t q0) = some (.rt (.bl true), sl', g') := e
    have hg : goS (TZ K (VwX L Vx) cls) K ⟨H, fun _ => none, g0⟩ (fun cls d _ H => Ex cls d H) (fun _ => none) (some (.rt (.bl true), sl', g')) { nx := fun _ H' => Q .non H', rt := Q } := by
      intro v H2 Hf2 b d
      cases d
      exact qq H2
    exact (congrArg (fun m => goS (TZ K (VwX L Vx) cls) K ⟨H, fun _ => none, g0⟩ (fun cls d _ H => Ex cls d H) (fun _ => none) m { nx := fun _ H' => Q .non H', rt := Q }) e').mpr hg
end
section
variable {X : Cx} {q : Str} {P c : Addr} {cls : Nat → Value} {Vx : Wd} {L : List (Addr × Str)} {E : Ent (TW X.K (VwX L Vx))} {Wx : WX} {n : Nat} {errs : Nat → List Nat}
theorem de_resF {x a : Str} {g : Addr} {k : Nat} {st : Stmt} {fd : FuncData} {Ng : List Str}
    {params : Arguments} {body : Expr} {scope : Scope} {fb : M (Tw × Vx.G) D} {p lpos pos : Pos} (hL : OneT L P q) (F : Fun X.K x x st g fd) (hg : Gl X x) (hm : X.mg x = some (.ref g)) (hk : PySem.W.keepIn X.K (.ref g) = true) (hb : L2.Binds X.K fd [a] []) (Sg : FnScope Ng [a] (defScope st)) (hNg : Ng[0]? = some a) (hva : Vis (defScope st) a)
    (hG : ∀ cdv, Gives3 X Ng x (defScope st) g cdv (defBody st) a q (TTres (TZ X.K (VwX L Vx) cls) X.K q n errs))
    (TB : TabB X.base X.mg c P) (hcode : X.env.code = .ref c) (hr : Room (k + 2) X.A) (LS : LamS X.env.scope scope) (hdef : defaultsOf params X.env = ([], []))
    (hbind : ∀ (q : Str) (cl : List (Str × Addr)) (pm cv ctv : Value), bindArgs (PySem.W.kla_fn "<lambda>" q params body scope cl pm cv ctv) ⟨[], []⟩ = pure [])
    (hbody : ∀ (A : Around) (outer : List Env) (s : Shared) (H : Hp) (Ex : XK) (f c' : Addr), Room k (A.deeper (lamEnv X scope s.heap.objs.size f c')) → DE (lamCx X A outer s H Ex scope f c') (TZ X.K (VwX L Vx) cls) E (fun cls d _ H => Ex cls d H) body fb)
    (hdb : (x == ("__debug__" : Str)) = false := by decide) (hd : (a == ("__debug__" : Str)) = false := by decide) (hcd : (a == ("__classdict__" : Str)) = false := by decide) (hq : X.env.qual ++ "<lambda>" = q := by rfl) :
    DE X (TZ X.K (VwX L Vx) cls) E Wx (.Call (.Name x p) [.Lambda params body scope lpos] [] pos) (eRes n errs fb) := by
  obtain ⟨oc, od, kV, doc, pm, an, cdv, ct, osl, rfl, lk, hcd'⟩ := F.ex
  exact de_res hL hq hg hm hk lk hcd' hb Sg hNg hva (hG cdv) TB hcode hr LS hdef hbind hbody hdb hd hcd
end
end DL
namespace DL
open PySem PySem.Spec PyProof.Rows L2 LamX
/-! ### a dict that is read alone from here on -/
def sLk {G : Type} (i : Nat) (f : SM G) : SM G := fun sl g => match sl[i]? with
  | some (some (.oK kvs)) => f (sl.set i (some (.kK kvs))) g
  | _ => none
section
variable {X : Cx} {Z : Cn} {E : Ent Z.W} {Wx : WX} {sts : List Stmt} {fs : SM Z.W.G}
theorem dss_lock (i : Nat) (h : DSs X Z E Wx sts fs) : DSs X Z E Wx sts (sLk i fs) := by
  refine ⟨fun pins s σ H D I ⟨Hf, g, sl, r, q⟩ => ?_⟩
  unfold sLk at q
  split at q
  · rename_i kvs ei
    obtain ⟨v, h1, a, vs, rfl, h2, h3, h4⟩ := r.slot i _ ei
    obtain ⟨od, I1⟩ := I.lock h2 trivial
    exact h.run pins s σ _ D I1 ⟨_, g, _, r.lock od ei h1 h2 h3 h4, goS.later q (same_new h4.2.1)⟩
  · exact q.elim
theorem dss_never : DSs X Z E Wx sts (fun _ _ => none) := ⟨fun pins s σ H D I ⟨Hf, g, sl, r, q⟩ => q.elim⟩
end
/-! ### the classes of errors -/
def errChk1 (K : PySem.W.Frag) (Cs : List Addr) (CS c : Addr) (i : Nat) (bm : List Value) (newId : String) : Bool :=
  PySem.W.keepIn K (.ref c) && PySem.W.excIn K c bm newId && (PySem.W.subIn K (.ref c) (.type "BaseException") == some true) && (PySem.W.typeIn K (.ref c) == some (.type "type"))
  && (PySem.W.findIn K (.ref c) "__getattribute__" == some (some (.builtin "BaseException.__getattribute__"))) && (PySem.W.findIn K (.ref c) "__getattr__" == some none) && PySem.W.hasDictIn K c
  && (PySem.W.findIn K (.ref c) "__class__" == some (some (.builtin "object.__class__"))) && (PySem.W.specialIn K (.builtin "object.__class__") "__get__" == some (some (.builtin "getset_descriptor.__get__")))
  && (PySem.W.takesIn K (.builtin "object.__class__") == some true) && (PySem.W.mroIn K c (.type "object") == some true)
  && (PySem.W.exmOne K (.ref c) (.ref CS) == some true) && (PySem.W.kitOne K (.ref c) (.type "ValueError") == some true)
  && (List.range Cs.length).all fun j => j == 0 || (PySem.W.kitOne K (.ref c) (.ref (Cs.getD j 0)) == some (i == j))
def errChk (K : PySem.W.Frag) (Cs : List Addr) (bm : List Value) (newId : String) : Bool := (List.range Cs.length).all fun i => errChk1 K Cs (Cs.getD 0 0) (Cs.getD i 0) i bm newId
structure ErrOk (K : PySem.W.Frag) (C CS : Addr) (bm : List Value) (newId : String) : Prop where
  kC : PySem.W.keepIn K (.ref C) = true
  q : PySem.W.excIn K C bm newId = true
  exC : PySem.W.subIn K (.ref C) (.type "BaseException") = some true
  tyC : PySem.W.typeIn K (.ref C) = some (.type "type")
  ex : ExcC K C
  exm : PySem.W.exmOne K (.ref C) (.ref CS) = some true
  ve : PySem.W.kitOne K (.ref C) (.type "ValueError") = some true
theorem errChk_ok {K : PySem.W.Frag} {Cs : List Addr} {bm : List Value} {newId : String} (h : errChk K Cs bm newId = true) {i : Nat} (hi : i < Cs.length) : ErrOk K (Cs.getD i 0) (Cs.getD 0 0) bm newId ∧ ∀ j, j ≠ 0 → j < Cs.length → PySem.W.kitOne K (.ref (Cs.getD i 0)) (.ref (Cs.getD j 0)) = some (i == j) := by
  have h1 := List.all_eq_true.mp h i (List.mem_range.mpr hi)
  unfold errChk1 at h1
  simp only [Bool.and_eq_true, beq_iff_eq] at h1
  obtain ⟨⟨⟨⟨⟨⟨⟨⟨⟨⟨⟨⟨⟨a1, a2⟩, a3⟩, a4⟩, a5⟩, a6⟩, a7⟩, a8⟩, a9⟩, a10⟩, a11⟩, a12⟩, a13⟩, a14⟩ := h1
  refine ⟨⟨a1, a2, a3, a4, ⟨a5, a6, a3, a7, a8, a9, a10, a11⟩, a12, a13⟩, fun j hj hl => ?_⟩
  have := List.all_eq_true.mp a14 j (List.mem_range.mpr hl)
  rw [Bool.or_eq_true] at this
  rcases this with z | z
  · exact absurd (by simpa using z) hj
  · simpa using z
end DL
namespace DL
open PySem PySem.Spec PyProof.Rows L2 LamX
/-! ### deed(..), deed a name that is one of some defs -/
def eDeed {G : Type} (i : Nat) (l : List (Addr × Fn G)) (fs : M G (List D)) : M G D := fun sl g => match sl[i]? with
  | some (some (.d (.ref x))) => match l.find? fun p => decide (p.1 = x) with
    | some p => callM p.2 fs sl g
    | none => none
  | _ => none
section
variable {X : Cx} {Z : Cn} {E : Ent Z.W} {Wx : WX} {e : Expr} {es : List Expr} {pos p : Pos} {fs : M Z.W.G (List D)} {n i : Nat} {y x : Str}
theorem de_fn {a : Addr} (hm : X.mg x = some (.ref a)) (hg : Gl X x := by rfl) (hd : (x == ("__debug__" : Str)) = false := by decide) : DE X Z E Wx (.Name x pos) (eC (.ref a)) :=
  PE.imp (pe_glob (v := .ref a) hg hm rfl hd) fun σ H Q ⟨Hf, g, sl, r, q⟩ => q (.ref a) H Hf r.base.self (.ref a)
theorem de_deed {l : List (Addr × Fn Z.W.G)} (hl : ∀ q ∈ l, ∃ k fd ps, FnOk X.prog X.w X.K X.mg X.base (L2.CX X.prog X.w) k q.1 fd ps (spF Z X.K n q.2) ∧ Room k X.A ∧ PySem.W.keepIn X.K (.ref q.1) = true ∧ Binds X.K fd ps [])
    (tk : Takes X Wx) (hn : (e :: es).length = n) (ha : DA X Z E Wx (e :: es) fs) (hln : ∀ sl g ds g', fs sl g = some (.ok ds, g') → ds.length = n)
    (hN : X.N[i]? = some y := by rfl) (hv : Vis X.env.scope y := by first | exact Or.inl rfl | exact Or.inr (Or.inl rfl) | exact Or.inr (Or.inr rfl)) (hd : (y == ("__debug__" : Str)) = false := by decide) (hcd : (y == ("__classdict__" : Str)) = false := by decide)
    (he : starEach (e :: es) X.env = (false, eval e X.env) :: starEach es X.env := by rfl) (hpl : (backTo pos (starEach es X.env)).any (·.1) = false := by rfl) :
    DE X Z E Wx (.Call (.Name y p) (e :: es) [] pos) (eDeed i l fs) := by
  refine ⟨fun pins s σ H Q I ⟨Hf, g, sl, r, q⟩ => ?_⟩
  unfold eDeed at q
  split at q
  · rename_i a hs
    split at q
    · rename_i pr hf
      have hm := List.mem_of_find?_eq_some hf
      have hx : pr.1 = a := by simpa using List.find?_some hf
      subst hx
      obtain ⟨v, h1, h2⟩ := r.slot i _ hs
      have h2 : Dv X.K Hf v (.ref pr.1) := h2
      cases h2
      obtain ⟨k, fd, ps, F, hr, hk, hb⟩ := hl pr hm
      refine wpAny_Call_Name_kw (ld_var I hN h1 hv (fun u ru => ?_) hd hcd)
      cases ru
      have hT : tG Z X.K E (RlA X.K) Wx fs σ H (fun vs H1 => spF Z X.K n pr.2 vs H1 Q (WE Wx σ)) := by
        refine ⟨Hf, g, sl, r, ?_⟩
        unfold callM M.bind at q
        match eq : fs sl g with
        | none => rw [eq] at q; exact q
        | some (.exc c, g1) => rw [eq] at q; exact q
        | some (.ok ds, g1) =>
          rw [eq] at q
          intro vs H1 Hf1 b1 d1
          exact ⟨by rw [d1.len]; exact hln sl g ds g1 eq, Hf1, g1, ds, b1.self, d1, go_wx (go.later (g := g) q b1)⟩
      exact PySem.W.callWith_K (h₀ := X.base) I.ok.mod.kin hk (thn (ha.run pos pins s σ H _ I hT) fun us s1 ⟨vs, H1, I1, r1, q1⟩ => ⟨I1.kIn, run_fnS F hr hb (passAt tk σ) I1 r1 q1⟩) he hpl
    · exact q.elim
  · exact q.elim
end
end DL
namespace DL
open PySem PySem.Spec PyProof.Rows L2 LamX
/-! ### f(a, .., k=..): some by keywords, in the order of the def -/
def KwM (K : PySem.W.Frag) (fd : FuncData) (n : Nat) (ps : List Str) : Prop := ∀ (s : Shared) (us ws : List Value), K.In s.heap → us.length = n → ws.length = (ps.drop n).length → BindsTo s fd ⟨us, (ps.drop n).zip ws⟩ (ps.zip (us ++ ws))
def aCat {G : Type} (f h : M G (List D)) : M G (List D) := M.bind f fun xs => M.bind h fun ys => M.pure (xs ++ ys)
theorem aCat_n {G : Type} {h : M G (List D)} : aCat aNil h = h := by
  funext sl g
  unfold aCat aNil M.bind M.pure
  simp only
  rcases h sl g with _ | ⟨_ | _, _⟩ <;> rfl
theorem aCat_c {G : Type} {a : M G D} {f h k : M G (List D)} (e : aCat f h = k) : aCat (aCons a f) h = aCons a k := by
  subst e
  funext sl g
  unfold aCat aCons M.bind M.pure
  rcases a sl g with _ | ⟨_ | _, g1⟩
  · rfl
  · simp only
    rcases f sl g1 with _ | ⟨_ | _, g2⟩
    · rfl
    · simp only
      rcases h sl g2 with _ | ⟨_ | _, g3⟩ <;> rfl
    · rfl
  · rfl
section
variable {X : Cx} {Z : Cn} {E : Ent Z.W} {Wx : WX} {k n m : Nat} {f : Addr} {fd : FuncData} {ps : List Str} {x : Str} {p pos kpos : Pos} {kws : List Keyword} {e : Expr} {es : List Expr} {fs fk fa : M Z.W.G (List D)}
theorem pe_callM {sp : Sp} {Ex : L2.St → XK} {t tk : TA} (F : FnOk X.prog X.w X.K X.mg X.base (L2.CX X.prog X.w) k f fd ps sp) (hr : Room k X.A) (hg : Gl X x) (hm : X.mg x = some (.ref f)) (hk : PySem.W.keepIn X.K (.ref f) = true) (hb : KwM X.K fd m ps) (hx : ∀ σ, PassesAt (L2.CX X.prog X.w) X σ (Ex σ))
    (ha : PA X (e :: es) t) (hkw : PK X kws tk) (hdb : (x == ("__debug__" : Str)) = false) (hall : (backToKw pos (keywordEach kws X.env)).all (·.1.isSome) = true) (hks : (backToKw pos (keywordEach kws X.env)).filterMap (·.1) = ps.drop m)
    (he : starEach (e :: es) X.env = (false, eval e X.env) :: starEach es X.env)
    (hpl : ((backTo pos (starEach (e :: es) X.env)).any (·.1) || (backToKw pos (keywordEach kws X.env)).any (·.1.isNone)) = false) :
    PE X (.Call (.Name x p) (e :: es) kws pos) (fun σ H Q => t σ H fun vs H1 => tk σ H1 fun zs H2 => vs.length = m ∧ zs.length = (ps.drop m).length ∧ sp (vs ++ zs) H2 Q (Ex σ)) := by
  refine ⟨fun pins s σ H Q I h => ?_⟩
  refine wpAny_Call_Name_kw (ld_glob I hg hm ?_ hdb)
  refine PySem.W.callWith_KW (h₀ := X.base) I.ok.mod.kin hk hall (thn (ha.run pos pins s σ H _ I h) fun us s1 ⟨vs, H1, I1, r1, q1⟩ => ?_) hpl he
  refine thn (hkw.run pos pins s1 σ H1 _ I1 q1) fun ws s2 ⟨zs, H2, I2, rz, l1, l2, q2⟩ => ⟨I2.kIn, ?_⟩
  rw [hks]
  refine wpAny_call (codeAny_mono (F.run X.A X.stack s2 H2 ⟨us, (ps.drop m).zip ws⟩ (us ++ ws) (vs ++ zs) Q (Ex σ) hr I2.env0 (hb s2 us ws I2.kIn (r1.length.symm.trans l1) (rz.length.symm.trans l2)) (r1.append rz) q2) fun r s' hq => ?_)
  cases r with
  | error e => exact hx σ pins H2 s2 e s' I2 hq
  | ok fl =>
    cases fl with
    | ret u => exact I2.after hq
    | next => exact False.elim hq
    | brk => exact False.elim hq
    | cont => exact False.elim hq
theorem de_callM {F : Fn Z.W.G} (G : FnOk X.prog X.w X.K X.mg X.base (L2.CX X.prog X.w) k f fd ps (spF Z X.K n F)) (hr : Room k X.A) (hg : Gl X x) (hm : X.mg x = some (.ref f)) (hk : PySem.W.keepIn X.K (.ref f) = true) (hb : KwM X.K fd m ps)
    (tk : Takes X Wx) (hn : ps.length = n) (hm2 : m ≤ n) (ha : DA X Z E Wx (e :: es) fs) (hkw : DK X Z E Wx kws fk) (hc : aCat fs fk = fa)
    (hl : ∀ sl g ds g', fs sl g = some (.ok ds, g') → ds.length = m) (hl2 : ∀ sl g ds g', fk sl g = some (.ok ds, g') → ds.length = n - m) (hdb : (x == ("__debug__" : Str)) = false := by decide)
    (hall : (backToKw pos (keywordEach kws X.env)).all (·.1.isSome) = true := by rfl) (hks : (backToKw pos (keywordEach kws X.env)).filterMap (·.1) = ps.drop m := by rfl)
    (he : starEach (e :: es) X.env = (false, eval e X.env) :: starEach es X.env := by rfl)
    (hpl : ((backTo pos (starEach (e :: es) X.env)).any (·.1) || (backToKw pos (keywordEach kws X.env)).any (·.1.isNone)) = false := by rfl) :
    DE X Z E Wx (.Call (.Name x p) (e :: es) kws pos) (callM F fa) := by
  subst hc
  refine PE.imp (pe_callM G hr hg hm hk hb (fun σ => passAt tk σ) ha hkw hdb hall hks he hpl) fun σ H Q ⟨Hf, g, sl, r, q⟩ => ⟨Hf, g, sl, r, ?_⟩
  unfold callM aCat at q
  unfold M.bind at q
  match eq : fs sl g with
  | none => rw [eq] at q; exact q
  | some (.exc c, g1) => rw [eq] at q; exact q
  | some (.ok ds, g1) =>
    rw [eq] at q
    intro vs H1 Hf1 b1 d1
    refine ⟨Hf1, g1, sl, r.step b1, ?_⟩
    match eq2 : fk sl g1 with
    | none => simp only [eq2] at q; exact q
    | some (.exc c, g2) => simp only [eq2] at q; exact go.later (g := g) q b1
    | some (.ok es', g2) =>
      simp only [eq2] at q
      intro zs H2 Hf2 b2 d2
      have l1 : vs.length = m := by rw [d1.len]; exact hl sl g ds g1 eq
      have l2 : zs.length = n - m := by rw [d2.len]; exact hl2 sl g1 es' g2 eq2
      refine ⟨l1, by rw [l2, List.length_drop, hn], by rw [List.length_append, l1, l2]; omega, Hf2, g2, ds ++ es', b2.self, (DvAll.mono b2.ff _ d1).append d2, go_wx (go.later (g := g) q (b1.trans b2))⟩
end
end DL
namespace DL
open PySem PySem.Spec PyProof.Rows L2 LamX
/-! ### x, y = a, b, y a name of one's own: behind it a token is out -/
structure PGT (X : Cx) (target : Expr) (t : TG) : Prop where
  run : ∀ (pins : List (Addr × Obj)) (s : Shared) (σ : L2.St) (H : Hp) (v : V) (u : Value) (Q : L2.St → Hp → Prop), Inv X pins σ H s → RelV v u → t v σ H Q →
    wpAny (model X.prog X.w) X.A (assign target X.env u) (fun _ s' => 1 ≤ s'.toks ∧ ∃ σ' H', Inv X pins σ' H' s' ∧ Q σ' H') X.xe s
structure PGsT (X : Cx) (ts : List Expr) (t : TGs) : Prop where
  run : ∀ (pins : List (Addr × Obj)) (s : Shared) (σ : L2.St) (H : Hp) (vs : List V) (us : List Value) (Q : L2.St → Hp → Prop), Inv X pins σ H s → Vals vs us → t vs σ H Q →
    wpAny (model X.prog X.w) X.A (assignInOrder ((assignEach ts X.env).map (·.2)) us) (fun _ s' => 1 ≤ s'.toks ∧ ∃ σ' H', Inv X pins σ' H' s' ∧ Q σ' H') X.xe s
section
variable {X : Cx} {pos : Pos}
theorem pgt_name {i : Nat} {x : Str} (hN : X.N.Nodup) (hi : X.N[i]? = some x) (hx : X.env.scope.names.lookup x = some .local) : PGT X (.Name x pos) (gName i) := by
  refine ⟨fun pins s σ H v u Q I r h => ?_⟩
  exact wpAny_assign_Name (store_tok I hN hi hx r fun s' k I' => ⟨k, _, H, I', h⟩)
theorem pgst_one {e : Expr} {t : TG} (h1 : PGT X e t) (hs : (assignEach [e] X.env).map (·.2) = assign e X.env :: (assignEach [] X.env).map (·.2) := by rfl) : PGsT X [e] (gCons t gNil) := by
  refine ⟨fun pins s σ H vs us Q I r h => ?_⟩
  obtain ⟨v, vr, e1, h⟩ := h
  subst e1
  cases r with
  | cons r rr =>
    rw [hs]
    refine assignInOrder_cons (thn (h1.run pins s σ H _ _ _ I r h) fun _ s1 ⟨k, σ1, H1, I1, q1⟩ => ?_)
    obtain ⟨e2, q2⟩ := q1
    subst e2
    cases rr
    exact assignInOrder_nil ⟨k, σ1, H1, I1, q2⟩
theorem pgst_cons {e : Expr} {es : List Expr} {t : TG} {u : TGs} (h1 : PG X e t) (h2 : PGsT X es u)
    (hs : (assignEach (e :: es) X.env).map (·.2) = assign e X.env :: (assignEach es X.env).map (·.2) := by rfl) : PGsT X (e :: es) (gCons t u) := by
  refine ⟨fun pins s σ H vs us Q I r h => ?_⟩
  obtain ⟨v, vr, e1, h⟩ := h
  subst e1
  cases r with
  | cons r rr =>
    rw [hs]
    refine assignInOrder_cons (thn (h1.run pins s σ H _ _ _ I r h) fun _ s1 ⟨σ1, H1, I1, q1⟩ => ?_)
    exact h2.run pins s1 σ1 H1 _ _ Q I1 rr q1
theorem pgt_tup {es : List Expr} {k : Nat} {t : TGs} {n : Nat} (hc : X.calm = true) (h : PGsT X es t)
    (hn : (assignEach es X.env).length = n := by rfl) (hst : (assignEach es X.env).findIdx? (·.1) = none := by rfl) : PGT X (.Tuple es k pos) (gTup X.K n t) := by
  refine ⟨fun pins s σ H v u Q I r hw => ?_⟩
  obtain ⟨a, xs, e1, hq, hl, hw⟩ := hw
  subst e1
  cases r
  obtain ⟨its, rv, ht, hz⟩ := I.tuple hq
  refine assign_Tuple_tuple (I.ok.hd hc) ht (by simp [hn, ← hl, rv.length]) hst fun h' hx => ?_
  have I1 : Inv X pins σ H { s with heap := h' } := I.kept (t' := s.toks) fun b o e => hx b o (Nat.ne_of_lt (Heap.lt_size e)) e
  exact h.run pins _ σ H xs _ Q I1 (by simpa using rv) hw
theorem pss_asgGT {tg e : Expr} {te : TE} {g : TG} {rest : List Stmt} {u : TS} (he : PE X e te) (hg : PGT X tg g) (h2 : PSsT X rest u) (hs : swapsWithSole [tg] e pos.line X.env = pure false := by rfl) (hw : swappedStores [tg] e X.env = pure none := by rfl)
    (h1 : (assignEach [tg] X.env).map (·.2) = [assign tg X.env] := by rfl) : PSs X (.Assign [tg] e pos :: rest) (tSeq (tAsg te g) u) := by
  refine ⟨fun pins s σ H D I h => ?_⟩
  refine wpAny_execs_cons (wpAny_Assign_stores (thn (he.run pins s σ H _ I h) fun v s1 ⟨x, H1, I1, r1, q1⟩ => ?_) hs hw)
  rw [h1]
  exact thn (hg.run pins s1 σ H1 x v _ I1 r1 q1) fun _ s2 ⟨k, σ2, H2, I2, q2⟩ => h2 pins s2 σ2 H2 D k I2 q2
end
section
variable {X : Cx} {Z : Cn} {E : Ent Z.W} {Wx : WX} {e a b o : Expr} {fe fo : M Z.W.G D} {pos : Pos} {st : Stmt} {sts : List Stmt} {fs fs' : SM Z.W.G} {j k : Nat} {c0 c1 apos : Pos}
theorem dss_parCT {fx fy : M Z.W.G Slot} {i j : Nat} {x y : Str} {px py pt : Pos} {kt k2 pt2} (hc : X.calm = true) (hN : X.N.Nodup) (hi : X.N[i]? = some x) (hj : X.N[j]? = some y)
    (hx : Loc X.env.scope x) (hy : X.env.scope.names.lookup y = some .local) (ha : DX X Z E Wx a fx) (hb : DX X Z E Wx b fy) (hrest : DSsT X Z E Wx sts fs')
    (hf : X.fn x = true ∨ X.env.scope.names.lookup x = some .local := by first | exact .inl rfl | exact .inr rfl | assumption)
    (hw : swappedStores [.Tuple [.Name x px, .Name y py] kt pt] (.Tuple [a, b] k2 pt2) X.env = pure none := by rfl)
    (hn : (assignEach [.Name x px, .Name y py] X.env).length = 2 := by rfl) (hst : (assignEach [.Name x px, .Name y py] X.env).findIdx? (·.1) = none := by rfl)
    (hs1 : (assignEach [.Name x px, .Name y py] X.env).map (·.2) = assign (.Name x px) X.env :: (assignEach [.Name y py] X.env).map (·.2) := by rfl) (hs2 : (assignEach [.Name y py] X.env).map (·.2) = assign (.Name y py) X.env :: (assignEach [] X.env).map (·.2) := by rfl)
    (hs : swapsWithSole [.Tuple [.Name x px, .Name y py] kt pt] (.Tuple [a, b] k2 pt2) pos.line X.env = pure false := by rfl) (h1 : starEach [a, b] X.env = (false, eval a X.env) :: starEach [b] X.env := by rfl) (h2 : starEach [b] X.env = (false, eval b X.env) :: starEach [] X.env := by rfl)
    (ht : (assignEach [.Tuple [.Name x px, .Name y py] kt pt] X.env).map (·.2) = [assign (.Tuple [.Name x px, .Name y py] kt pt) X.env] := by rfl) :
    DSs X Z E Wx (.Assign [.Tuple [.Name x px, .Name y py] kt pt] (.Tuple [a, b] k2 pt2) pos :: sts) (sSeq (sPar i j fx fy) fs') := by
  refine PSs.imp (pss_asgGT (pe_tup (pa_cons ha (pa_cons hb pa_nil h2) h1)) (pgt_tup hc (pgst_cons (pg_name hN hi hx hf) (pgst_one (pgt_name hN hj hy) hs2) hs1) hn hst) hrest hs hw ht) fun D σ H ⟨Hf, g, sl, r, q⟩ => ?_
  refine ⟨Hf, g, sl, r, (goS_do (Rl := RlX X.K E H) r (goS_seq q)).mono fun v H1 ⟨Hf1, g1, s1, b1, r1, d1, q1⟩ => ⟨Hf1, g1, sl, r1, (goS_do (Rl := RlX X.K E H1) r1 q1).mono fun w H2 ⟨Hf2, g2, s2, b2, r2, d2, q2⟩ => ?_⟩⟩
  refine ⟨by show 2 ≤ sizeLine; decide, fun p hp => ?_⟩
  have rA := R.set_new (X := X) (i := i) r r1 d1
  have rB := R.set_new (X := X) (i := j) rA (rA.step b2) d2
  exact ⟨p, [v, w], rfl, SqT.of upd_same, rfl, v, [w], rfl, w, [], rfl, rfl, q2 _ _ Hf2 (same_refl _) (rB.tupU _ hp)⟩
theorem okS_1 {c : Nat} (h : okS [c] := by exact ⟨by unfold LIM; decide, by decide⟩) : okS [c] := h
/-- o.replace("p", "c") -/
def rplCD (p c : Nat) (x : D) : Option D := match x with
  | .str x => if x.length ≤ 1000 then some (.str (x.map fun d => if d = p then c else d)) else none
  | _ => none
theorem det_replC {p c : Nat} (ho : DE X Z E Wx o fo) (hc : okS [c]) (hyz : (mkS [p] == mkS [c]) = false := by decide)
    (hst : starEach [.Constant (.str (mkS [p])) j c0, .Constant (.str (mkS [c])) k c1] X.env = [(false, eval (.Constant (.str (mkS [p])) j c0) X.env), (false, eval (.Constant (.str (mkS [c])) k c1) X.env)] := by rfl)
    (hbase : attributeBase o "replace" X.env (eval o X.env) = eval o X.env := by rfl) (hline : (apos.endLine == pos.line) = true := by rfl) :
    DET X Z E Wx (.Call (.Attribute o "replace" apos) [.Constant (.str (mkS [p])) j c0, .Constant (.str (mkS [c])) k c1] [] pos) (e1 (rplCD p c) fo) := by
  refine PET.imp (CwR.pet_replC ho hyz hst hbase hline) fun σ H Q ⟨Hf, g, sl, r, q⟩ => ⟨Hf, g, sl, r, (go_bind (Rm := RlD X.K) q).mono fun v H1 ⟨Hf1, g1, d, b1, d1, q1⟩ => ?_⟩
  obtain ⟨d', ed, kk⟩ := go_lift q1
  unfold rplCD at ed
  split at ed
  · rename_i x
    split at ed
    · rename_i hx
      cases ed
      obtain ⟨rfl, hok⟩ := dv_okS d1
      refine ⟨mkS x, rfl, by rw [mkS_len, mkS_len]; simp; omega, ?_⟩
      rw [replace_map]
      refine kk _ _ _ b1.self (.str _ ⟨by rw [List.length_map]; exact hok.1, fun d hd => ?_⟩)
      obtain ⟨d', hd', rfl⟩ := List.mem_map.mp hd
      split
      · exact hc.2 c (by simp)
      · exact hok.2 d' hd'
    · cases ed
  · cases ed
end
end DL
namespace DL
open PySem PySem.Spec PyProof.Rows L2 LamX
section
variable {X : Cx} {Z : Cn} {E : Ent Z.W} {Wx : WX} {k : Nat} {f : Addr} {fd : FuncData} {x : Str} {p pos : Pos}
/-- f() -/
theorem de_callZ {F : Fn Z.W.G} (G : FnOk X.prog X.w X.K X.mg X.base (L2.CX X.prog X.w) k f fd [] (spF Z X.K 0 F)) (hr : Room k X.A) (hg : Gl X x) (hm : X.mg x = some (.ref f)) (hk : PySem.W.keepIn X.K (.ref f) = true) (hb : Binds X.K fd [] [])
    (tk : Takes X Wx) (hdb : (x == ("__debug__" : Str)) = false := by decide) : DE X Z E Wx (.Call (.Name x p) [] [] pos) (callM F aNil) := by
  refine ⟨fun pins s σ H Q I ⟨Hf, g, sl, r, q⟩ => ?_⟩
  refine wpAny_Call_Name_kw (ld_glob I hg hm ?_ hdb)
  refine PySem.W.callWith_K0 I.kIn hk (run_fnS (us := []) (vs := []) (E := WE Wx) G hr hb (passAt tk σ) I .nil ?_)
  exact ⟨rfl, Hf, g, [], r.base.self, .nil, go_wx q⟩
/-- a def whose code object is known -/
theorem fn_okC {P : Program} {w : World} {K : PySem.W.Frag} {mg : Str → Option Value} {base : Heap} {x qual : Str} {st : Stmt} {f c : Addr} {oc kV doc pm ct : Value} {od an : Option Addr} {osl : Array (Option Value)} {N ps : List Str} {k : Nat} {fs : SM Z.W.G}
    (lk : K.lookup f = some ⟨oc, od, .func (PySem.W.fnOf x qual (defArgs st) (defBody st) (defScope st) .none kV doc pm an (.ref c) ct), osl⟩) (hcd : PySem.W.codeIn K (.ref c) qual = true) (S : FnScope N ps (defScope st)) (hl : ps.length ≤ N.length)
    (body : ∀ (A : Around) (outer : List Env) (s : Shared) (H : Hp) (E : Ent Z.W) (Ex : XK), Room k (A.deeper (PyProof.Rows.envOfC qual (defScope st) s.heap.objs.size f (.ref c))) →
      DSs (cxOf (L2.CX P w) P w K mg base N qual (defScope st) f (.ref c) A outer s H Ex) Z E (fun cls d _ H => Ex cls d H) (defBody st) fs) :
    FnOk P w K mg base (L2.CX P w) (k + 1) f (PySem.W.fnOf x qual (defArgs st) (defBody st) (defScope st) .none kV doc pm an (.ref c) ct) ps (spF Z K ps.length (fnD N.length fs)) := by
  refine fn_of lk hcd S (fun vs H Q E h => h.1) fun A outer s H vs Q Ex hr ⟨hv, Hf, g, ds, B, dv, q⟩ => ⟨_, body A outer s H ⟨H, Hf, g⟩ Ex hr, Hf, g, _, start_R (P := P) B dv (by rw [← dv.len, hv]; exact hl), ?_⟩
  unfold fnD at q
  match em : fs (ds.map (fun d => some (.d d)) ++ List.replicate (N.length - ds.length) none) g with
  | none => rw [em] at q; exact q.elim
  | some (.nx, sl', g') => rw [em] at q ⊢; exact fun σ' H' Hf' _ r => q .non H' Hf' r.base .non
  | some (.bk, sl', g') => rw [em] at q; exact q.elim
  | some (.ct, sl', g') => rw [em] at q; exact q.elim
  | some (.rt d, sl', g') => rw [em] at q ⊢; exact q
  | some (.ex c, sl', g') => rw [em] at q ⊢; exact fun σ' H' Hf' r => q H' Hf' r.base
end
end DL
namespace DL
open PySem PySem.Spec PyProof.Rows L2 LamX
/-! ### a dict of texts, made, asked, and returned by a def -/
section
variable {G : Type}
def xK1 (fk fv : M G D) : M G Slot := M.bind fk fun k => M.bind fv fun v => M.lift ((keyD k).map fun ky => .oK [(ky, v)])
def eDNin (i : Nat) (fk : M G D) : M G D := M.bind fk fun k => M.bind (mK i) fun kvs => M.lift ((keyD k).map fun k => .bl (!(dGet kvs k).isSome))
def eDGet2 (i : Nat) (fk fd : M G D) : M G D := M.bind (mK i) fun kvs => M.bind fk fun k => M.bind fd fun d => M.lift ((keyD k).map fun ky => (dGet kvs ky).getD d)
def sKPut (i : Nat) (fk fv : M G D) : SM G := sOwnK i <| sDo fv fun v => sDo fk fun k => sMutK i fun kvs => (keyD k).bind fun ky => if kvs.length < LIM then some (dPut kvs ky v) else none
abbrev FnS (G : Type) := List D → G → Option (Res (List (DKey × D)) × G)
/-- a def whose end is return x, x a dict of its own -/
def fnKD (m i : Nat) (fs : SM G) : FnS G := fun ds g => match fs (ds.map (fun d => some (.d d)) ++ List.replicate (m - ds.length) none) g with
  | some (.nx, sl', g') => match sl'[i]? with
    | some (some (.oK kvs)) => some (.ok kvs, g')
    | _ => none
  | some (.ex c, _, g') => some (.exc c, g')
  | _ => none
def xCallK (F : FnS G) (fs : M G (List D)) : M G Slot := M.bind fs fun ds => fun _ g => match F ds g with
  | some (.ok kvs, g') => some (.ok (.oK kvs), g')
  | some (.exc c, g') => some (.exc c, g')
  | none => none
end
def NewK (K : PySem.W.Frag) {Z : Cn} (H0 : Hp) : Z.W.G → Hp → Hp → V → List (DKey × D) → Prop := fun g Hf H v kvs => ∃ a vs, v = .ref a ∧ H0 a = none ∧ H a = some (.dK vs) ∧ KVd K Hf vs kvs ∧ Hf a = none ∧ ¬ Z.W.fp g a
def spFK (Z : Cn) (K : PySem.W.Frag) (n : Nat) (F : FnS Z.W.G) : Sp := fun vs H Q Ex => vs.length = n ∧ ∃ (Hf : Hp) (g : Z.W.G) (ds : List D), Base Z.W H Hf g H Hf g ∧ DvAll K Hf vs ds ∧
  go Z (NewK K H) (fun cls d _ H' => Ex cls d H') [] (F ds g) H Hf g Q
def goSK (Z : Cn) (K : PySem.W.Frag) (E : Ent Z.W) (Wx : WX) (i : Nat) (Hf : Hp) (m : Option (Fl × SL × Z.W.G)) (D : Ends) : Prop :=
  match m with
  | some (.nx, sl', g') => ∃ kvs, sl'[i]? = some (some (.oK kvs)) ∧ ∀ σ' H' Hf' a, Same Hf Hf' → R K E H' Hf' g' sl' σ' → σ'[i]? = some (some (.ref a)) → D.rt (.ref a) H'
  | some (.ex c, sl', g') => ∀ σ' H' Hf', R K E H' Hf' g' sl' σ' → Wx (Z.cls c) none σ' H'
  | _ => False
def tSK (Z : Cn) (K : PySem.W.Frag) (E : Ent Z.W) (Wx : WX) (i : Nat) (f : SM Z.W.G) : TS := fun D σ H => ∃ (Hf : Hp) (g : Z.W.G) (sl : SL), R K E H Hf g sl σ ∧ goSK Z K E Wx i Hf (f sl g) D
section
variable {X : Cx} {Z : Cn} {E : Ent Z.W} {Wx : WX} {e a b c : Expr} {pos p ap cp : Pos} {fe fa fb fc : M Z.W.G D} {i : Nat} {x : Str} {st : Stmt} {sts : List Stmt} {fs fs' : SM Z.W.G}
theorem dx_k1 (hk : DE X Z E Wx a fa) (hv : DE X Z E Wx e fe) : DX X Z E Wx (.Dict [some a] [e] pos) (xK1 fa fe) := by
  refine PE.imp (pe_disp (pps_cons hk hv pps_nil) rfl rfl (by simp) (by simp)) fun σ H Q ⟨Hf, g, sl, r, q⟩ p hp => ?_
  obtain ⟨n1, n2, n3⟩ := new_n r.base.self hp
  have hE : E.H p = none := by
    cases e : E.H p with
    | none => rfl
    | some o => exact absurd n1 (r.base.there p (by rw [e]; simp))
  have b0 := r.base.self.allocU (.dK []) hp
  refine ⟨Hf, g, sl, r.step b0, ?_⟩
  unfold xK1 M.bind at q
  match ek : fa sl g with
  | none => rw [ek] at q; exact q.elim
  | some (.exc c, g1) =>
    rw [ek] at q
    exact fun H' Hf' b' => q H' Hf' (b0.trans b')
  | some (.ok kd, g1) =>
    rw [ek] at q
    intro y H1 Hf1 b1 d1
    refine ⟨Hf1, g1, sl, (r.step b0).step b1, ?_⟩
    simp only at q
    match ev : fe sl g1 with
    | none => rw [ev] at q; exact q.elim
    | some (.exc c, g2) =>
      rw [ev] at q
      exact fun H' Hf' b' => q H' Hf' (b0.trans (b1.trans b'))
    | some (.ok vd, g2) =>
      rw [ev] at q
      intro y2 H2 Hf2 b2 d2
      simp only [M.lift] at q
      match et : keyD kd with
      | none => rw [et] at q; exact q.elim
      | some ky =>
        rw [et] at q
        obtain rfl := keyD_v et d1
        have b12 := b1.trans b2
        have hp2 : H2 p = some (.dK []) := b12.keep p _ upd_same n3
        have hf2 : Hf2 p = none := (b12.old p (by rw [upd_same]; simp)).trans n2
        have hg2 : ¬ Z.W.fp g2 p := fun z => by
          rcases b12.fpo p z with z | z
          · exact n3 z
          · rw [upd_same] at z; cases z
        refine ⟨hp2, [(toKey ky, y2)], rfl, by simp, ?_⟩
        have bA := (b0.trans b12).updFresh (.dK [(toKey ky, y2)]) n1 hf2 hg2
        exact q _ _ _ bA ⟨⟨p, _, rfl, upd_same, .cons ⟨rfl, d2⟩ .nil, hE, hf2, hg2⟩, fun _ a ea => by cases ea; exact n1⟩
theorem dt_dnin (hu : X.A.units + 1 < cLine) (hk : DE X Z E Wx a fa) (hN : X.N[i]? = some x := by rfl) (hv : Vis X.env.scope x := by first | exact Or.inl rfl | exact Or.inr (Or.inl rfl) | exact Or.inr (Or.inr rfl)) (hd : (x == ("__debug__" : Str)) = false := by decide)
    (hcd : (x == ("__classdict__" : Str)) = false := by decide) (hb : behindInMarks .NotIn (.Name x p) = false := by rfl) : DT X Z E Wx (.Compare a [.NotIn] [.Name x p] pos) (tV (eDNin i fa)) := by
  refine PT.imp (pt_cmp (pc_dnotin hu hk (pe_var hN hv hd hcd)) hb) fun σ H Q h => tB_of h fun Q' q => ?_
  obtain ⟨Hf, g, sl, r, q⟩ := q
  refine ⟨Hf, g, sl, r, (go_bind (Rm := RlD X.K) q).mono fun y H1 ⟨Hf1, g1, kd, b1, d1, q1⟩ => ?_⟩
  obtain ⟨b, kvs, h1, h2, q2⟩ := mK_go (r.step b1) q1
  obtain ⟨d, ed, k⟩ := go_lift q2
  obtain ⟨ky, e1, rfl⟩ := Option.map_eq_some_iff.mp ed
  obtain rfl := keyD_v e1 d1
  obtain ⟨vs, rd, kv⟩ := (r.step b1).dk h2 h1
  refine ⟨_, h1, b, valV vs (toKey ky), rfl, .inl ⟨vs, _, rd, rfl, rfl⟩, ?_⟩
  rcases pv_get toKey_inj ky kv with ⟨n1, n2⟩ | ⟨d', v, n1, n2, n3⟩
  · rw [n1] at k
    rw [n2]
    exact k _ _ _ b1.self (.bl _)
  · rw [n1] at k
    rw [n2]
    exact k _ _ _ b1.self (.bl _)
theorem de_dget2 (hu : X.A.units + 1 < cLine) (ha : DE X Z E Wx a fa) (hb : DE X Z E Wx b fb) (hN : X.N[i]? = some x := by rfl) (hv : Vis X.env.scope x := by first | exact Or.inl rfl | exact Or.inr (Or.inl rfl) | exact Or.inr (Or.inr rfl)) (hd : (x == ("__debug__" : Str)) = false := by decide)
    (hcd : (x == ("__classdict__" : Str)) = false := by decide) (m : M2 X (.Name x p) "get" ap a b cp := by exact ⟨rfl, rfl, rfl, rfl⟩) : DE X Z E Wx (.Call (.Attribute (.Name x p) "get" ap) [a, b] [] cp) (eDGet2 i fa fb) := by
  refine PE.imp (pe_dget2 hu (pe_var hN hv hd hcd) ha hb m) fun σ H Q ⟨Hf, g, sl, r, q⟩ => ?_
  obtain ⟨b, kvs, h1, h2, q1⟩ := mK_go r q
  obtain ⟨vs0, rd0, _⟩ := r.dk h2 h1
  refine ⟨_, h1, b, rfl, .inl ⟨vs0, rd0⟩, Hf, g, sl, r, (go_bind (Rm := RlD X.K) q1).mono fun y H1 ⟨Hf1, g1, kd, b1, d1, q2⟩ => ⟨Hf1, g1, sl, r.step b1, (go_bind (Rm := RlD X.K) q2).mono fun z H2 ⟨Hf2, g2, dd, b2, d2, q3⟩ => ?_⟩⟩
  obtain ⟨d, ed, k⟩ := go_lift q3
  obtain ⟨ky, e1, rfl⟩ := Option.map_eq_some_iff.mp ed
  obtain rfl := keyD_v e1 d1
  obtain ⟨vs, rd, kv⟩ := ((r.step b1).step b2).dk h2 h1
  refine ⟨valV vs (toKey ky), .inl ⟨vs, _, rd, rfl, rfl⟩, ?_⟩
  rcases pv_get toKey_inj ky kv with ⟨n1, n2⟩ | ⟨d', v, n1, n2, n3⟩
  · rw [n1] at k
    rw [n2]
    exact k _ _ _ b2.self d2
  · rw [n1] at k
    rw [n2]
    exact k _ _ _ b2.self n3
theorem ds_kput {ps : Pos} (hu : X.A.units + 1 < cLine) (hk : DE X Z E Wx a fa) (he : DE X Z E Wx e fe) (hN : X.N[i]? = some x := by rfl) (hv : Vis X.env.scope x := by first | exact Or.inl rfl | exact Or.inr (Or.inl rfl) | exact Or.inr (Or.inr rfl)) (hd : (x == ("__debug__" : Str)) = false := by decide)
    (hcd : (x == ("__classdict__" : Str)) = false := by decide) (hs : swapsWith e (some (.Subscript (.Name x p) a ps)) pos.line X.env = pure false := by rfl) :
    DS X Z E Wx (.Assign [.Subscript (.Name x p) a ps] e pos) (sKPut i fa fe) := by
  refine PS.imp (ps_dput hu (pe_var hN hv hd hcd) hk he hs) fun D σ H ⟨Hf, g, sl, r, q⟩ => ?_
  obtain ⟨xs, hi, q⟩ := goS_ownK q
  refine ⟨Hf, g, sl, r, (goS_do (Rl := RlD X.K) r q).mono fun v H1 ⟨Hf1, g1, d, b1, r1, d1, q1⟩ => ?_⟩
  obtain ⟨v0, h1, l, vs, rfl, hH, dv, hown⟩ := r1.slot i _ hi
  refine ⟨_, h1, Hf1, g1, sl, r1, (goS_do (Rl := RlD X.K) r1 q1).mono fun kv H2 ⟨Hf2, g2, kd, b2, r2, d2, q2⟩ => ?_⟩
  unfold sMutK at q2
  rw [hi] at q2
  simp only at q2
  match ek : keyD kd with
  | none => rw [ek] at q2; exact q2.elim
  | some ky =>
    rw [ek] at q2
    simp only [Option.bind_some] at q2
    obtain rfl := keyD_v ek d2
    obtain ⟨v2, h12, l2, vs2, e2, hH2, kv2, own2⟩ := r2.slot i _ hi
    rw [h1] at h12
    cases h12
    cases e2
    split at q2
    · rename_i ys hy
      split at hy
      · rename_i hlen
        cases hy
        have kv' := pv_put toKey_inj ky (Dv.mono b2.ff _ d1) kv2
        exact ⟨l, _, rfl, DPut.k hH2 (by rw [pv_len kv2]; exact lim_lt (Nat.le_of_lt hlen)), q2 σ _ Hf2 (same_refl _) (r2.updAny hi rfl rfl h1 own2 ⟨l, _, rfl, upd_same, kv', own2⟩)⟩
      · cases hy
    · exact q2.elim
/-! the def -/
abbrev DSsK (X : Cx) (Z : Cn) (E : Ent Z.W) (Wx : WX) (i : Nat) (st : List Stmt) (f : SM Z.W.G) : Prop := PSs X st (tSK Z X.K E Wx i f)
theorem goSK_seq {K : PySem.W.Frag} {Hf : Hp} {sl : SL} {g : Z.W.G} {f1 f2 : SM Z.W.G} {D : Ends} (h : goSK Z K E Wx i Hf (sSeq f1 f2 sl g) D) : goS Z K E Wx Hf (f1 sl g) { D with nx := tSK Z K E Wx i f2 D } := by
  unfold sSeq at h
  match e : f1 sl g with
  | none => rw [e] at h; exact h.elim
  | some (.nx, sl1, g1) =>
    rw [e] at h
    intro σ' H' Hf' s r
    refine ⟨Hf', g1, sl1, r, ?_⟩
    simp only at h
    match e2 : f2 sl1 g1 with
    | none => rw [e2] at h; exact h.elim
    | some (.nx, sl2, g2) =>
      rw [e2] at h
      obtain ⟨kvs, h1, h2⟩ := h
      exact ⟨kvs, h1, fun σ2 H2 Hf2 a s2 => h2 σ2 H2 Hf2 a (Same.tr s s2)⟩
    | some (.bk, sl2, g2) => rw [e2] at h; exact h.elim
    | some (.ct, sl2, g2) => rw [e2] at h; exact h.elim
    | some (.rt d, sl2, g2) => rw [e2] at h; exact h.elim
    | some (.ex d, sl2, g2) => rw [e2] at h; exact h
  | some (.bk, sl1, g1) => rw [e] at h; exact h.elim
  | some (.ct, sl1, g1) => rw [e] at h; exact h.elim
  | some (.rt d, sl1, g1) => rw [e] at h; exact h.elim
  | some (.ex d, sl1, g1) => rw [e] at h; exact h
theorem dssK_cons (h1 : DS X Z E Wx st fs) (h2 : DSsK X Z E Wx i sts fs') : DSsK X Z E Wx i (st :: sts) (sSeq fs fs') :=
  PSs.imp (pss_cons h1 h2) fun D σ H ⟨Hf, g, sl, r, q⟩ => ⟨Hf, g, sl, r, goSK_seq q⟩
theorem dssK_ret (hN : X.N[i]? = some x := by rfl) (hv : Vis X.env.scope x := by first | exact Or.inl rfl | exact Or.inr (Or.inl rfl) | exact Or.inr (Or.inr rfl)) (hd : (x == ("__debug__" : Str)) = false := by decide)
    (hcd : (x == ("__classdict__" : Str)) = false := by decide) : DSsK X Z E Wx i [.Return (some (.Name x p)) pos] sSkip := by
  refine PSs.imp (pss_one (ps_ret (pe_var hN hv hd hcd))) fun D σ H ⟨Hf, g, sl, r, q⟩ => ?_
  obtain ⟨kvs, h1, h2⟩ := q
  obtain ⟨v, h3, a, vs, rfl, _⟩ := r.slot i _ h1
  exact ⟨_, h3, h2 σ H Hf a (same_refl _) r h3⟩
theorem fn_okK {P : Program} {w : World} {K : PySem.W.Frag} {mg : Str → Option Value} {base : Heap} {x qual : Str} {st : Stmt} {f : Addr} {fd : FuncData} {N ps : List Str} {k i : Nat} {fs : SM Z.W.G} (F : Fun K x qual st f fd) (S : FnScope N ps (defScope st)) (hl : ps.length ≤ N.length)
    (body : ∀ (cdv : Value) (A : Around) (outer : List Env) (s : Shared) (H : Hp) (E : Ent Z.W) (Ex : XK), Room k (A.deeper (PyProof.Rows.envOfC qual (defScope st) s.heap.objs.size f cdv)) →
      DSsK (cxOf (L2.CX P w) P w K mg base N qual (defScope st) f cdv A outer s H Ex) Z E (fun cls d _ H => Ex cls d H) i (defBody st) fs) :
    FnOk P w K mg base (L2.CX P w) (k + 1) f fd ps (spFK Z K ps.length (fnKD N.length i fs)) := by
  refine F.okX S (fun vs H Q E h => h.1) fun cdv A outer s H vs Q Ex hr ⟨hv, Hf, g, ds, B, dv, q⟩ => ⟨_, body cdv A outer s H ⟨H, Hf, g⟩ Ex hr, Hf, g, _, start_R (P := P) B dv (by rw [← dv.len, hv]; exact hl), ?_⟩
  unfold fnKD at q
  match em : fs (ds.map (fun d => some (.d d)) ++ List.replicate (N.length - ds.length) none) g with
  | none => rw [em] at q; exact q.elim
  | some (.nx, sl', g') =>
    rw [em] at q ⊢
    simp only at q
    split at q
    · rename_i kvs hk
      refine ⟨kvs, hk, fun σ' H' Hf' a _ r ha => ?_⟩
      obtain ⟨v, h3, a', vs', rfl, h4, h5, h6⟩ := r.slot i _ hk
      rw [ha] at h3
      cases h3
      exact q _ H' Hf' r.base ⟨a, vs', rfl, h6.1, h4, h5, h6.2.1, h6.2.2⟩
    · exact q.elim
  | some (.bk, sl', g') => rw [em] at q; exact q.elim
  | some (.ct, sl', g') => rw [em] at q; exact q.elim
  | some (.rt d, sl', g') => rw [em] at q; exact q.elim
  | some (.ex c, sl', g') => rw [em] at q ⊢; exact fun σ' H' Hf' r => q H' Hf' r.base
theorem dx_callK {k n : Nat} {f : Addr} {fd : FuncData} {ps : List Str} {es : List Expr} {fs : M Z.W.G (List D)} {F : FnS Z.W.G} (G : FnOk X.prog X.w X.K X.mg X.base (L2.CX X.prog X.w) k f fd ps (spFK Z X.K n F)) (hr : Room k X.A) (hg : Gl X x) (hm : X.mg x = some (.ref f)) (hk : PySem.W.keepIn X.K (.ref f) = true) (hb : Binds X.K fd ps [])
    (tk : Takes X Wx) (hn : (e :: es).length = n) (ha : DA X Z E Wx (e :: es) fs) (hl : ∀ sl g ds g', fs sl g = some (.ok ds, g') → ds.length = n) (hdb : (x == ("__debug__" : Str)) = false := by decide) (he : starEach (e :: es) X.env = (false, eval e X.env) :: starEach es X.env := by rfl) (hpl : (backTo pos (starEach es X.env)).any (·.1) = false := by rfl) :
    DX X Z E Wx (.Call (.Name x p) (e :: es) [] pos) (xCallK F fs) := by
  refine PE.imp (pe_callS G hr hg hm hk hb (fun σ => passAt tk σ) ha hdb he hpl) fun σ H Q ⟨Hf, g, sl, r, q⟩ => ?_
  refine ⟨Hf, g, sl, r, ?_⟩
  unfold xCallK M.bind at q
  match eq : fs sl g with
  | none => rw [eq] at q; exact q
  | some (.exc c, g1) => rw [eq] at q; exact q
  | some (.ok ds, g1) =>
    rw [eq] at q
    intro vs H1 Hf1 b1 d1
    refine ⟨by rw [d1.len]; exact hl sl g ds g1 eq, Hf1, g1, ds, b1.self, d1, ?_⟩
    simp only at q
    match eF : F ds g1 with
    | none => rw [eF] at q; exact q.elim
    | some (.exc c, g2) =>
      rw [eF] at q
      exact fun H' Hf' b' => q H' Hf' (b1.trans b')
    | some (.ok kvs, g2) =>
      rw [eF] at q
      intro v H' Hf' b' ⟨a', vs', ev, n0, n1, n2, n3, n4⟩
      subst ev
      have hH : H a' = none := by
        cases e0 : H a' with
        | none => rfl
        | some o => exact absurd n0 (b1.there a' (by rw [e0]; simp))
      have hE : E.H a' = none := by
        cases e0 : E.H a' with
        | none => rfl
        | some o => exact absurd hH (r.base.there a' (by rw [e0]; simp))
      exact q _ H' Hf' (b1.trans b') ⟨⟨a', vs', rfl, n1, n2, hE, n3, n4⟩, fun _ a ea => by cases ea; exact hH⟩
end
end DL
namespace DL
open PySem PySem.Spec PyProof.Rows L2 LamX
/-! ### texts cut at a sign -/
def splN (s : Nat) : List Nat → List Nat → List (List Nat)
  | acc, [] => [acc]
  | acc, c :: r => if c = s then acc :: splN s [] r else splN s (acc ++ [c]) r
theorem splN_eq (s : Nat) : ∀ (r acc : List Nat), TL.spl [s] 0 acc r = splN s acc r
  | [], acc => TL.spl_nil _ _ _
  | c :: r, acc => by
    by_cases h : c = s
    · subst h
      rw [TL.spl_hit (by show ((c :: r).take 1 == [c]) = true; simp)]
      show acc :: TL.spl [c] 0 [] r = (if c = c then acc :: splN c [] r else splN c (acc ++ [c]) r)
      rw [if_pos rfl, splN_eq c r []]
    · rw [TL.spl_miss (TL.pre_of_head [] r h), splN_eq s r]
      show _ = (if c = s then acc :: splN s [] r else splN s (acc ++ [c]) r)
      rw [if_neg h]
theorem splN_mem {s : Nat} : ∀ {r acc p : List Nat}, p ∈ splN s acc r → p.length ≤ acc.length + r.length ∧ ∀ c ∈ p, c ∈ acc ∨ c ∈ r
  | [], acc, p, h => by
    rw [List.mem_singleton.mp h]
    exact ⟨Nat.le_add_right _ _, fun c hc => .inl hc⟩
  | c :: r, acc, p, h => by
    have h : p ∈ (if c = s then acc :: splN s [] r else splN s (acc ++ [c]) r) := h
    split at h
    · rcases List.mem_cons.mp h with rfl | h
      · exact ⟨Nat.le_add_right _ _, fun c hc => .inl hc⟩
      · obtain ⟨h1, h2⟩ := splN_mem h
        refine ⟨by simp at h1 ⊢; omega, fun d hd => ?_⟩
        rcases h2 d hd with z | z
        · cases z
        · exact .inr (by simp [z])
    · obtain ⟨h1, h2⟩ := splN_mem h
      refine ⟨by simp at h1 ⊢; omega, fun d hd => ?_⟩
      rcases h2 d hd with z | z
      · rcases List.mem_append.mp z with z | z
        · exact .inl z
        · exact .inr (by rw [List.mem_singleton.mp z]; simp)
      · exact .inr (by simp [z])
theorem splN_num (s : Nat) : ∀ (r acc : List Nat), (splN s acc r).length ≤ r.length + 1
  | [], acc => Nat.le_refl _
  | c :: r, acc => by
    show (if c = s then acc :: splN s [] r else splN s (acc ++ [c]) r).length ≤ _
    split
    · have := splN_num s r []; simp; omega
    · have := splN_num s r (acc ++ [c]); simp; omega
theorem split_mkS (x : List Nat) {s : Nat} (h : s < 256) : Txt.split (mkS x) (mkS [s]) = (splN s [] x).map mkS := by
  refine TL.map_tl_inj ?_
  rw [TL.split_spl (mkS x) (mkS [s]) (by simp [TL.tl, mkS]) (TL.kind_ok (by simp [mkS, h])), List.map_map]
  have e1 : TL.tl (mkS [s]) = [s] := mkS_cps [s]
  have e2 : TL.tl (mkS x) = x := mkS_cps x
  rw [e1, e2, splN_eq]
  have e3 : TL.tl ∘ mkS = id := funext fun y => mkS_cps y
  rw [e3, List.map_id]
def splD (x : List Nat) : D → Option D
  | .str [s] => if x.length ≤ 1000 ∧ s < 256 then some (.lst ((splN s [] x).map D.str)) else none
  | _ => none
def eSplit {G : Type} (a b : M G D) : M G D := M.bind a fun x => M.bind (M.lift (asS x)) fun s => M.bind b fun y => M.lift (splD s y)
section
variable {X : Cx} {Z : Cn} {E : Ent Z.W} {Wx : WX} {e a b c : Expr} {pos p ap cp p1 p2 npos apos cpos : Pos} {fe fa fb fc : M Z.W.G D} {i : Nat} {x : Str}
theorem de_split (ha : DE X Z E Wx a fa) (hb : DE X Z E Wx b fb) (hs : starEach [b] X.env = [(false, eval b X.env)] := by rfl) (hbase : attributeBase a "split" X.env (eval a X.env) = eval a X.env := by rfl) (hline : (ap.endLine == cp.line) = true := by rfl) :
    DE X Z E Wx (.Call (.Attribute a "split" ap) [b] [] cp) (eSplit fa fb) := by
  refine PE.imp (pe_split ha hb hs hbase hline) fun σ H Q ⟨Hf, g, sl, r, q⟩ => ?_
  refine ⟨Hf, g, sl, r, (go_bind (Rm := RlD X.K) q).mono fun x H1 ⟨Hf1, g1, a, b1, d1, q1⟩ => ?_⟩
  obtain ⟨s, es, q2⟩ := go_bl q1
  obtain rfl := asS_some es
  cases d1 with
  | str _ ok =>
    refine ⟨⟨_, rfl⟩, Hf1, g1, sl, r.step b1, (go_bind (Rm := RlD X.K) q2).mono fun y H2 ⟨Hf2, g2, b, b2, d2, q3⟩ => ?_⟩
    obtain ⟨d, ed, k⟩ := go_lift q3
    match b, ed, d2 with
    | .str [c], ed, d2 =>
      obtain ⟨rfl, okc⟩ := dv_okS d2
      have ed : (if s.length ≤ 1000 ∧ c < 256 then some (D.lst ((splN c [] s).map D.str)) else none) = some d := ed
      split at ed
      · rename_i hl
        cases ed
        refine ⟨mkS s, mkS [c], rfl, rfl, by rw [mkS_len]; rfl, by rw [mkS_len]; exact lim_line2 (by unfold LIM; omega), fun l hl' => ?_⟩
        rw [split_mkS s hl.2]
        refine k _ _ _ (b2.self.alloc (.lst (((splN c [] s).map mkS).map V.str)) hl') (.lst upd_same (DvAll.ofStrs _ fun t ht => ?_))
        obtain ⟨m1, m2⟩ := splN_mem ht
        refine ⟨by simp at m1; unfold LIM; omega, fun d hd => ?_⟩
        rcases m2 d hd with z | z
        · cases z
        · exact ok.2 d z
      · cases ed
/-! ### int(text), str(int): one figure -/
def intSD : D → Option D
  | .str [c] => if 48 ≤ c ∧ c ≤ 57 then some (.int ((c - 48 : Nat) : Int)) else none
  | _ => none
theorem int_fig {c : Nat} (h1 : 48 ≤ c) (h2 : c ≤ 57) : PySem.intText? (mkS [c]) = some (((c - 48 : Nat) : Int)) := by
  have : c = 48 ∨ c = 49 ∨ c = 50 ∨ c = 51 ∨ c = 52 ∨ c = 53 ∨ c = 54 ∨ c = 55 ∨ c = 56 ∨ c = 57 := by omega
  rcases this with rfl | rfl | rfl | rfl | rfl | rfl | rfl | rfl | rfl | rfl <;> decide +kernel
theorem c_intS : C1 X (.type "int") intSD := by
  refine ⟨_, call_int_str, fun W H Hf g x a d Q B ha ed k => ?_⟩
  match a, ed, ha with
  | .str [c], ed, ha =>
    obtain ⟨rfl, ok⟩ := ha.str
    have ed : (if 48 ≤ c ∧ c ≤ 57 then some (D.int ((c - 48 : Nat) : Int)) else none) = some d := ed
    split at ed
    · rename_i h
      cases ed
      exact ⟨mkS [c], _, rfl, int_fig h.1 h.2, by rw [mkS_len]; simp, k _ _ _ B (.int _)⟩
    · cases ed
def figS (i : Int) : List Nat := [48 + i.toNat]
def strID : D → Option D
  | .int i => if 0 ≤ i ∧ i ≤ 9 then some (.str (figS i)) else none
  | _ => none
theorem str_fig {i : Int} (h1 : 0 ≤ i) (h2 : i ≤ 9) : ((toString i : String) : Str) = mkS (figS i) := by
  have : i = 0 ∨ i = 1 ∨ i = 2 ∨ i = 3 ∨ i = 4 ∨ i = 5 ∨ i = 6 ∨ i = 7 ∨ i = 8 ∨ i = 9 := by omega
  rcases this with rfl | rfl | rfl | rfl | rfl | rfl | rfl | rfl | rfl | rfl <;> decide +kernel
theorem log_fig {i : Int} (h1 : 0 ≤ i) (h2 : i ≤ 9) : i.natAbs.log2 < 1920 := by
  have : i = 0 ∨ i = 1 ∨ i = 2 ∨ i = 3 ∨ i = 4 ∨ i = 5 ∨ i = 6 ∨ i = 7 ∨ i = 8 ∨ i = 9 := by omega
  rcases this with rfl | rfl | rfl | rfl | rfl | rfl | rfl | rfl | rfl | rfl <;> decide +kernel
theorem okS_fig {i : Int} (h1 : 0 ≤ i) (h2 : i ≤ 9) : okS (figS i) := ⟨by simp [figS]; unfold LIM; omega, fun c hc => by
  rw [List.mem_singleton.mp hc]; omega⟩
theorem c_strI : C1 X (.type "str") strID := by
  refine ⟨_, call_str_int, fun W H Hf g x a d Q B ha ed k => ?_⟩
  match a, ed, ha with
  | .int i, ed, ha =>
    have hx : x = .int i := by
      rcases ha with h | ⟨_, _, _, _, e, _⟩
      · cases h; rfl
      · cases e
    subst hx
    have ed : (if 0 ≤ i ∧ i ≤ 9 then some (D.str (figS i)) else none) = some d := ed
    split at ed
    · rename_i h
      cases ed
      refine ⟨i, rfl, log_fig h.1 h.2, ?_⟩
      rw [str_fig h.1 h.2]
      exact k _ _ _ B (.str _ (okS_fig h.1 h.2))
    · cases ed
/-! ### f"{text}..{int}" -/
def fsD (mid s : List Nat) : D → Option D
  | .int i => if 0 ≤ i ∧ i ≤ 9 ∧ s.length ≤ 1000 ∧ mid.length ≤ 100 then some (.str (s ++ mid ++ figS i)) else none
  | _ => none
def eFs {G : Type} (mid : List Nat) (a b : M G D) : M G D := M.bind a fun x => M.bind (M.lift (asS x)) fun s => M.bind b fun y => M.lift (fsD mid s y)
theorem mkS_append (a b : List Nat) : mkS a ++ mkS b = mkS (a ++ b) := TL.ext_tl (by rw [TL.tl_append]; simp [TL.tl, mkS])
theorem de_fs (mid : List Nat) {m : Str} {j : Nat} (ha : DE X Z E Wx a fa) (hb : DE X Z E Wx b fb) (hm : m = mkS mid := by rfl) (hmid : okSb mid = true := by decide) :
    DE X Z E Wx (.JoinedStr [.FormattedValue a (-1) none p1, .Constant (.str m) j cp, .FormattedValue b (-1) none p2] pos) (eFs mid fa fb) := by
  subst hm
  refine PE.imp (pe_joined (.cons (pe_fmt ha) (.cons pe_str (.cons (pe_fmt hb) .nil)))) fun σ H Q ⟨Hf, g, sl, r, q⟩ => ?_
  have om := okSb_ok hmid
  refine ⟨Hf, g, sl, r, (go_bind (Rm := RlD X.K) q).mono fun x H1 ⟨Hf1, g1, a, b1, d1, q1⟩ => ?_⟩
  obtain ⟨s, es, q2⟩ := go_bl q1
  obtain rfl := asS_some es
  cases d1 with
  | str _ ok =>
    have e0 : Str.empty ++ mkS s = mkS s := TL.ext_tl (by rw [TL.tl_append]; simp [TL.tl, Str.empty])
    refine .inl ⟨mkS s, rfl, by rw [mkS_len]; exact lim_line2 ok.1, mkS s, rfl, by rw [e0, mkS_len]; exact lim_line2 ok.1, ?_⟩
    rw [e0]
    have l3 : 3 * LIM ≤ sizeLine := by unfold LIM; decide
    refine ⟨mkS mid, rfl, by rw [mkS_append, mkS_len, List.length_append]; have := ok.1; have := om.1; omega, Hf1, g1, sl, r.step b1, (go_bind (Rm := RlD X.K) q2).mono fun y H2 ⟨Hf2, g2, yd, b2, d2, q3⟩ => ?_⟩
    obtain ⟨d, ed, k⟩ := go_lift q3
    match yd, ed, d2 with
    | .int i, ed, d2 =>
      cases d2
      have ed : (if 0 ≤ i ∧ i ≤ 9 ∧ s.length ≤ 1000 ∧ mid.length ≤ 100 then some (D.str (s ++ mid ++ figS i)) else none) = some d := ed
      split at ed
      · rename_i h
        cases ed
        refine .inr ⟨i, rfl, log_fig h.1 h.2.1, _, rfl, ?_, ?_⟩
        · rw [str_fig h.1 h.2.1, mkS_append, mkS_append, mkS_len, List.length_append, List.length_append]
          have := ok.1
          have := om.1
          have : (figS i).length = 1 := rfl
          have : 1 ≤ LIM := by unfold LIM; omega
          omega
        · show Q (.str (mkS s ++ mkS mid ++ (toString i : String))) H2
          rw [str_fig h.1 h.2.1, mkS_append, mkS_append]
          refine k _ _ _ b2.self (.str _ ⟨?_, fun c hc => ?_⟩)
          · rw [List.length_append, List.length_append]
            have : (figS i).length = 1 := rfl
            have := h.2.2
            unfold LIM; omega
          · rcases List.mem_append.mp hc with z | z
            · rcases List.mem_append.mp z with z | z
              · exact ok.2 c z
              · exact om.2 c z
            · exact (okS_fig h.1 h.2.1).2 c z
      · cases ed
/-! ### a tuple that is known to be a plain one -/
def wkD : D → Option D
  | .tupF xs => some (.tup xs)
  | .tupS xs => some (.tup xs)
  | d => some d
theorem de_wk (h : DE X Z E Wx e fe) : DE X Z E Wx e (e1 wkD fe) := by
  refine PE.imp h fun σ H Q ⟨Hf, g, sl, r, q⟩ => ⟨Hf, g, sl, r, (go_bind (Rm := RlD X.K) q).mono fun v H1 ⟨Hf1, g1, d, b1, d1, q1⟩ => ?_⟩
  obtain ⟨d', ed, k⟩ := go_lift q1
  match d, ed, d1 with
  | .tupF xs, ed, d1 =>
    cases ed
    have d1 : Dv X.K Hf1 v (.tupF xs) := d1
    cases d1 with
    | tupF h1 h2 h3 h4 => exact k _ _ _ b1.self (.tup (.inr ⟨_, h1⟩) h4)
  | .tupS xs, ed, d1 =>
    cases ed
    have d1 : Dv X.K Hf1 v (.tupS xs) := d1
    cases d1 with
    | tupS h1 h2 => exact k _ _ _ b1.self (.tup (.inl h1) h2)
  | .non, ed, d1 => cases ed; exact k _ _ _ b1.self d1
  | .bl _, ed, d1 => cases ed; exact k _ _ _ b1.self d1
  | .int _, ed, d1 => cases ed; exact k _ _ _ b1.self d1
  | .str _, ed, d1 => cases ed; exact k _ _ _ b1.self d1
  | .ref _, ed, d1 => cases ed; exact k _ _ _ b1.self d1
  | .tup _, ed, d1 => cases ed; exact k _ _ _ b1.self d1
  | .lst _, ed, d1 => cases ed; exact k _ _ _ b1.self d1
def tupFD : D → Option D
  | .lst s => some (.tupF s)
  | _ => none
theorem pe_tupZ {es : TA} (hg : Gl X "tuple") (hm : X.mg "tuple" = none) (he : PA X [e] es) (hst : starEach [e] X.env = (false, eval e X.env) :: starEach [] X.env) (hpl : (backTo cpos (starEach [] X.env)).any (·.1) = false) :
    PE X (.Call (.Name "tuple" p) [e] [] cpos) (fun σ H Q => es σ H fun xs H1 => ∃ q ys, xs = [.ref q] ∧ SqL X.K H1 q ys ∧ ∀ (l : Addr) (o : Obj), o.cls = .type "tuple" → o.dict = none → H1 l = none → Q (.ref l) (upd H1 l (.frz o (.tup ys)))) := by
  refine ⟨fun pins s σ H Q I h => ?_⟩
  refine wpAny_Call_Name_kw (ld_blt I hg hm bt_tuple ?_ (by decide) (by decide))
  refine PyProof.Rows.callWith_type1 (thn (he.run cpos pins s σ H _ I h) fun us s1 ⟨vs, H1, I1, r1, q1⟩ => ?_) hst hpl
  obtain ⟨q, ys, rfl, hq, k⟩ := q1
  obtain ⟨uu, rfl, rx⟩ := vals1 r1
  cases rx
  obtain ⟨its, r', pl, hz⟩ := I1.list hq
  have hlen := r'.length
  refine call_tuple_list pl.isList (fun h' kp => ?_) (by simp only [List.size_toArray] <;> omega)
  have I2 : Inv X pins σ H1 { s1 with heap := h' } := I1.kept (t' := s1.toks) kp
  have I3 : Inv X pins σ (upd H1 h'.objs.size (.frz { cls := .type "tuple", data := .seq its.toArray } (.tup ys))) { s1 with heap := h'.push { cls := .type "tuple", data := .seq its.toArray } } :=
    I2.laid (t' := s1.toks) (fun b o e => Heap.get?_push_of_some _ e) (Nat.le_refl _) (show ObjOk X.prog X.w _ _ _ (.frz _ (.tup ys)) from ⟨Heap.get?_push_size _ rfl, hz, its, r', IsTup.new _ _⟩)
  exact ⟨.ref h'.objs.size, _, I3, rfl, k _ _ rfl rfl (I2.hok.fresh (Nat.le_refl _))⟩
theorem de_tupF (hg : Gl X "tuple") (hm : X.mg "tuple" = none) (he : DE X Z E Wx e fe) (hst : starEach [e] X.env = (false, eval e X.env) :: starEach [] X.env := by rfl) (hpl : (backTo cpos (starEach [] X.env)).any (·.1) = false := by rfl) :
    DE X Z E Wx (.Call (.Name "tuple" p) [e] [] cpos) (e1 tupFD fe) := by
  refine PE.imp (pe_tupZ hg hm (pa_cons he pa_nil hst) hst hpl) fun σ H Q ⟨Hf, g, sl, r, q⟩ => ⟨Hf, g, sl, r, (go_bind (Rm := RlD X.K) q).mono fun v H1 ⟨Hf1, g1, d, b1, d1, q1⟩ => ?_⟩
  obtain ⟨d', ed, k⟩ := go_lift q1
  match d, ed, d1 with
  | .lst ys, ed, d1 =>
    cases ed
    have d1' : Dv X.K Hf1 v (.lst ys) := d1
    cases d1' with
    | @lst q' vs _ hh1 hh2 => exact ⟨q', vs, rfl, .inl (.inl (b1.fh _ _ hh1)), fun l o h1 h2 hl => k _ _ _ (b1.self.alloc (.frz o (.tup vs)) hl) (.tupF upd_same h1 h2 (DvAll.mono (same_new (b1.hn hl)) _ hh2))⟩
def eTupF {G : Type} (a : M G (List D)) : M G D := M.bind a fun xs => M.lift (if xs.length ≤ LIM then some (.tupF xs) else none)
theorem pe_tupD {es : List Expr} {t : TA} {k : Nat} (h : PA X es t) : PE X (.Tuple es k pos) (fun σ H Q => t σ H fun xs H1 => xs.length ≤ sizeLine ∧ ∀ (l : Addr) (o : Obj), o.cls = .type "tuple" → o.dict = none → H1 l = none → Q (.ref l) (upd H1 l (.frz o (.tup xs)))) := by
  refine ⟨fun pins s σ H Q I hq => ?_⟩
  refine wpAny_Tuple_spliced (thn (h.run pos pins s σ H _ I hq) fun us s1 ⟨xs, H1, I1, r, z, q⟩ => ⟨by rw [← r.length]; exact z, ?_⟩)
  have hf : H1 s1.heap.objs.size = none := I1.hok.fresh (Nat.le_refl _)
  refine ⟨.ref s1.heap.objs.size, upd H1 s1.heap.objs.size (.frz { cls := .type "tuple", data := .seq us.toArray } (.tup xs)), I1.laid (t' := s1.toks) (fun b u e => Heap.get?_push_of_some _ e) (Nat.le_refl _) ?_, rfl, q _ _ rfl rfl hf⟩
  exact ⟨Heap.get?_push_size _ rfl, z, us, r, ⟨_, Heap.get?_push_size _ rfl, rfl, _, rfl⟩⟩
theorem de_tupFd {es : List Expr} {fs : M Z.W.G (List D)} {k : Nat} (h : DA X Z E Wx es fs) : DE X Z E Wx (.Tuple es k pos) (eTupF fs) := by
  refine PE.imp (pe_tupD h) fun σ H Q ⟨Hf, g, sl, r, q⟩ => ⟨Hf, g, sl, r, (go_bind (Rm := RlA X.K) q).mono fun vs H1 ⟨Hf1, g1, cs, b1, d1, q1⟩ => ?_⟩
  obtain ⟨d, ed, k1⟩ := go_lift q1
  split at ed
  · rename_i hl
    cases ed
    exact ⟨by rw [d1.len]; exact lim_line2 hl, fun l o h1 h2 hp => k1 _ _ _ (b1.alloc (.frz o (.tup vs)) hp) (.tupF upd_same h1 h2 (DvAll.mono (same_new (b1.hn hp)) cs d1))⟩
  · cases ed
/-! ### its index -/
def eIdxF {G : Type} (i : Nat) (fa : M G D) : M G D := fun sl g => match sl[i]? with
  | some (some (.d (.tupF xs))) => M.bind fa (fun y => M.lift (idxD xs y)) sl g
  | _ => none
theorem pe_idxZ {ta : TA} (hN : X.N[i]? = some x) (hv : Vis X.env.scope x) (ha : PA X [a] ta) (hst : starEach [a] X.env = (false, eval a X.env) :: starEach [] X.env)
    (hbase : attributeBase (.Name x npos) "index" X.env (eval (.Name x npos) X.env) = eval (.Name x npos) X.env)
    (hfew : ((backTo pos (starEach [a] X.env)).all (fun x => !x.1) && (backToKw pos (keywordEach [] X.env)).all (fun x => x.1.isSome)
      && decide ([a].length + ([] : List Keyword).length + (if ([] : List Keyword).isEmpty then 0 else 1) < 30)) = true)
    (hline : (apos.endLine == pos.line) = true) (hplain : (backTo pos (starEach [] X.env)).any (·.1) = false) (hd : (x == ("__debug__" : Str)) = false) (hcd : (x == ("__classdict__" : Str)) = false) :
    PE X (.Call (.Attribute (.Name x npos) "index" apos) [a] [] pos) (fun σ H Q => ∃ (p : Addr) (o : Obj) (vs : List V), σ[i]? = some (some (.ref p)) ∧ H p = some (.frz o (.tup vs)) ∧ o.cls = .type "tuple" ∧ o.dict = none ∧ ta σ H fun xs H2 => rTIx X.K (.ref p) xs H2 Q) := by
  refine ⟨fun pins s σ H Q I ⟨p, o, vs, hp, hH, hc, hdn, q⟩ => ?_⟩
  have hget : s.heap.get? p = some o := (I.hok p _ hH).1
  refine wpAny_Call_method_late hbase hfew hline rfl (ld_var I hN hp hv (fun u r => ?_) hd hcd)
  cases r
  refine ⟨"tuple", "tuple.index", PySem.F.plainAttrs_tuple, PySem.F.slot_tuple_index, PySem.F.type_tuple_index, ⟨_, hget, hc⟩, (fun a e => by cases e; exact ⟨o, hget, hdn⟩), ?_⟩
  have hA := ha.run pos pins s σ H _ I q
  rw [hst] at hA ⊢
  refine Calls.callWith_builtin (by show (false || (backTo pos (starEach [] X.env)).any (·.1)) = false; rw [hplain] <;> rfl) (Calls.evalArgs_plain ?_)
  exact thn hA fun us s2 ⟨vs, H2, I2, r2, q2⟩ => mt_tup_index pins s2 σ H2 (.ref p) vs (.ref p) us Q I2 rfl r2 q2
theorem de_idxF (ha : DE X Z E Wx a fa) (hN : X.N[i]? = some x := by rfl) (hv : Vis X.env.scope x := by first | exact Or.inl rfl | exact Or.inr (Or.inl rfl) | exact Or.inr (Or.inr rfl)) (hst : starEach [a] X.env = (false, eval a X.env) :: starEach [] X.env := by rfl)
    (hbase : attributeBase (.Name x npos) "index" X.env (eval (.Name x npos) X.env) = eval (.Name x npos) X.env := by rfl)
    (hfew : ((backTo pos (starEach [a] X.env)).all (fun x => !x.1) && (backToKw pos (keywordEach [] X.env)).all (fun x => x.1.isSome)
      && decide ([a].length + ([] : List Keyword).length + (if ([] : List Keyword).isEmpty then 0 else 1) < 30)) = true := by rfl)
    (hline : (apos.endLine == pos.line) = true := by rfl) (hplain : (backTo pos (starEach [] X.env)).any (·.1) = false := by rfl) (hd : (x == ("__debug__" : Str)) = false := by decide) (hcd : (x == ("__classdict__" : Str)) = false := by decide) :
    DE X Z E Wx (.Call (.Attribute (.Name x npos) "index" apos) [a] [] pos) (eIdxF i fa) := by
  refine PE.imp (pe_idxZ hN hv (pa_cons ha pa_nil hst) hst hbase hfew hline hplain hd hcd) fun σ H Q ⟨Hf, g, sl, r, q⟩ => ?_
  unfold eIdxF at q
  split at q
  · rename_i xs hsl
    obtain ⟨v, h1, h2⟩ := r.slot i _ hsl
    have h2 : Dv X.K Hf v (.tupF xs) := h2
    cases h2 with
    | @tupF p vs _ o hh1 hc hdn hh2 =>
      refine ⟨p, o, vs, h1, r.base.fh _ _ hh1, hc, hdn, Hf, g, sl, r, (go_bind (Rm := RlD X.K) q).mono fun y H2 ⟨Hf2, g2, d', b2, d2, q2⟩ => ?_⟩
      obtain ⟨oo, ed, k⟩ := go_lift q2
      match d', ed, d2 with
      | .str s, ed, d2 =>
        obtain ⟨rfl, hs⟩ := dv_okS d2
        unfold idxD at ed
        obtain ⟨ss, e1, e2⟩ := Option.bind_eq_some_iff.mp ed
        have := asSs_some e1
        subst this
        have hv' := DvAll.strs hh2
        subst hv'
        split at e2
        · rename_i hm
          cases e2
          have hlt : ss.idxOf s < ss.length := List.idxOf_lt_length_of_mem hm
          refine ⟨_, ss.map mkS, mkS s, ss.idxOf s, rfl, rfl, .inl (.inr ⟨_, b2.fh _ _ (b2.ff _ _ hh1)⟩), ?_, fun m hm' hz => ?_, k _ _ _ b2.self (.int _)⟩
          · rw [List.getElem?_map, List.getElem?_eq_getElem hlt, List.getElem_idxOf hlt]; rfl
          · rw [List.getElem?_map] at hz
            obtain ⟨x', hx', hxe⟩ := Option.map_eq_some_iff.mp hz
            have := mkS_inj hxe
            subst this
            exact idx_first ss x' m hm' hx'
        · cases e2
  · exact q.elim
end
end DL
namespace DL
open PySem PySem.Spec PyProof.Rows L2 LamX
/-! ### sheets: the world -/
theorem Dv.key {K : PySem.W.Frag} {Hf H' : Hp} (x : ∀ b o, stays o = true → Hf b = some o → H' b = some o) : ∀ (d : D) {v : V}, Dv K Hf v d → Dv K H' v d := by
  intro d
  refine D.rec (motive_1 := fun d => ∀ {v : V}, Dv K Hf v d → Dv K H' v d) (motive_2 := fun ds => ∀ {vs : List V}, DvAll K Hf vs ds → DvAll K H' vs ds) ?_ ?_ ?_ ?_ ?_ ?_ ?_ ?_ ?_ ?_ ?_ d
  · intro v h; cases h; exact .non
  · intro b v h; cases h; exact .bl b
  · intro b v h; cases h; exact .int b
  · intro b v h; cases h with | str _ ok => exact .str b ok
  · intro b v h; cases h; exact .ref b
  · intro ds ih v h
    cases h with
    | tup a1 a2 =>
      rcases a1 with a1 | ⟨o, a1⟩
      · exact .tup (.inl (x _ _ rfl a1)) (ih a2)
      · exact .tup (.inr ⟨o, x _ _ rfl a1⟩) (ih a2)
  · intro ds ih v h; cases h with | tupF a1 c1 c2 a2 => exact .tupF (x _ _ rfl a1) c1 c2 (ih a2)
  · intro ds ih v h; cases h with | tupS a1 a2 => exact .tupS (x _ _ rfl a1) (ih a2)
  · intro ds ih v h; cases h with | lst a1 a2 => exact .lst (x _ _ rfl a1) (ih a2)
  · intro vs h; cases h; exact .nil
  · intro d ds i1 i2 vs h; cases h with | cons a1 a2 => exact .cons (i1 a1) (i2 a2)
theorem DvAll.key {K : PySem.W.Frag} {Hf H' : Hp} (x : ∀ b o, stays o = true → Hf b = some o → H' b = some o) : ∀ {ds : List D} {vs : List V}, DvAll K Hf vs ds → DvAll K H' vs ds
  | [], _, h => by cases h; exact .nil
  | d :: ds, _, h => by
    cases h with
    | cons h1 h2 => exact .cons (Dv.key x d h1) (DvAll.key x h2)
structure ShR where
  x : Addr
  dx : Addr
  l1 : Addr
  ws : D
  bx : D
  dn : List D
def shF (vw vb : V) (l1 l2 : Addr) : List (Str × V) := [("words", vw), ("boxes", vb), ("done", .ref l1), ("undone", .ref l2)]
theorem shF_w (vw vb : V) (l1 l2 : Addr) : (shF vw vb l1 l2).lookup ("words" : Str) = some vw := rfl
theorem shF_b (vw vb : V) (l1 l2 : Addr) : (shF vw vb l1 l2).lookup ("boxes" : Str) = some vb := rfl
theorem shF_d (vw vb : V) (l1 l2 : Addr) : (shF vw vb l1 l2).lookup ("done" : Str) = some (.ref l1) := rfl
theorem shF_u (vw vb : V) (l1 l2 : Addr) : (shF vw vb l1 l2).lookup ("undone" : Str) = some (.ref l2) := rfl
theorem ne_wu : ¬ (("words" : Str) = "undone") := by decide +kernel
theorem ne_bu : ¬ (("boxes" : Str) = "undone") := by decide +kernel
theorem ne_du : ¬ (("done" : Str) = "undone") := by decide +kernel
theorem ne_wb : ¬ (("words" : Str) = "boxes") := by decide +kernel
theorem ne_wd : ¬ (("words" : Str) = "done") := by decide +kernel
theorem ne_bd : ¬ (("boxes" : Str) = "done") := by decide +kernel
theorem shF_put (vw vb : V) (l1 l2 l3 : Addr) : putF "undone" (.ref l3) (shF vw vb l1 l2) = shF vw vb l1 l3 := by
  unfold shF
  rw [putF, if_neg ne_wu, putF, if_neg ne_bu, putF, if_neg ne_du, putF, if_pos rfl]
theorem shF_new (vw vb : V) (l1 l2 : Addr) : putF "undone" (.ref l2) (putF "done" (.ref l1) (putF "boxes" vb (putF "words" vw []))) = shF vw vb l1 l2 := by
  unfold shF
  simp only [putF, ne_wb, ne_wd, ne_bd, ne_wu, ne_bu, ne_du, if_false]
def ShR.fp (r : ShR) (b : Addr) : Prop := b = r.x ∨ b = r.dx ∨ b = r.l1
def ShR.rep (K : PySem.W.Frag) (C : Addr) (r : ShR) (H Hf : Hp) : Prop := ∃ (vw vb : V) (v1 : List V) (l2 : Addr), H r.x = some (.ins C r.dx (shF vw vb r.l1 l2)) ∧ H r.dx = some (.own r.x) ∧ H r.l1 = some (.lst v1) ∧
  Hf l2 = some (.lst []) ∧ Dv K Hf vw r.ws ∧ Dv K Hf vb r.bx ∧ DvAll K Hf v1 r.dn
theorem ShR.rep.loc {K : PySem.W.Frag} {C : Addr} {r : ShR} {H H' Hf Hf' : Hp} (h : r.rep K C H Hf) (e : ∀ b, r.fp b → H' b = H b) (x : ∀ b o, stays o = true → Hf b = some o → Hf' b = some o) : r.rep K C H' Hf' := by
  obtain ⟨vw, vb, v1, l2, h1, h2, h3, h4, h5, h6, h7⟩ := h
  exact ⟨vw, vb, v1, l2, by rw [e _ (.inl rfl)]; exact h1, by rw [e _ (.inr (.inl rfl))]; exact h2, by rw [e _ (.inr (.inr rfl))]; exact h3, x _ _ rfl h4, Dv.key x _ h5, Dv.key x _ h6, DvAll.key x h7⟩
theorem ShR.rep.there {K : PySem.W.Frag} {C : Addr} {r : ShR} {H Hf : Hp} (h : r.rep K C H Hf) {b : Addr} (hb : r.fp b) : H b ≠ none := by
  obtain ⟨vw, vb, v1, l2, h1, h2, h3, _⟩ := h
  rcases hb with rfl | rfl | rfl
  · rw [h1]; simp
  · rw [h2]; simp
  · rw [h3]; simp
def ShW (K : PySem.W.Frag) (C : Addr) : Wd where
  G := List ShR
  rep := fun g H Hf => (∀ r ∈ g, r.rep K C H Hf) ∧ g.Pairwise fun (r r' : ShR) => ∀ b : Addr, r.fp b → ¬ r'.fp b
  fp := fun g b => ∃ r ∈ g, r.fp b
  loc := fun g H H' Hf Hf' r e x => ⟨fun s hs => (r.1 s hs).loc (fun b hb => e b ⟨s, hs, hb⟩) x, r.2⟩
  there := fun g H Hf b r h => by
    obtain ⟨s, hs, hb⟩ := h
    exact (r.1 s hs).there hb
/-- slot i holds a sheet -/
def mSh (i : Nat) : M (Tw × List ShR) ShR := fun sl g => match sl[i]? with
  | some (some (.d (.ref a))) => match g.2.find? fun r => decide (r.x = a) with
    | some r => some (.ok r, g)
    | none => none
  | _ => none
def shSet (g : List ShR) (a : Addr) (f : ShR → ShR) : List ShR := g.map fun r => if r.x = a then f r else r
section
variable {X : Cx} {L : List (Addr × Str)} {C : Addr} {cls : Nat → Value} {E : Ent (TW X.K (VwX L (ShW X.K C)))} {Wx : WX} {e a b c : Expr} {pos p ap cp dp bp p1 p2 npos apos cpos : Pos} {fe fa fb fc : M (Tw × List ShR) D} {i : Nat} {x : Str}
abbrev SZ (K : PySem.W.Frag) (L : List (Addr × Str)) (C : Addr) (cls : Nat → Value) : Cn := TZ K (VwX L (ShW K C)) cls
theorem sh_go {α β : Type} {Rl : (Tw × List ShR) → Hp → Hp → β → α → Prop} {σ : L2.St} {sl : SL} {H Hf : Hp} {g : Tw × List ShR} {k : ShR → M (Tw × List ShR) α} {Q : β → Hp → Prop} (r : R X.K E H Hf g sl σ) (h : go (SZ X.K L C cls) Rl Wx σ (M.bind (mSh i) k sl g) H Hf g Q) :
    ∃ rc : ShR, rc ∈ g.2 ∧ sl[i]? = some (some (.d (.ref rc.x))) ∧ σ[i]? = some (some (.ref rc.x)) ∧ rc.rep X.K C H Hf ∧ go (SZ X.K L C cls) Rl Wx σ (k rc sl g) H Hf g Q := by
  unfold M.bind mSh at h
  match e : sl[i]? with
  | some (some (.d (.ref y))) =>
    rw [e] at h
    simp only at h
    match e2 : g.2.find? (fun r => decide (r.x = y)) with
    | some rc =>
      rw [e2] at h
      have h1 := List.find?_some e2
      have h2 := List.mem_of_find?_eq_some e2
      have hx : rc.x = y := of_decide_eq_true h1
      obtain ⟨v, s1, s2⟩ := r.slot i _ e
      have s2 : Dv X.K Hf v (.ref y) := s2
      cases s2
      exact ⟨rc, h2, by rw [hx], by rw [s1, hx], r.base.rep.2.1.2.1.1 rc h2, h⟩
    | none => rw [e2] at h; exact h.elim
  | some (some (.d .non)) => rw [e] at h; exact h.elim
  | some (some (.d (.bl _))) => rw [e] at h; exact h.elim
  | some (some (.d (.int _))) => rw [e] at h; exact h.elim
  | some (some (.d (.str _))) => rw [e] at h; exact h.elim
  | some (some (.d (.tup _))) => rw [e] at h; exact h.elim
  | some (some (.d (.tupF _))) => rw [e] at h; exact h.elim
  | some (some (.d (.tupS _))) => rw [e] at h; exact h.elim
  | some (some (.d (.lst _))) => rw [e] at h; exact h.elim
  | some (some (.oL y)) => rw [e] at h; exact h.elim
  | some (some (.oK y)) => rw [e] at h; exact h.elim
  | some (some (.oT y)) => rw [e] at h; exact h.elim
  | some (some (.kK y)) => rw [e] at h; exact h.elim
  | some none => rw [e] at h; exact h.elim
  | none => rw [e] at h; exact h.elim
/-! ### what is read of a sheet -/
def eFw (i : Nat) : M (Tw × List ShR) D := M.bind (mSh i) fun r => M.pure r.ws
def eFb (i : Nat) : M (Tw × List ShR) D := M.bind (mSh i) fun r => M.pure r.bx
def eDnLen (i : Nat) : M (Tw × List ShR) D := M.bind (mSh i) fun r => M.pure (.int r.dn.length)
def eDnTup (i : Nat) : M (Tw × List ShR) D := M.bind (mSh i) fun r => M.pure (.tup r.dn)
/-- the class, as the top has made it -/
structure ShC (K : PySem.W.Frag) (C : Addr) : Prop where
  cl : Cls K C
  nW : NoAttr K C "words"
  nB : NoAttr K C "boxes"
  nD : NoAttr K C "done"
  nU : NoAttr K C "undone"
theorem de_fw (T : ShC X.K C) (hN : X.N[i]? = some x := by rfl) (hv : Vis X.env.scope x := by first | exact Or.inl rfl | exact Or.inr (Or.inl rfl) | exact Or.inr (Or.inr rfl)) (hd : (x == ("__debug__" : Str)) = false := by decide)
    (hcd : (x == ("__classdict__" : Str)) = false := by decide) (hb : attributeBase (.Name x p) "words" X.env (eval (.Name x p) X.env) = eval (.Name x p) X.env := by rfl) : DE X (SZ X.K L C cls) E Wx (.Attribute (.Name x p) "words" ap) (eFw i) := by
  refine PE.imp (pe_fld (pe_var hN hv hd hcd) hb) fun σ H Q ⟨Hf, g, sl, r, q⟩ => ?_
  obtain ⟨rc, m, _, h1, ⟨vw, vb, v1, l2, h2, h3, h4, h5, h6, h7, h8⟩, q⟩ := sh_go r q
  exact ⟨_, h1, _, C, _, _, vw, rfl, h2, T.cl, T.nW, shF_w _ _ _ _, go_pure q _ _ _ r.base.self h6⟩
theorem de_fb (T : ShC X.K C) (hN : X.N[i]? = some x := by rfl) (hv : Vis X.env.scope x := by first | exact Or.inl rfl | exact Or.inr (Or.inl rfl) | exact Or.inr (Or.inr rfl)) (hd : (x == ("__debug__" : Str)) = false := by decide)
    (hcd : (x == ("__classdict__" : Str)) = false := by decide) (hb : attributeBase (.Name x p) "boxes" X.env (eval (.Name x p) X.env) = eval (.Name x p) X.env := by rfl) : DE X (SZ X.K L C cls) E Wx (.Attribute (.Name x p) "boxes" ap) (eFb i) := by
  refine PE.imp (pe_fld (pe_var hN hv hd hcd) hb) fun σ H Q ⟨Hf, g, sl, r, q⟩ => ?_
  obtain ⟨rc, m, _, h1, ⟨vw, vb, v1, l2, h2, h3, h4, h5, h6, h7, h8⟩, q⟩ := sh_go r q
  exact ⟨_, h1, _, C, _, _, vb, rfl, h2, T.cl, T.nB, shF_b _ _ _ _, go_pure q _ _ _ r.base.self h7⟩
theorem de_dnLen (T : ShC X.K C) (hg : Gl X "len") (hm : X.mg "len" = none) (hN : X.N[i]? = some x := by rfl) (hv : Vis X.env.scope x := by first | exact Or.inl rfl | exact Or.inr (Or.inl rfl) | exact Or.inr (Or.inr rfl)) (hd : (x == ("__debug__" : Str)) = false := by decide)
    (hcd : (x == ("__classdict__" : Str)) = false := by decide) (hb : attributeBase (.Name x p) "done" X.env (eval (.Name x p) X.env) = eval (.Name x p) X.env := by rfl)
    (hs : starEach [.Attribute (.Name x p) "done" ap] X.env = (false, eval (.Attribute (.Name x p) "done" ap) X.env) :: starEach [] X.env := by rfl) (hpl : (backTo cp (starEach [] X.env)).any (·.1) = false := by rfl) :
    DE X (SZ X.K L C cls) E Wx (.Call (.Name "len" bp) [.Attribute (.Name x p) "done" ap] [] cp) (eDnLen i) := by
  refine PE.imp (pe_callB call_len hg hm bt_len (pa_cons (pe_fld (pe_var hN hv hd hcd) hb) pa_nil hs) (by decide) (by decide) hs hpl) fun σ H Q ⟨Hf, g, sl, r, q⟩ => ?_
  obtain ⟨rc, m, _, h1, ⟨vw, vb, v1, l2, h2, h3, h4, h5, h6, h7, h8⟩, q⟩ := sh_go r q
  refine ⟨_, h1, _, C, _, _, _, rfl, h2, T.cl, T.nD, shF_d _ _ _ _, _, rc.dn.length, rfl, .inl ⟨v1, SqL.of h4, h8.len.symm⟩, ?_⟩
  exact go_pure q _ _ _ r.base.self (.int _)
theorem de_dnTup (T : ShC X.K C) (hg : Gl X "tuple") (hm : X.mg "tuple" = none) (hN : X.N[i]? = some x := by rfl) (hv : Vis X.env.scope x := by first | exact Or.inl rfl | exact Or.inr (Or.inl rfl) | exact Or.inr (Or.inr rfl)) (hd : (x == ("__debug__" : Str)) = false := by decide)
    (hcd : (x == ("__classdict__" : Str)) = false := by decide) (hb : attributeBase (.Name x p) "done" X.env (eval (.Name x p) X.env) = eval (.Name x p) X.env := by rfl)
    (hs : starEach [.Attribute (.Name x p) "done" ap] X.env = (false, eval (.Attribute (.Name x p) "done" ap) X.env) :: starEach [] X.env := by rfl) (hpl : (backTo cp (starEach [] X.env)).any (·.1) = false := by rfl) :
    DE X (SZ X.K L C cls) E Wx (.Call (.Name "tuple" bp) [.Attribute (.Name x p) "done" ap] [] cp) (eDnTup i) := by
  refine PE.imp (pe_callTy call_tuple_of hg hm bt_tuple (pa_cons (pe_fld (pe_var hN hv hd hcd) hb) pa_nil hs) (by decide) (by decide) hs hpl) fun σ H Q ⟨Hf, g, sl, r, q⟩ => ?_
  obtain ⟨rc, m, _, h1, ⟨vw, vb, v1, l2, h2, h3, h4, h5, h6, h7, h8⟩, q⟩ := sh_go r q
  refine ⟨_, h1, _, C, _, _, _, rfl, h2, T.cl, T.nD, shF_d _ _ _ _, _, v1, rfl, .inl ⟨SqL.of h4, fun l hl => ?_⟩⟩
  exact go_pure q _ _ _ (r.base.self.alloc (.tup v1) hl) (.tup (.inl upd_same) (DvAll.mono (same_new (r.base.hn hl)) _ h8))
end
end DL
namespace DL
open PySem PySem.Spec PyProof.Rows L2 LamX
/-! ### sheets: what changes them -/
theorem mSh_cases (i : Nat) (sl : SL) (g : Tw × List ShR) : mSh i sl g = none ∨ ∃ rc, mSh i sl g = some (.ok rc, g) ∧ rc ∈ g.2 ∧ sl[i]? = some (some (.d (.ref rc.x))) := by
  unfold mSh
  split
  · rename_i a e
    split
    · rename_i rc e2
      have h1 := List.find?_some e2
      have hx : rc.x = a := of_decide_eq_true h1
      exact .inr ⟨rc, rfl, List.mem_of_find?_eq_some e2, by rw [e, hx]⟩
    · exact .inl rfl
  · exact .inl rfl
theorem pw_two {α : Type} {R : α → α → Prop} : ∀ {l : List α} {a b : α}, l.Pairwise R → a ∈ l → b ∈ l → a = b ∨ R a b ∨ R b a
  | x :: l, a, b, h, ha, hb => by
    obtain ⟨h1, h2⟩ := List.pairwise_cons.mp h
    rcases List.mem_cons.mp ha with e1 | ha'
    · rcases List.mem_cons.mp hb with e2 | hb'
      · exact .inl (e1.trans e2.symm)
      · rw [e1]; exact .inr (.inl (h1 b hb'))
    · rcases List.mem_cons.mp hb with e2 | hb'
      · rw [e2]; exact .inr (.inr (h1 a ha'))
      · exact pw_two h2 ha' hb'
theorem sh_one {g : List ShR} (pw : g.Pairwise fun r r' => ∀ b, r.fp b → ¬ r'.fp b) {r r' : ShR} (h1 : r ∈ g) (h2 : r' ∈ g) {b : Addr} (hb : r.fp b) (hb' : r'.fp b) : r = r' := by
  rcases pw_two pw h1 h2 with z | z | z
  · exact z
  · exact absurd hb' (z b hb)
  · exact absurd hb (z b hb')
section
variable {K : PySem.W.Frag} {L : List (Addr × Str)} {C : Addr}
/-- one sheet is changed -/
theorem base_sh {H Hf H' : Hp} {g : Tw × List ShR} {rc rc' : ShR} (b : Base (TW K (VwX L (ShW K C))) H Hf g H Hf g) (hm : rc ∈ g.2) (hx : rc'.x = rc.x) (hdx : rc'.dx = rc.dx) (hl : rc'.l1 = rc.l1) (he : ∀ y, ¬ rc.fp y → H' y = H y) (hr : rc'.rep K C H' Hf) :
    Base (TW K (VwX L (ShW K C))) H Hf g H' Hf (g.1, shSet g.2 rc.x fun _ => rc') := by
  have hfp : ∀ y, rc'.fp y ↔ rc.fp y := fun y => by unfold ShR.fp; rw [hx, hdx, hl]
  have pw : g.2.Pairwise fun r r' => ∀ b, r.fp b → ¬ r'.fp b := b.rep.2.1.2.1.2
  have each : ∀ r ∈ g.2, (if r.x = rc.x then rc' else r).fp = r.fp ∧ (r.x = rc.x → r = rc) := fun r h => by
    have hz : r.x = rc.x → r = rc := fun e => sh_one pw h hm (b := r.x) (.inl rfl) (.inl e)
    refine ⟨?_, hz⟩
    split
    · rename_i e
      have := hz e
      subst this
      funext y
      exact propext (hfp y)
    · rfl
  have hfp' : ∀ y, (ShW K C).fp (shSet g.2 rc.x fun _ => rc') y ↔ (ShW K C).fp g.2 y := fun y => by
    constructor
    · rintro ⟨r, h, hy⟩
      obtain ⟨r0, h0, rfl⟩ := List.mem_map.mp h
      exact ⟨r0, h0, by rw [← (each r0 h0).1]; exact hy⟩
    · rintro ⟨r, h, hy⟩
      exact ⟨_, List.mem_map.mpr ⟨r, h, rfl⟩, by rw [(each r h).1]; exact hy⟩
  have shin : ∀ y, rc.fp y → (ShW K C).fp g.2 y := fun y h => ⟨rc, hm, h⟩
  have rcT := (b.rep.2.1.2.1.1 rc hm)
  refine b.world ⟨b.rep.1.loc fun y hy => he y fun z => b.rep.2.2 y hy (.inr (shin y z)), ⟨fun t ht => (b.rep.2.1.1 t ht).loc (he _ fun z => b.rep.2.1.2.2 t ht (shin _ z)) fun _ _ _ e => e, ⟨fun r h => ?_, ?_⟩, fun t ht z => b.rep.2.1.2.2 t ht ((hfp' _).mp z)⟩, fun y hy z => ?_⟩ (fun y o e n => ?_) (fun y z => ?_) (fun y e => ?_)
  · obtain ⟨r0, h0, rfl⟩ := List.mem_map.mp h
    split
    · exact hr
    · rename_i ne
      refine (b.rep.2.1.2.1.1 r0 h0).loc (fun y hy => he y fun z => ne ?_) fun _ _ _ e => e
      rw [sh_one pw h0 hm hy z]
  · refine List.pairwise_map.mpr (List.Pairwise.imp_of_mem (fun {r r'} h h' hd => ?_) pw)
    intro y hy
    rw [(each r h).1] at hy
    rw [(each r' h').1]
    exact hd y hy
  · rcases z with z | z
    · exact b.rep.2.2 y hy (.inl z)
    · exact b.rep.2.2 y hy (.inr ((hfp' y).mp z))
  · rw [he y fun z => n (.inr (.inr (shin y z)))]; exact e
  · rcases z with z | z | z
    · exact .inl (.inl z)
    · exact .inl (.inr (.inl z))
    · exact .inl (.inr (.inr ((hfp' y).mp z)))
  · by_cases hy : rc.fp y
    · exact hr.there ((hfp y).mpr hy)
    · rw [he y hy]; exact e
/-- the sheets are let go -/
theorem base_forget {H Hf : Hp} {g : Tw × List ShR} (b : Base (TW K (VwX L (ShW K C))) H Hf g H Hf g) : Base (TW K (VwX L (ShW K C))) H Hf g H Hf (g.1, []) :=
  b.world ⟨b.rep.1, ⟨b.rep.2.1.1, ⟨(fun r h => by cases h), List.Pairwise.nil⟩, fun t ht z => by obtain ⟨r, h, _⟩ := z; cases h⟩, fun y hy z => by
    rcases z with z | ⟨r, h, _⟩
    · exact b.rep.2.2 y hy (.inl z)
    · cases h⟩ (fun _ _ e _ => e) (fun y z => by
    rcases z with z | z | ⟨r, h, _⟩
    · exact .inl (.inl z)
    · exact .inl (.inr (.inl z))
    · cases h) (fun _ e => e)
end
section
variable {X : Cx} {L : List (Addr × Str)} {C : Addr} {cls : Nat → Value} {E : Ent (TW X.K (VwX L (ShW X.K C)))} {Wx : WX} {e a b c : Expr} {pos p ap cp dp bp p1 p2 npos apos cpos : Pos} {fe fa fb fc : M (Tw × List ShR) D} {i : Nat} {x : Str}
theorem sh_goS {K : PySem.W.Frag} {E : Ent (TW K (VwX L (ShW K C)))} {σ : L2.St} {sl : SL} {H Hf : Hp} {g : Tw × List ShR} {k : ShR → SM (Tw × List ShR)} {D : Ends} (r : R K E H Hf g sl σ) (h : goS (SZ K L C cls) K E Wx Hf (sDo (mSh i) k sl g) D) :
    ∃ rc : ShR, rc ∈ g.2 ∧ sl[i]? = some (some (.d (.ref rc.x))) ∧ σ[i]? = some (some (.ref rc.x)) ∧ rc.rep K C H Hf ∧ goS (SZ K L C cls) K E Wx Hf (k rc sl g) D := by
  unfold sDo at h
  rcases mSh_cases i sl g with z | ⟨rc, z, hm, hs⟩
  · rw [z] at h; exact h.elim
  · rw [z] at h
    obtain ⟨v, s1, s2⟩ := r.slot i _ hs
    have s2 : Dv K Hf v (.ref rc.x) := s2
    cases s2
    exact ⟨rc, hm, hs, s1, r.base.rep.2.1.2.1.1 rc hm, h⟩
/-- self.done.append(e) -/
def sDnApp (i : Nat) (fe : M (Tw × List ShR) D) : SM (Tw × List ShR) := sDo (mSh i) fun r => sDo fe fun d => sDo (mSh i) fun r1 => fun sl g => if r1.l1 = r.l1 ∧ r1.dn.length < LIM then some (.nx, sl, (g.1, shSet g.2 r1.x fun _ => { r1 with dn := r1.dn ++ [d] })) else none
theorem ds_dnApp (T : ShC X.K C) (he : DE X (SZ X.K L C cls) E Wx e fe) (hN : X.N[i]? = some x := by rfl) (hv : Vis X.env.scope x := by first | exact Or.inl rfl | exact Or.inr (Or.inl rfl) | exact Or.inr (Or.inr rfl)) (hd : (x == ("__debug__" : Str)) = false := by decide)
    (hcd : (x == ("__classdict__" : Str)) = false := by decide) (hb : attributeBase (.Name x p) "done" X.env (eval (.Name x p) X.env) = eval (.Name x p) X.env := by rfl)
    (hbase : attributeBase (.Attribute (.Name x p) "done" ap) "append" X.env (eval (.Attribute (.Name x p) "done" ap) X.env) = eval (.Attribute (.Name x p) "done" ap) X.env := by rfl)
    (hfew : ((backTo cp (starEach [e] X.env)).all (fun x => !x.1) && (backToKw cp (keywordEach [] X.env)).all (fun x => x.1.isSome)
      && decide ([e].length + ([] : List Keyword).length + (if ([] : List Keyword).isEmpty then 0 else 1) < 30)) = true := by rfl)
    (hline : (bp.endLine == cp.line) = true := by rfl) (hst : starEach [e] X.env = (false, eval e X.env) :: starEach [] X.env := by rfl) (hplain : (backTo cp (starEach [] X.env)).any (·.1) = false := by rfl)
    (hs : swapsWith (.Call (.Attribute (.Attribute (.Name x p) "done" ap) "append" bp) [e] [] cp) none pos.line X.env = pure false := by rfl) :
    DS X (SZ X.K L C cls) E Wx (.Expr (.Call (.Attribute (.Attribute (.Name x p) "done" ap) "append" bp) [e] [] cp) pos) (sDnApp i fe) := by
  refine PS.imp (ps_expr (pe_bm PySem.F.plainAttrs_list PySem.F.slot_list_append PySem.F.type_list_append mt_append (pe_fld (pe_var hN hv hd hcd) hb) (pa_cons he pa_nil hst) hbase hfew hline hst hplain) hs) fun D σ H ⟨Hf, g, sl, r, q⟩ => ?_
  obtain ⟨rc, m, _, h1, ⟨vw, vb, v1, l2, h2, h3, h4, h5, h6, h7, h8⟩, q⟩ := sh_goS r q
  refine ⟨_, h1, _, C, _, _, _, rfl, h2, T.cl, T.nD, shF_d _ _ _ _, .inl ⟨rfl, v1, SqL.of h4⟩, Hf, g, sl, r, (goS_do (Rl := RlD X.K) r q).mono fun v H1 ⟨Hf1, g1, d, b1, r1, d1, q1⟩ => ?_⟩
  obtain ⟨rc1, m1, _, k1, ⟨vw1, vb1, v11, l21, k2, k3, k4, k5, k6, k7, k8⟩, q2⟩ := sh_goS r1 q1
  split at q2
  · rename_i hc
    obtain ⟨hl, hlen⟩ := hc
    have hne1 : rc1.x ≠ rc1.l1 := ne_of k2 k4 (by intro z; cases z)
    have hne2 : rc1.dx ≠ rc1.l1 := ne_of k3 k4 (by intro z; cases z)
    have B := base_sh (H' := upd H1 rc1.l1 (.lst (v11 ++ [v]))) (rc' := { rc1 with dn := rc1.dn ++ [d] }) r1.base.self m1 rfl rfl rfl (fun y hy => upd_ne fun z => hy (.inr (.inr z)))
      ⟨vw1, vb1, v11 ++ [v], l21, by rw [upd_ne hne1]; exact k2, by rw [upd_ne hne2]; exact k3, upd_same, k5, k6, k7, k8.append (.cons d1 .nil)⟩
    rw [← hl]
    exact ⟨rc1.l1, v11, v, rfl, rfl, k4, by rw [k8.len]; exact lim_lt (Nat.le_of_lt hlen), q2 σ _ Hf1 (same_refl _) (r1.step B)⟩
  · exact q2.elim
/-- self.undone = [] -/
def sUnNew (i : Nat) : SM (Tw × List ShR) := sDo (mSh i) fun _ => sSkip
theorem ds_unNew (T : ShC X.K C) (hN : X.N[i]? = some x := by rfl) (hv : Vis X.env.scope x := by first | exact Or.inl rfl | exact Or.inr (Or.inl rfl) | exact Or.inr (Or.inr rfl)) (hd : (x == ("__debug__" : Str)) = false := by decide)
    (hcd : (x == ("__classdict__" : Str)) = false := by decide) (hs : swapsWith (.List [] dp) (some (.Attribute (.Name x p) "undone" ap)) pos.line X.env = pure false := by rfl) :
    DS X (SZ X.K L C cls) E Wx (.Assign [.Attribute (.Name x p) "undone" ap] (.List [] dp) pos) (sUnNew i) := by
  refine PS.imp (ps_fld (pe_var hN hv hd hcd) (pe_lst pa_nil) hs) fun D σ H ⟨Hf, g, sl, r, q⟩ => ?_
  obtain ⟨rc, m, _, h1, _, q⟩ := sh_goS r q
  refine ⟨by decide, fun l hl => ?_⟩
  have b0 := r.base.self.alloc (.lst []) hl
  have r0 := r.step b0
  obtain ⟨vw, vb, v1, l2, h2, h3, h4, h5, h6, h7, h8⟩ := r0.base.rep.2.1.2.1.1 rc m
  refine ⟨_, h1, _, C, _, _, rfl, h2, T.cl, T.nU, by show 4 < 1000; decide, ?_⟩
  rw [shF_put]
  have hne1 : rc.dx ≠ rc.x := ne_of h3 h2 (by intro z; cases z)
  have hne2 : rc.l1 ≠ rc.x := ne_of h4 h2 (by intro z; cases z)
  have B := base_sh (rc := rc) (rc' := rc) (H' := upd (upd H l (.lst [])) rc.x (.ins C rc.dx (shF vw vb rc.l1 l))) r0.base.self m rfl rfl rfl (fun y hy => upd_ne fun z => hy (.inl z))
    ⟨vw, vb, v1, l, upd_same, by rw [upd_ne hne1]; exact h3, by rw [upd_ne hne2]; exact h4, upd_same, h6, h7, h8⟩
  have hid : shSet g.2 rc.x (fun _ => rc) = g.2 := by
    unfold shSet
    refine (List.map_congr_left fun r' h' => ?_).trans (List.map_id _)
    split
    · rename_i ex
      exact (sh_one r.base.rep.2.1.2.1.2 h' m (b := r'.x) (.inl rfl) (.inl ex)).symm
    · rfl
  rw [hid] at B
  exact q σ _ _ b0.ff (r0.step B)
/-! ### methods -/
theorem pe_methA {k : Nat} {f : Addr} {fd : FuncData} {ps : List Str} {sp : Sp} {o : Expr} {es : List Expr} {ta : TE} {t : TA} {m : Str} {pl : Sem Bool} (he : PE X o ta) (c : Cls X.K C) (hm : Meth X.K C m f) (F : FnOk X.prog X.w X.K X.mg X.base (L2.CX X.prog X.w) k f fd ps sp) (hr : Room k X.A) (hb : Binds X.K fd ps []) (tk : Takes X Wx) (ha : PA X (e :: es) t)
    (hst : starEach (e :: es) X.env = (false, eval e X.env) :: starEach es X.env) (hpl : (backTo pos (starEach es X.env)).any (·.1) = false)
    (ht : eval (.Call (.Attribute o m apos) (e :: es) [] pos) X.env = (do
      let ov ← eval o X.env
      standAt apos.atName
      let (f, first) ← holding [ov] (getMethod ov m pl)
      callWith pos f first (backTo pos (starEach (e :: es) X.env)) (backToKw pos (keywordEach [] X.env)))) :
    PE X (.Call (.Attribute o m apos) (e :: es) [] pos) (fun σ H Q => ta σ H fun x H1 => ∃ a dx fs, x = .ref a ∧ H1 a = some (.ins C dx fs) ∧ fs.lookup m = none ∧ t σ H1 fun vs H2 => sp (.ref a :: vs) H2 Q (WE Wx σ)) := by
  refine ⟨fun pins s σ H Q I h => ?_⟩
  refine PySem.W.methodCall_KW (pl := pl) (thn (he.run pins s σ H _ I h) fun u s1 ⟨x, H1, I1, rx, a, dx, fs, ex, ea, l, q⟩ => ?_) ht
  subst ex
  obtain rfl : u = Value.ref a := rx
  refine getmeth_ok I1 ea c hm l ?_
  refine PySem.W.callWith_K (first := [.ref a]) (h₀ := X.base) I.ok.mod.kin hm.kp (thn (ha.run pos pins s1 σ H1 _ I1 q) fun us s2 ⟨vs, H2, I2, r, q2⟩ => ⟨I2.kIn, ?_⟩) hst hpl
  exact run_fnS (us := .ref a :: us) (vs := .ref a :: vs) (E := WE Wx) F hr hb (passAt tk σ) I2 (.cons rfl r) q2
theorem pe_methA0 {k : Nat} {f : Addr} {fd : FuncData} {ps : List Str} {sp : Sp} {o : Expr} {ta : TE} {m : Str} {pl : Sem Bool} (he : PE X o ta) (c : Cls X.K C) (hm : Meth X.K C m f) (F : FnOk X.prog X.w X.K X.mg X.base (L2.CX X.prog X.w) k f fd ps sp) (hr : Room k X.A) (hb : Binds X.K fd ps []) (tk : Takes X Wx)
    (ht : eval (.Call (.Attribute o m apos) [] [] pos) X.env = (do
      let ov ← eval o X.env
      standAt apos.atName
      let (f, first) ← holding [ov] (getMethod ov m pl)
      callWith pos f first (backTo pos (starEach [] X.env)) (backToKw pos (keywordEach [] X.env)))) :
    PE X (.Call (.Attribute o m apos) [] [] pos) (fun σ H Q => ta σ H fun x H1 => ∃ a dx fs, x = .ref a ∧ H1 a = some (.ins C dx fs) ∧ fs.lookup m = none ∧ sp [.ref a] H1 Q (WE Wx σ)) := by
  refine ⟨fun pins s σ H Q I h => ?_⟩
  refine PySem.W.methodCall_KW (pl := pl) (thn (he.run pins s σ H _ I h) fun u s1 ⟨x, H1, I1, rx, a, dx, fs, ex, ea, l, q⟩ => ?_) ht
  subst ex
  obtain rfl : u = Value.ref a := rx
  refine getmeth_ok I1 ea c hm l ?_
  exact PySem.W.callWith_K0 (first := [.ref a]) I1.kIn hm.kp (run_fnS (us := [.ref a]) (vs := [.ref a]) (E := WE Wx) F hr hb (passAt tk σ) I1 (.cons rfl .nil) q)
def eMeth (i : Nat) (F : Fn (Tw × List ShR)) (fs : M (Tw × List ShR) (List D)) : M (Tw × List ShR) D := M.bind (mSh i) fun r => M.bind fs fun ds => fun _ g => F (.ref r.x :: ds) g
theorem de_meth {k n : Nat} {f : Addr} {fd : FuncData} {ps : List Str} {es : List Expr} {m : Str} {pl : Sem Bool} {F : Fn (Tw × List ShR)} {fs : M (Tw × List ShR) (List D)} (T : ShC X.K C) (hm : Meth X.K C m f) (G : FnOk X.prog X.w X.K X.mg X.base (L2.CX X.prog X.w) k f fd ps (spF (SZ X.K L C cls) X.K (n + 1) F)) (hr : Room k X.A) (hb : Binds X.K fd ps []) (tk : Takes X Wx)
    (ha : DA X (SZ X.K L C cls) E Wx (e :: es) fs) (hl : ∀ sl g ds g', fs sl g = some (.ok ds, g') → ds.length = n) (hno : ∀ vw vb l1 l2, (shF vw vb l1 l2).lookup m = none := by intros; rfl)
    (hN : X.N[i]? = some x := by rfl) (hv : Vis X.env.scope x := by first | exact Or.inl rfl | exact Or.inr (Or.inl rfl) | exact Or.inr (Or.inr rfl)) (hd : (x == ("__debug__" : Str)) = false := by decide) (hcd : (x == ("__classdict__" : Str)) = false := by decide)
    (hst : starEach (e :: es) X.env = (false, eval e X.env) :: starEach es X.env := by rfl) (hpl : (backTo pos (starEach es X.env)).any (·.1) = false := by rfl)
    (ht : eval (.Call (.Attribute (.Name x p) m apos) (e :: es) [] pos) X.env = (do
      let ov ← eval (.Name x p) X.env
      standAt apos.atName
      let (f, first) ← holding [ov] (getMethod ov m pl)
      callWith pos f first (backTo pos (starEach (e :: es) X.env)) (backToKw pos (keywordEach [] X.env))) := by rfl) :
    DE X (SZ X.K L C cls) E Wx (.Call (.Attribute (.Name x p) m apos) (e :: es) [] pos) (eMeth i F fs) := by
  refine PE.imp (pe_methA (pe_var hN hv hd hcd) T.cl hm G hr hb tk ha hst hpl ht) fun σ H Q ⟨Hf, g, sl, r, q⟩ => ?_
  obtain ⟨rc, mm, _, h1, ⟨vw, vb, v1, l2, h2, h3, h4, h5, h6, h7, h8⟩, q⟩ := sh_go r q
  refine ⟨_, h1, rc.x, rc.dx, _, rfl, h2, hno _ _ _ _, Hf, g, sl, r, ?_⟩
  unfold M.bind at q
  match eq : fs sl g with
  | none => rw [eq] at q; exact q
  | some (.exc c, g1) => rw [eq] at q; exact q
  | some (.ok ds, g1) =>
    rw [eq] at q
    intro vs H1 Hf1 b1 d1
    exact ⟨by rw [List.length_cons, d1.len, hl sl g ds g1 eq], Hf1, g1, .ref rc.x :: ds, b1.self, .cons (.ref _) d1, go_wx (go.later (g := g) q b1)⟩
def eMeth0 (i : Nat) (F : Fn (Tw × List ShR)) : M (Tw × List ShR) D := M.bind (mSh i) fun r => fun _ g => F [.ref r.x] g
theorem de_meth0 {k : Nat} {f : Addr} {fd : FuncData} {ps : List Str} {m : Str} {pl : Sem Bool} {F : Fn (Tw × List ShR)} (T : ShC X.K C) (hm : Meth X.K C m f) (G : FnOk X.prog X.w X.K X.mg X.base (L2.CX X.prog X.w) k f fd ps (spF (SZ X.K L C cls) X.K 1 F)) (hr : Room k X.A) (hb : Binds X.K fd ps []) (tk : Takes X Wx)
    (hno : ∀ vw vb l1 l2, (shF vw vb l1 l2).lookup m = none := by intros; rfl)
    (hN : X.N[i]? = some x := by rfl) (hv : Vis X.env.scope x := by first | exact Or.inl rfl | exact Or.inr (Or.inl rfl) | exact Or.inr (Or.inr rfl)) (hd : (x == ("__debug__" : Str)) = false := by decide) (hcd : (x == ("__classdict__" : Str)) = false := by decide)
    (ht : eval (.Call (.Attribute (.Name x p) m apos) [] [] pos) X.env = (do
      let ov ← eval (.Name x p) X.env
      standAt apos.atName
      let (f, first) ← holding [ov] (getMethod ov m pl)
      callWith pos f first (backTo pos (starEach [] X.env)) (backToKw pos (keywordEach [] X.env))) := by rfl) :
    DE X (SZ X.K L C cls) E Wx (.Call (.Attribute (.Name x p) m apos) [] [] pos) (eMeth0 i F) := by
  refine PE.imp (pe_methA0 (pe_var hN hv hd hcd) T.cl hm G hr hb tk ht) fun σ H Q ⟨Hf, g, sl, r, q⟩ => ?_
  obtain ⟨rc, mm, _, h1, ⟨vw, vb, v1, l2, h2, h3, h4, h5, h6, h7, h8⟩, q⟩ := sh_go r q
  exact ⟨_, h1, rc.x, rc.dx, _, rfl, h2, hno _ _ _ _, rfl, Hf, g, [.ref rc.x], r.base.self, .cons (.ref _) .nil, go_wx q⟩
/-! ### len(sheet), str(sheet) -/
theorem run_in {k : Nat} {f : Addr} {fd : FuncData} {ps : List Str} {sp : Sp} {pins : List (Addr × Obj)} {σ : L2.St} {H : Hp} {s : Shared} {Q : VK} {us : List Value} {vs : List V} {A : Around} (F : FnOk X.prog X.w X.K X.mg X.base (L2.CX X.prog X.w) k f fd ps sp) (hr : Room k A) (e0 : Env0 X.prog X.w X.K X.mg X.base A X.stack s H) (hb : Binds X.K fd ps [])
    (I : Inv X pins σ H s) (r : Vals vs us) (h : sp vs H Q (fun _ _ _ => False)) : wpAny (model X.prog X.w) A (call (.ref f) us) (EP X pins σ Q) X.xe s := by
  have hl : us.length = ps.length := by rw [← r.length]; exact F.len _ _ _ _ h
  have b := hb s us I.kIn (by rw [List.append_nil]; exact hl)
  rw [List.append_nil] at b
  refine wpAny_call (codeAny_mono (F.run A X.stack s H ⟨us, []⟩ us vs Q (fun _ _ _ => False) hr e0 b r h) fun r s' hq => ?_)
  cases r with
  | error e => obtain ⟨_, _, _, _, _, _, _, _, _, _, _, _, z⟩ := hq; exact z.elim
  | ok fl =>
    cases fl with
    | ret u => exact I.after hq
    | next => exact False.elim hq
    | brk => exact False.elim hq
    | cont => exact False.elim hq
theorem call_lenO {k : Nat} {f : Addr} {fd : FuncData} {ps : List Str} {sp : Sp} (hs : PySem.W.findIn X.K (.ref C) "__len__" = some (some (.ref f))) (hf : PySem.W.isFn X.K (.ref f) = true) (F : FnOk X.prog X.w X.K X.mg X.base (L2.CX X.prog X.w) k f fd ps sp) (hr : Room (k + 1) X.A) (hb : Binds X.K fd ps []) :
    CallR X (.builtin "len") (fun xs H Q => ∃ a dx fs, xs = [.ref a] ∧ H a = some (.ins C dx fs) ∧ sp [.ref a] H (fun z H' => ∃ n : Nat, z = .int n ∧ n < 1000 ∧ Q z H') (fun _ _ _ => False)) := by
  intro pins s σ H xs us Q I r h
  obtain ⟨a, dx, fs, rfl, ea, q⟩ := h
  obtain ⟨u, rfl, ru⟩ := vals1 r
  cases (show u = Value.ref a from ru)
  obtain ⟨mA, O, _⟩ := ins_get I.hok ea
  obtain ⟨od, J, _⟩ := O.look
  obtain ⟨m, hFr⟩ := I.fr
  refine PySem.W.len_K hFr I.ok.mod.kin J hs hf (thn (run_in (us := [.ref a]) (vs := [.ref a]) F hr.in1 I.env0.in1 hb I (.cons rfl .nil) q) fun w s' ⟨z, H', I', rz, n, ez, hn, qz⟩ => ?_)
  subst ez
  obtain ⟨t, e⟩ := (show ∃ t, w = Value.int n t from rz)
  cases e
  exact ⟨⟨by omega, by omega⟩, .int n, H', I'.tok _, ⟨_, rfl⟩, qz⟩
theorem call_strO {k : Nat} {f : Addr} {fd : FuncData} {ps : List Str} {sp : Sp} (hs : PySem.W.findIn X.K (.ref C) "__str__" = some (some (.ref f))) (hf : PySem.W.isFn X.K (.ref f) = true) (F : FnOk X.prog X.w X.K X.mg X.base (L2.CX X.prog X.w) k f fd ps sp) (hr : Room (k + 2) X.A) (hb : Binds X.K fd ps []) :
    CallR X (.type "str") (fun xs H Q => ∃ a dx fs, xs = [.ref a] ∧ H a = some (.ins C dx fs) ∧ sp [.ref a] H (fun z H' => ∃ s : Str, z = .str s ∧ Q z H') (fun _ _ _ => False)) := by
  intro pins s σ H xs us Q I r h
  obtain ⟨a, dx, fs, rfl, ea, q⟩ := h
  obtain ⟨u, rfl, ru⟩ := vals1 r
  cases (show u = Value.ref a from ru)
  obtain ⟨mA, O, _⟩ := ins_get I.hok ea
  obtain ⟨od, J, _⟩ := O.look
  have hr2 : Room k X.A.in1.in1 := (show Room (k + 1) X.A.in1 from hr.in1).in1
  refine PySem.W.kso_call hr2.units0 I.kIn J hs hf (thn (run_in (us := [.ref a]) (vs := [.ref a]) F hr2 I.env0.in1.in1 hb I (.cons rfl .nil) q) fun w s' ⟨z, H', I', rz, t, ez, qz⟩ => ?_)
  subst ez
  obtain ⟨tk, e⟩ := (show ∃ tk, w = Value.str t tk from rz)
  cases e
  exact ⟨.str t, H', I', ⟨_, rfl⟩, qz⟩
def eLenO (i : Nat) (F : Fn (Tw × List ShR)) : M (Tw × List ShR) D := M.bind (mSh i) fun r => fun _ g => match F [.ref r.x] g with
  | some (.ok (.int n), g') => if 0 ≤ n ∧ n < 1000 then some (.ok (.int n), g') else none
  | _ => none
theorem de_lenO {k : Nat} {f : Addr} {fd : FuncData} {ps : List Str} {F : Fn (Tw × List ShR)} (hm : Meth X.K C "__len__" f) (G : FnOk X.prog X.w X.K X.mg X.base (L2.CX X.prog X.w) k f fd ps (spF (SZ X.K L C cls) X.K 1 F)) (hr : Room (k + 1) X.A) (hb : Binds X.K fd ps []) (hg : Gl X "len") (hm0 : X.mg "len" = none)
    (hN : X.N[i]? = some x := by rfl) (hv : Vis X.env.scope x := by first | exact Or.inl rfl | exact Or.inr (Or.inl rfl) | exact Or.inr (Or.inr rfl)) (hd : (x == ("__debug__" : Str)) = false := by decide) (hcd : (x == ("__classdict__" : Str)) = false := by decide)
    (hs : starEach [.Name x p] X.env = (false, eval (.Name x p) X.env) :: starEach [] X.env := by rfl) (hpl : (backTo cp (starEach [] X.env)).any (·.1) = false := by rfl) :
    DE X (SZ X.K L C cls) E Wx (.Call (.Name "len" bp) [.Name x p] [] cp) (eLenO i F) := by
  refine PE.imp (pe_callB (call_lenO hm.at_ hm.fn G hr hb) hg hm0 bt_len (pa_cons (pe_var hN hv hd hcd) pa_nil hs) (by decide) (by decide) hs hpl) fun σ H Q ⟨Hf, g, sl, r, q⟩ => ?_
  obtain ⟨rc, mm, _, h1, ⟨vw, vb, v1, l2, h2, h3, h4, h5, h6, h7, h8⟩, q⟩ := sh_go r q
  refine ⟨_, h1, rc.x, rc.dx, _, rfl, h2, rfl, Hf, g, [.ref rc.x], r.base.self, .cons (.ref _) .nil, ?_⟩
  simp only at q
  split at q
  · rename_i n g' eF
    rw [eF]
    split at q
    · rename_i hn
      intro v H' Hf' B dv
      cases dv
      exact ⟨n.toNat, by rw [Int.toNat_of_nonneg hn.1], by omega, q _ _ _ B (.int _)⟩
    · exact q.elim
  · exact q.elim
def eStrO (i : Nat) (F : Fn (Tw × List ShR)) : M (Tw × List ShR) D := M.bind (mSh i) fun r => fun _ g => match F [.ref r.x] g with
  | some (.ok (.str s), g') => some (.ok (.str s), g')
  | _ => none
theorem de_strO {k : Nat} {f : Addr} {fd : FuncData} {ps : List Str} {F : Fn (Tw × List ShR)} (hm : Meth X.K C "__str__" f) (G : FnOk X.prog X.w X.K X.mg X.base (L2.CX X.prog X.w) k f fd ps (spF (SZ X.K L C cls) X.K 1 F)) (hr : Room (k + 2) X.A) (hb : Binds X.K fd ps []) (hg : Gl X "str") (hm0 : X.mg "str" = none)
    (hN : X.N[i]? = some x := by rfl) (hv : Vis X.env.scope x := by first | exact Or.inl rfl | exact Or.inr (Or.inl rfl) | exact Or.inr (Or.inr rfl)) (hd : (x == ("__debug__" : Str)) = false := by decide) (hcd : (x == ("__classdict__" : Str)) = false := by decide)
    (hs : starEach [.Name x p] X.env = (false, eval (.Name x p) X.env) :: starEach [] X.env := by rfl) (hpl : (backTo cp (starEach [] X.env)).any (·.1) = false := by rfl) :
    DE X (SZ X.K L C cls) E Wx (.Call (.Name "str" bp) [.Name x p] [] cp) (eStrO i F) := by
  refine PE.imp (pe_callTy (call_strO hm.at_ hm.fn G hr hb) hg hm0 bt_str (pa_cons (pe_var hN hv hd hcd) pa_nil hs) (by decide) (by decide) hs hpl) fun σ H Q ⟨Hf, g, sl, r, q⟩ => ?_
  obtain ⟨rc, mm, _, h1, ⟨vw, vb, v1, l2, h2, h3, h4, h5, h6, h7, h8⟩, q⟩ := sh_go r q
  refine ⟨_, h1, rc.x, rc.dx, _, rfl, h2, rfl, Hf, g, [.ref rc.x], r.base.self, .cons (.ref _) .nil, ?_⟩
  simp only at q
  split at q
  · rename_i s g' eF
    rw [eF]
    intro v H' Hf' B dv
    cases dv with
    | str _ ok => exact ⟨mkS s, rfl, q _ _ _ B (.str _ ok)⟩
  · exact q.elim
end
end DL
namespace DL
open PySem PySem.Spec PyProof.Rows L2 LamX
/-! ### statements whose outcome is told by what holds behind them -/
structure WS (G : Type) where
  run : SL → G → (Fl → SL → G → Prop) → Prop
  mono : ∀ {sl : SL} {g : G} {Q Q' : Fl → SL → G → Prop}, run sl g Q → (∀ fl sl' g', Q fl sl' g' → Q' fl sl' g') → run sl g Q'
section
variable {G : Type}
def wDet (f : SM G) : WS G := ⟨fun sl g Q => ∃ fl sl' g', f sl g = some (fl, sl', g') ∧ Q fl sl' g', fun ⟨a, b, c, e, q⟩ k => ⟨a, b, c, e, k _ _ _ q⟩⟩
def seqQ (w2 : WS G) (Q : Fl → SL → G → Prop) : Fl → SL → G → Prop := fun fl sl g => match fl with
  | .nx => w2.run sl g Q
  | fl => Q fl sl g
theorem seqQ_mono {w2 : WS G} {Q Q' : Fl → SL → G → Prop} (k : ∀ fl sl' g', Q fl sl' g' → Q' fl sl' g') : ∀ fl sl g, seqQ w2 Q fl sl g → seqQ w2 Q' fl sl g
  | .nx, sl, g, h => w2.mono h k
  | .bk, sl, g, h => k _ _ _ h
  | .ct, sl, g, h => k _ _ _ h
  | .rt d, sl, g, h => k _ _ _ h
  | .ex c, sl, g, h => k _ _ _ h
def wSeq (w1 w2 : WS G) : WS G := ⟨fun sl g Q => w1.run sl g (seqQ w2 Q), fun h k => w1.mono h (seqQ_mono k)⟩
def turnQ (next : SL → G → Prop) (vs : List Nat) (Q : Fl → SL → G → Prop) : Fl → SL → G → Prop := fun fl sl g => match fl with
  | .nx => next (wipeS sl vs) g
  | .ct => next (wipeS sl vs) g
  | .bk => Q .nx (wipeS sl vs) g
  | fl => Q fl sl g
def wForL (tg : Tg) (w : WS G) (vs : List Nat) : List D → SL → G → (Fl → SL → G → Prop) → Prop
  | [], sl, g, Q => Q .nx sl g
  | d :: ds, sl, g, Q => ∃ sl1, tg d sl = some sl1 ∧ w.run sl1 g (turnQ (fun sl2 g2 => wForL tg w vs ds sl2 g2 Q) vs Q)
theorem wForL_mono {tg : Tg} {w : WS G} {vs : List Nat} {Q Q' : Fl → SL → G → Prop} (k : ∀ fl sl' g', Q fl sl' g' → Q' fl sl' g') : ∀ (ds : List D) {sl : SL} {g : G}, wForL tg w vs ds sl g Q → wForL tg w vs ds sl g Q'
  | [], _, _, h => k _ _ _ h
  | d :: ds, _, _, ⟨sl1, e, h⟩ => ⟨sl1, e, w.mono h fun fl sl' g' z => by
    match fl, z with
    | .nx, z => exact wForL_mono k ds z
    | .ct, z => exact wForL_mono k ds z
    | .bk, z => exact k _ _ _ z
    | .rt d, z => exact k _ _ _ z
    | .ex c, z => exact k _ _ _ z⟩
def wFor (it : M G (List D)) (tg : Tg) (vs : List Nat) (w : WS G) : WS G := ⟨fun sl g Q => ∃ ds g1, it sl g = some (.ok ds, g1) ∧ wForL tg w vs ds sl g1 Q, fun ⟨ds, g1, e, h⟩ k => ⟨ds, g1, e, wForL_mono k ds h⟩⟩
end
def tW (Z : Cn) (K : PySem.W.Frag) (E : Ent Z.W) (Wx : WX) (w : WS Z.W.G) : TS := fun D σ H => ∃ (Hf : Hp) (g : Z.W.G) (sl : SL), R K E H Hf g sl σ ∧ w.run sl g fun fl sl' g' => goS Z K E Wx Hf (some (fl, sl', g')) D
section
variable {X : Cx} {Z : Cn} {E : Ent Z.W} {Wx : WX} {st : Stmt} {sts : List Stmt} {pos : Pos} {fs : SM Z.W.G} {w w1 w2 : WS Z.W.G} {tg : Expr}
abbrev DSw (X : Cx) (Z : Cn) (E : Ent Z.W) (Wx : WX) (st : Stmt) (w : WS Z.W.G) : Prop := PS X st (tW Z X.K E Wx w)
abbrev DSsw (X : Cx) (Z : Cn) (E : Ent Z.W) (Wx : WX) (st : List Stmt) (w : WS Z.W.G) : Prop := PSs X st (tW Z X.K E Wx w)
theorem dsw_of (h : DS X Z E Wx st fs) : DSw X Z E Wx st (wDet fs) :=
  PS.imp h fun D σ H ⟨Hf, g, sl, r, fl, sl', g', e, q⟩ => ⟨Hf, g, sl, r, by rw [e]; exact q⟩
theorem dssw_of (h : DSs X Z E Wx sts fs) : DSsw X Z E Wx sts (wDet fs) :=
  PSs.imp h fun D σ H ⟨Hf, g, sl, r, fl, sl', g', e, q⟩ => ⟨Hf, g, sl, r, by rw [e]; exact q⟩
theorem dssw_cons (h1 : DSw X Z E Wx st w1) (h2 : DSsw X Z E Wx sts w2) : DSsw X Z E Wx (st :: sts) (wSeq w1 w2) := by
  refine PSs.imp (pss_cons h1 h2) fun D σ H ⟨Hf, g, sl, r, q⟩ => ⟨Hf, g, sl, r, w1.mono q fun fl sl' g' z => ?_⟩
  match fl, z with
  | .nx, z => exact fun σ' H' Hf' s r' => ⟨Hf', g', sl', r', w2.mono z fun fl2 sl2 g2 z2 => goS.later z2 s⟩
  | .bk, z => exact z
  | .ct, z => exact z
  | .rt d, z => exact z
  | .ex c, z => exact z
theorem dssw_one (h : DSw X Z E Wx st w) : DSsw X Z E Wx [st] w := PSs.imp (pss_one h) fun D σ H q => q
theorem dsw_for {iter : Expr} {body : List Stmt} {fi : M Z.W.G (List D)} {u : TG} {ixs : List Nat} {t : Tg} {vs : List Nat} (hp : PassesOwn (model X.prog X.w) X.A X.env X.xe) (hc : X.calm = true) (hi : DI X Z E Wx tg iter fi) (hg : DG X tg u ixs t) (hb : DSsw X Z E Wx body w)
    (hs : ∀ x, foldedSetIterable iter X.env x = pure x := by intro _; rfl) : DSw X Z E Wx (.For tg iter body [] pos) (wFor fi t vs w) := by
  obtain ⟨pg, kg⟩ := hg
  refine PS.imp (ps_for hp hc hi pg hb hs) fun D σ H ⟨Hf, g, sl, r, q⟩ => ?_
  obtain ⟨ds, g1, eit, q⟩ := q
  refine ⟨Hf, g, sl, r, ?_⟩
  rw [eit]
  intro J H1 Hf1 b1 wk
  have r1 := r.step b1
  refine for_it wk (fun i σ H => ∃ (Hf2 : Hp) (g2 : Z.W.G) (sl2 : SL), Same Hf1 Hf2 ∧ R X.K E H Hf2 g2 sl2 σ ∧ wForL t w vs (ds.drop i) sl2 g2 fun fl sl' g' => goS Z X.K E Wx Hf2 (some (fl, sl', g')) D) ⟨Hf1, g1, sl, same_refl _, r1, wForL_mono (fun fl sl' g' z => goS.later z b1.ff) ds q⟩ ?_ ?_ ?_
  · rintro i σ H _ ⟨Hf2, g2, sl2, s2, r2, q2⟩
    exact Same.tr s2 r2.base.fh
  · rintro i x σ H H' hi ⟨Hf2, g2, sl2, s2, r2, q2⟩ y
    obtain ⟨d, Hf3, ed, b3, dv⟩ := y.run r2.base.self s2
    have ed' : ds.drop i = d :: ds.drop (i + 1) := by
      obtain ⟨hlt, ee⟩ := List.getElem?_eq_some_iff.mp ed
      rw [List.drop_eq_getElem_cons hlt, ee]
    rw [ed'] at q2
    obtain ⟨sl3, et, q3⟩ := q2
    have r3 := r2.step b3
    refine kg Z E H' Hf3 g2 sl2 sl3 σ x d _ r3 dv et fun σ' r4 _ => ⟨Hf3, g2, sl3, r4, w.mono q3 fun fl sl4 g4 z => ?_⟩
    match fl, z with
    | .nx, z => exact fun σ5 H5 Hf5 s5 r5 => ⟨Hf5, g4, _, Same.tr s2 (Same.tr b3.ff s5), r5.fgt vs, wForL_mono (fun fl sl' g' z => goS.later z (Same.tr b3.ff s5)) _ z⟩
    | .ct, z => exact fun σ5 H5 Hf5 s5 r5 => ⟨Hf5, g4, _, Same.tr s2 (Same.tr b3.ff s5), r5.fgt vs, wForL_mono (fun fl sl' g' z => goS.later z (Same.tr b3.ff s5)) _ z⟩
    | .bk, z => exact fun σ5 H5 Hf5 s5 r5 => z σ5 H5 Hf5 (Same.tr b3.ff s5) (r5.fgt vs)
    | .rt d, z => exact z
    | .ex c, z => exact z
  · rintro σ H ⟨Hf2, g2, sl2, s2, r2, q2⟩
    rw [List.drop_length] at q2
    exact q2 σ H Hf2 (same_refl _) r2
end
end DL
namespace DL
open PySem PySem.Spec PyProof.Rows L2 LamX
section
variable {X : Cx} {Z : Cn} {E : Ent Z.W} {Wx : WX}
/-- str(text) -/
def strSD : D → Option D
  | .str s => some (.str s)
  | _ => none
theorem c_strS : C1 X (.type "str") strSD := by
  refine ⟨_, SkE.call_str_str, fun W H Hf g x a d Q B ha ed k => ?_⟩
  match a, ed, ha with
  | .str s, ed, ha =>
    obtain ⟨rfl, ok⟩ := ha.str
    cases ed
    exact ⟨mkS s, rfl, k _ _ _ B (.str _ ok)⟩
end
section
variable {X : Cx} {L : List (Addr × Str)} {C : Addr} {cls : Nat → Value} {E : Ent (TW X.K (VwX L (ShW X.K C)))} {Wx : WX} {e a b c : Expr} {pos p ap cp dp bp p1 p2 p3 q1 q2 q3 npos apos cpos : Pos} {fe fa fb fc : M (Tw × List ShR) D} {i : Nat} {x y : Str}
/-- f(self.words, self.boxes, self.done), f a def that leaves all as it is -/
def eSeenD (i : Nat) (F : Fn (Tw × Unit)) : M (Tw × List ShR) D := M.bind (mSh i) fun r => fun _ g => match F [r.ws, r.bx, .lst r.dn] (g.1, ()) with
  | some (.ok (.str s), g') => some (.ok (.str s), (g'.1, g.2))
  | _ => none
theorem de_seenD {k : Nat} {f : Addr} {fd : FuncData} {ps : List Str} {F : Fn (Tw × Unit)} (T : ShC X.K C) (G : FnOk X.prog X.w X.K X.mg X.base (L2.CX X.prog X.w) k f fd ps (spF (TZ X.K W0d cls) X.K 3 F)) (hr : Room k X.A) (hg : Gl X y) (hm : X.mg y = some (.ref f)) (hk : PySem.W.keepIn X.K (.ref f) = true) (hb : Binds X.K fd ps []) (tk : Takes X Wx)
    (hN : X.N[i]? = some x := by rfl) (hv : Vis X.env.scope x := by first | exact Or.inl rfl | exact Or.inr (Or.inl rfl) | exact Or.inr (Or.inr rfl)) (hd : (x == ("__debug__" : Str)) = false := by decide) (hcd : (x == ("__classdict__" : Str)) = false := by decide) (hdb : (y == ("__debug__" : Str)) = false := by decide)
    (hb1 : attributeBase (.Name x p1) "words" X.env (eval (.Name x p1) X.env) = eval (.Name x p1) X.env := by rfl) (hb2 : attributeBase (.Name x p2) "boxes" X.env (eval (.Name x p2) X.env) = eval (.Name x p2) X.env := by rfl) (hb3 : attributeBase (.Name x p3) "done" X.env (eval (.Name x p3) X.env) = eval (.Name x p3) X.env := by rfl)
    (hs1 : starEach [.Attribute (.Name x p1) "words" q1, .Attribute (.Name x p2) "boxes" q2, .Attribute (.Name x p3) "done" q3] X.env = (false, eval (.Attribute (.Name x p1) "words" q1) X.env) :: starEach [.Attribute (.Name x p2) "boxes" q2, .Attribute (.Name x p3) "done" q3] X.env := by rfl)
    (hs2 : starEach [.Attribute (.Name x p2) "boxes" q2, .Attribute (.Name x p3) "done" q3] X.env = (false, eval (.Attribute (.Name x p2) "boxes" q2) X.env) :: starEach [.Attribute (.Name x p3) "done" q3] X.env := by rfl)
    (hs3 : starEach [.Attribute (.Name x p3) "done" q3] X.env = (false, eval (.Attribute (.Name x p3) "done" q3) X.env) :: starEach [] X.env := by rfl)
    (hpl : (backTo pos (starEach [.Attribute (.Name x p2) "boxes" q2, .Attribute (.Name x p3) "done" q3] X.env)).any (·.1) = false := by rfl) :
    DE X (SZ X.K L C cls) E Wx (.Call (.Name y p) [.Attribute (.Name x p1) "words" q1, .Attribute (.Name x p2) "boxes" q2, .Attribute (.Name x p3) "done" q3] [] pos) (eSeenD i F) := by
  refine PE.imp (pe_callS G hr hg hm hk hb (fun σ => passAt tk σ) (pa_cons (pe_fld (pe_var hN hv hd hcd) hb1) (pa_cons (pe_fld (pe_var hN hv hd hcd) hb2) (pa_cons (pe_fld (pe_var hN hv hd hcd) hb3) pa_nil hs3) hs2) hs1) hdb hs1 hpl) fun σ H Q ⟨Hf, g, sl, r, q⟩ => ?_
  obtain ⟨rc, mm, _, h1, hrep, q⟩ := sh_go r q
  obtain ⟨vw, vb, v1, l2, h2, h3, h4, h5, h6, h7, h8⟩ := id hrep
  refine ⟨_, h1, _, C, _, _, vw, rfl, h2, T.cl, T.nW, shF_w _ _ _ _, _, h1, _, C, _, _, vb, rfl, h2, T.cl, T.nB, shF_b _ _ _ _, _, h1, _, C, _, _, _, rfl, h2, T.cl, T.nD, shF_d _ _ _ _, rfl, ?_⟩
  have B := r.base.self
  have fpl : (TW X.K (VwX L (ShW X.K C))).fp g rc.l1 := .inr (.inr ⟨rc, mm, .inr (.inr rfl)⟩)
  have hfl : Hf rc.l1 = none := B.dis _ fpl
  have tfp : ∀ y, g.1.fp y → y ≠ rc.l1 := fun y hy z => by subst z; exact B.rep.2.2 _ hy (.inr ⟨rc, mm, .inr (.inr rfl)⟩)
  have B0 : Base (TW X.K W0d) H (upd Hf rc.l1 (.lst v1)) (g.1, ()) H (upd Hf rc.l1 (.lst v1)) (g.1, ()) := by
    refine Base.refl (fun z o e => ?_) ⟨B.rep.1, trivial, fun _ _ h => h⟩ (fun z hz => ?_)
    · by_cases hz : z = rc.l1
      · subst hz; rw [upd_same] at e; cases e; exact h4
      · rw [upd_ne hz] at e; exact B.fh z o e
    · rcases hz with hz | hz
      · rw [upd_ne (tfp z hz)]; exact B.dis z (.inl hz)
      · exact hz.elim
  have sN := same_new (o := .lst v1) hfl
  refine ⟨upd Hf rc.l1 (.lst v1), (g.1, ()), [rc.ws, rc.bx, .lst rc.dn], B0, .cons (Dv.mono sN _ h6) (.cons (Dv.mono sN _ h7) (.cons (.lst upd_same (DvAll.mono sN _ h8)) .nil)), ?_⟩
  simp only at q
  split at q
  · rename_i s g' eF
    refine (congrArg (fun m : Out (Tw × Unit) D => go (TZ X.K W0d cls) (RlD X.K) (fun cls d _ H' => WE Wx σ cls d H') [] m H (upd Hf rc.l1 (.lst v1)) (g.1, ()) Q) eF).mpr ?_
    intro v H' Hf' B' dv
    have dv : Dv X.K Hf' v (.str s) := dv
    cases dv with
    | str _ ok =>
      refine q _ H' (wo Hf' rc.l1) ?_ (.str _ ok)
      have kp : ∀ z o, H z = some o → ¬ g.1.fp z → H' z = some o := fun z o e n => B'.keep z o e fun w => by
        rcases w with w | w
        · exact n w
        · exact w.elim
      have nfp : ∀ z, (VwX L (ShW X.K C)).fp g.2 z → ¬ g.1.fp z := fun z hz w => B.rep.2.2 z w hz
      have same : Same Hf (wo Hf' rc.l1) := fun z o e => by
        have hz : z ≠ rc.l1 := fun w => by subst w; rw [hfl] at e; cases e
        rw [wo_ne hz]; exact B'.ff z o (by rw [upd_ne hz]; exact e)
      have he : ∀ z, (VwX L (ShW X.K C)).fp g.2 z → H' z = H z := fun z hz => by
        cases e : H z with
        | none => exact absurd e ((VwX L (ShW X.K C)).there g.2 H Hf z B.rep.2.1 hz)
        | some o => exact kp z o e (nfp z hz)
      exact { ff := same
              fh := fun z o e => by
                have hz : z ≠ rc.l1 := fun w => by subst w; rw [wo_same] at e; cases e
                rw [wo_ne hz] at e
                exact B'.fh z o e
              keep := fun z o e n => kp z o e fun w => n (.inl w)
              old := fun z e => by
                by_cases hz : z = rc.l1
                · subst hz; rw [wo_same, hfl]
                · rw [wo_ne hz, B'.old z e, upd_ne hz]
              there := B'.there
              rep := ⟨B'.rep.1, (VwX L (ShW X.K C)).loc g.2 H H' Hf _ B.rep.2.1 he fun z o _ e => same z o e, fun z hz w => by
                rcases B'.fpo z (.inl hz) with u | u
                · rcases u with u | u
                  · exact B.rep.2.2 z u w
                  · exact u
                · exact (VwX L (ShW X.K C)).there g.2 H Hf z B.rep.2.1 w u⟩
              dis := fun z hz => by
                by_cases hl : z = rc.l1
                · subst hl; exact wo_same
                · rw [wo_ne hl]
                  rcases hz with hz | hz
                  · exact B'.dis z (.inl hz)
                  · have : H z ≠ none := (VwX L (ShW X.K C)).there g.2 H Hf z B.rep.2.1 hz
                    rw [B'.old z this, upd_ne hl]
                    exact B.dis z (.inr hz)
              fpo := fun z hz => by
                rcases hz with hz | hz
                · rcases B'.fpo z (.inl hz) with u | u
                  · rcases u with u | u
                    · exact .inl (.inl u)
                    · exact u.elim
                  · exact .inr u
                · exact .inl (.inr hz) }
  · exact q.elim
end
end DL
namespace DL
open PySem PySem.Spec PyProof.Rows L2 LamX
/-! ### o.f as a target -/
section
variable {M : Model} {A : Around} {E : Value → Shared → Prop} {s : Shared} {env : Env}
theorem wp_asgAttr {o : Expr} {attr : Str} {pos' : Pos} {v : Value} {Q : Unit → Shared → Prop} (h : wpAny M A (eval o env) (fun ov s₂ => wpAny M A (setAttr ov attr v) Q E s₂) E s) : wpAny M A (assign (.Attribute o attr pos') env v) Q E s := fun Γ p hΓ => by
  simp only [assign_Attribute, Sem.wp_bind', Sem.wp_holding, Sem.wp_cmd_standAt, Sem.wp_release, Sem.wp_pure']
  exact Sem.wp_mono M Γ _ (fun ov _ s₂ h₂ => h₂ Γ _ hΓ) (fun _ _ _ h' => h') _ _ (h Γ _ hΓ)
end
def gFld (K : PySem.W.Frag) (ta : TE) (f : Str) : TG := fun v σ H Q => ta σ H fun x H1 => ∃ a C dx fs, x = .ref a ∧ H1 a = some (.ins C dx fs) ∧ Cls K C ∧ NoAttr K C f ∧ fs.length < 1000 ∧ Q σ (upd H1 a (.ins C dx (putF f v fs)))
theorem pg_fld {X : Cx} {o : Expr} {f : Str} {ta : TE} {pos' : Pos} (ho : PE X o ta) : PG X (.Attribute o f pos') (gFld X.K ta f) := by
  refine ⟨fun pins s σ H v u Q I r h => ?_⟩
  refine wp_asgAttr (thn (ho.run pins s σ H _ I h) fun ov s2 ⟨x, H2, I2, rx, a, C, dx, fs, ex, ea, c, n, l, q2⟩ => ?_)
  subst ex
  obtain rfl : ov = Value.ref a := rx
  exact setattr_ok I2 ea c n l r fun s3 I3 => ⟨σ, _, I3, q2⟩
/-! ### __init__ -/
def tInit (K : PySem.W.Frag) : TS := tSeq (tAsg (tTup (tCons (tVar 1) (tCons (tVar 2) tNil))) (gTup K 2 (gCons (gFld K (tVar 0) "words") (gCons (gFld K (tVar 0) "boxes") gNil)))) (tSeq (sFld K (tVar 0) (tLst tNil) "done") (sFld K (tVar 0) (tLst tNil) "undone"))
def spIn (Z : Cn) (K : PySem.W.Frag) (C : Addr) (Fc : Fn Z.W.G) : Sp := fun vs H Q Ex => ∃ (x dx : Addr) (vw vb : V) (Hf : Hp) (g : Z.W.G) (dw db : D), vs = [.ref x, vw, vb] ∧ H x = some (.ins C dx []) ∧ Base Z.W H Hf g H Hf g ∧ ¬ Z.W.fp g x ∧ Dv K Hf vw dw ∧ Dv K Hf vb db ∧
  (match Fc [dw, db] g with
   | some (.ok _, g') => ∀ (H1 Hf1 : Hp) (l1 l2 : Addr) (H2 : Hp) (vw' vb' : V), Base Z.W H Hf g H1 Hf1 g' → Dv K Hf1 vw' dw → Dv K Hf1 vb' db → H1 l1 = none → H1 l2 = none → l1 ≠ l2 → H2 x = some (.ins C dx (shF vw' vb' l1 l2)) → H2 l1 = some (.lst []) → H2 l2 = some (.lst []) → (∀ y o, H1 y = some o → y ≠ x → H2 y = some o) → Q .non H2
   | some (.exc c, g') => ∀ H1 Hf1, Base Z.W H Hf g H1 Hf1 g' → Ex (Z.cls c) none H1
   | none => False)
theorem init_ok {Z : Cn} {P : Program} {w : World} {K : PySem.W.Frag} {mg : Str → Option Value} {base : Heap} {x qual : Str} {st st0 : Stmt} {rest : List Stmt} {f C : Addr} {fd : FuncData} {k : Nat} {Fc : Fn Z.W.G} (F : Fun K x qual st f fd) (S : FnScope ["self", "words", "boxes"] ["self", "words", "boxes"] (defScope st)) (T : ShC K C) (hb : defBody st = st0 :: rest)
    (body0 : ∀ (cdv : Value) (A : Around) (outer : List Env) (s : Shared) (H : Hp) (E : Ent Z.W) (Ex : XK), Room k (A.deeper (PyProof.Rows.envOfC qual (defScope st) s.heap.objs.size f cdv)) →
      DS (cxOf (L2.CX P w) P w K mg base ["self", "words", "boxes"] qual (defScope st) f cdv A outer s H Ex) Z E (fun cls d _ H => Ex cls d H) st0 (sDrop (callM Fc (aCons (eV 1) (aCons (eV 2) aNil)))))
    (body1 : ∀ (cdv : Value) (A : Around) (outer : List Env) (s : Shared) (H : Hp) (Ex : XK), Room k (A.deeper (PyProof.Rows.envOfC qual (defScope st) s.heap.objs.size f cdv)) →
      PSs (cxOf (L2.CX P w) P w K mg base ["self", "words", "boxes"] qual (defScope st) f cdv A outer s H Ex) rest (tInit K)) :
    FnOk P w K mg base (L2.CX P w) (k + 1) f fd ["self", "words", "boxes"] (spIn Z K C Fc) := by
  refine F.okX (sp := spIn Z K C Fc) S (fun vs H Q E ⟨x, dx, vw, vb, _, _, _, _, h, _⟩ => by rw [h]; rfl) fun cdv A outer s H vs Q Ex hr ⟨x, dx, vw, vb, Hf, g, dw, db, ev, hx, B, nfx, dvw, dvb, q⟩ => ?_
  subst ev
  have hbody : PSs (cxOf (L2.CX P w) P w K mg base ["self", "words", "boxes"] qual (defScope st) f cdv A outer s H Ex) (defBody st) (tSeq (tS Z K ⟨H, Hf, g⟩ (fun cls d _ H => Ex cls d H) (sDrop (callM Fc (aCons (eV 1) (aCons (eV 2) aNil))))) (tInit K)) := by
    rw [hb]
    exact pss_cons (body0 cdv A outer s H ⟨H, Hf, g⟩ Ex hr) (body1 cdv A outer s H Ex hr)
  refine ⟨_, hbody, ?_⟩
  refine ⟨Hf, g, _, start_R (P := P) B (.cons (.ref x) (.cons dvw (.cons dvb .nil))) (Nat.le_refl 3), ?_⟩
  have e0 : ∀ g : Z.W.G, callM Fc (aCons (eV 1) (aCons (eV 2) aNil)) [some (.d (.ref x)), some (.d dw), some (.d db)] g = Fc [dw, db] g := fun g => rfl
  show goS Z K ⟨H, Hf, g⟩ (fun cls d _ H => Ex cls d H) Hf (sDo (callM Fc (aCons (eV 1) (aCons (eV 2) aNil))) (fun _ => sSkip) [some (.d (.ref x)), some (.d dw), some (.d db)] g) _
  unfold sDo
  rw [e0]
  match eF : Fc [dw, db] g with
  | none => rw [eF] at q; exact q.elim
  | some (.exc c, g') =>
    rw [eF] at q
    exact fun σ' H' Hf' r => q H' Hf' r.base
  | some (.ok d, g') =>
    rw [eF] at q
    intro σ' H1 Hf1 _ r
    obtain ⟨v0, s0, d0⟩ := r.slot 0 _ rfl
    have d0 : Dv K Hf1 v0 (.ref x) := d0
    cases d0
    obtain ⟨v1, s1, d1⟩ := r.slot 1 _ rfl
    obtain ⟨v2, s2, d2⟩ := r.slot 2 _ rfl
    have hx1 : H1 x = some (.ins C dx []) := r.base.keep x _ hx nfx
    refine ⟨_, s1, _, s2, (by show 2 ≤ sizeLine; decide), fun t ht => ?_⟩
    have hxt : x ≠ t := ne_of_none hx1 ht
    refine ⟨t, [v1, v2], rfl, SqT.of upd_same, rfl, v1, [v2], rfl, _, s0, x, C, dx, [], rfl, by rw [upd_ne hxt]; exact hx1, T.cl, T.nW, by decide, v2, [], rfl, _, s0, x, C, dx, _, rfl, upd_same, T.cl, T.nB, by show 1 < 1000; decide, rfl, ?_⟩
    refine ⟨by show 0 ≤ sizeLine; decide, fun l1 hl1 => ?_⟩
    have hl1x : l1 ≠ x := fun z => by subst z; rw [upd_same] at hl1; cases hl1
    rw [upd_ne hl1x, upd_ne hl1x] at hl1
    have hl1t : l1 ≠ t := fun z => by subst z; rw [upd_same] at hl1; cases hl1
    rw [upd_ne hl1t] at hl1
    refine ⟨_, s0, x, C, dx, _, rfl, by rw [upd_ne hl1x.symm, upd_same], T.cl, T.nD, by show 2 < 1000; decide, ?_⟩
    refine ⟨by show 0 ≤ sizeLine; decide, fun l2 hl2 => ?_⟩
    have hl2x : l2 ≠ x := fun z => by subst z; rw [upd_same] at hl2; cases hl2
    rw [upd_ne hl2x] at hl2
    have hl21 : l2 ≠ l1 := fun z => by subst z; rw [upd_same] at hl2; cases hl2
    rw [upd_ne hl21, upd_ne hl2x, upd_ne hl2x] at hl2
    have hl2t : l2 ≠ t := fun z => by subst z; rw [upd_same] at hl2; cases hl2
    rw [upd_ne hl2t] at hl2
    refine ⟨_, s0, x, C, dx, _, rfl, by rw [upd_ne hl2x.symm, upd_same], T.cl, T.nU, by show 3 < 1000; decide, ?_⟩
    refine q H1 Hf1 l1 l2 _ v1 v2 r.base d1 d2 hl1 hl2 hl21.symm ?_ ?_ ?_ ?_
    · rw [upd_same, shF_new]
    · rw [upd_ne hl1x, upd_ne hl21.symm, upd_ne hl1x, upd_same]
    · rw [upd_ne hl2x, upd_same]
    · intro y o e hy
      have y1 : y ≠ l1 := ne_of_none e hl1
      have y2 : y ≠ l2 := ne_of_none e hl2
      have y3 : y ≠ t := ne_of_none e ht
      rw [upd_ne hy, upd_ne y2, upd_ne hy, upd_ne y1, upd_ne hy, upd_ne hy, upd_ne y3]
      exact e
/-! ### Sheet(..) -/
section
variable {L : List (Addr × Str)} {C : Addr} {cls : Nat → Value} {Ex : XK}
def mkGo (Z : Cn) (new : Z.W.G → Addr → Addr → Addr → D → D → Z.W.G → Prop) (Fc : Fn Z.W.G) (Ex : XK) (m : Out Z.W.G (List D)) (H Hf : Hp) (g : Z.W.G) (Q : VK) : Prop := match m with
  | some (.ok [dw, db], g1) => match Fc [dw, db] g1 with
    | some (.ok _, g2) => ∀ (x dx l1 : Addr) (H' Hf' : Hp) (g3 : Z.W.G), new g2 x dx l1 dw db g3 → Base Z.W H Hf g H' Hf' g3 → Q (.ref x) H'
    | some (.exc c, g2) => ∀ H' Hf', Base Z.W H Hf g H' Hf' g2 → Ex (Z.cls c) none H'
    | none => False
  | some (.exc c, g1) => ∀ H' Hf', Base Z.W H Hf g H' Hf' g1 → Ex (Z.cls c) none H'
  | _ => False
def newSh (g2 : Tw × List ShR) (x dx l1 : Addr) (dw db : D) (g3 : Tw × List ShR) : Prop := (∀ r ∈ g2.2, r.x ≠ x) ∧ g3 = (g2.1, ⟨x, dx, l1, dw, db, []⟩ :: g2.2)
/-- what __init__ leaves, in the world -/
theorem base_made {K : PySem.W.Frag} {H Hf H1 Hf1 H2 : Hp} {g g2 : Tw × List ShR} {x dx l1 l2 : Addr} {vw vb : V} {dw db : D} (b : Base (TW K (VwX L (ShW K C))) H Hf g H Hf g) (hx : H x = none) (hdx : H dx = none) (hne : dx ≠ x)
    (b1 : Base (TW K (VwX L (ShW K C))) (upd (upd H dx (.own x)) x (.ins C dx [])) Hf g H1 Hf1 g2) (d1 : Dv K Hf1 vw dw) (d2 : Dv K Hf1 vb db) (h1 : H1 l1 = none) (h2 : H1 l2 = none) (h12 : l1 ≠ l2) (e1 : H2 x = some (.ins C dx (shF vw vb l1 l2))) (e2 : H2 l1 = some (.lst [])) (e3 : H2 l2 = some (.lst [])) (ek : ∀ y o, H1 y = some o → y ≠ x → H2 y = some o) :
    (∀ r ∈ g2.2, r.x ≠ x) ∧ Base (TW K (VwX L (ShW K C))) H Hf g H2 (upd Hf1 l2 (.lst [])) (g2.1, ⟨x, dx, l1, dw, db, []⟩ :: g2.2) := by
  have b0a : Base (TW K (VwX L (ShW K C))) H Hf g (upd H dx (.own x)) Hf g := b.allocU _ hdx
  have hx' : upd H dx (.own x) x = none := by rw [upd_ne hne.symm]; exact hx
  have b0 := b0a.trans (b0a.self.allocU (.ins C dx []) hx')
  have bT := b0.trans b1
  have nfx : ¬ (TW K (VwX L (ShW K C))).fp g x := fun z => (TW K (VwX L (ShW K C))).there g H Hf x b.rep z hx
  have nfdx : ¬ (TW K (VwX L (ShW K C))).fp g dx := fun z => (TW K (VwX L (ShW K C))).there g H Hf dx b.rep z hdx
  have kx : H1 x = some (.ins C dx []) := b1.keep x _ upd_same nfx
  have kdx : H1 dx = some (.own x) := b1.keep dx _ (by rw [upd_ne hne, upd_same]) nfdx
  have nf2x : ¬ (TW K (VwX L (ShW K C))).fp g2 x := fun z => by
    rcases b1.fpo x z with w | w
    · exact nfx w
    · rw [upd_same] at w; cases w
  have nf2dx : ¬ (TW K (VwX L (ShW K C))).fp g2 dx := fun z => by
    rcases b1.fpo dx z with w | w
    · exact nfdx w
    · rw [upd_ne hne, upd_same] at w; cases w
  have hf1x : Hf1 x = none := (b1.old x (by rw [upd_same]; simp)).trans (b.hn hx)
  have hf1dx : Hf1 dx = none := (b1.old dx (by rw [upd_ne hne, upd_same]; simp)).trans (b.hn hdx)
  have hf1l1 : Hf1 l1 = none := bT.hn h1
  have hf1l2 : Hf1 l2 = none := bT.hn h2
  have l1x : l1 ≠ x := (ne_of_none kx h1).symm
  have l1dx : l1 ≠ dx := (ne_of_none kdx h1).symm
  have l2x : l2 ≠ x := (ne_of_none kx h2).symm
  have l2dx : l2 ≠ dx := (ne_of_none kdx h2).symm
  have sN : Same Hf1 (upd Hf1 l2 (.lst [])) := same_new hf1l2
  have thr : ∀ y, (TW K (VwX L (ShW K C))).fp g2 y → H1 y ≠ none := fun y z => (TW K (VwX L (ShW K C))).there g2 H1 Hf1 y b1.rep z
  have nf2l1 : ¬ (TW K (VwX L (ShW K C))).fp g2 l1 := fun z => thr _ z h1
  have nf2l2 : ¬ (TW K (VwX L (ShW K C))).fp g2 l2 := fun z => thr _ z h2
  have eqf : ∀ y, (TW K (VwX L (ShW K C))).fp g2 y → H2 y = H1 y := fun y z => by
    cases e : H1 y with
    | none => exact absurd e (thr y z)
    | some o => exact ek y o e fun w => by subst w; exact nf2x z
  have stN : ∀ b o, stays o = true → Hf1 b = some o → upd Hf1 l2 (.lst []) b = some o := fun y o _ e => sN y o e
  have newrep : (⟨x, dx, l1, dw, db, []⟩ : ShR).rep K C H2 (upd Hf1 l2 (.lst [])) := ⟨vw, vb, [], l2, e1, ek dx _ kdx hne, e2, upd_same, Dv.mono sN _ d1, Dv.mono sN _ d2, .nil⟩
  have newfp : ∀ y, (⟨x, dx, l1, dw, db, []⟩ : ShR).fp y → ¬ (TW K (VwX L (ShW K C))).fp g2 y ∧ upd Hf1 l2 (.lst []) y = none ∧ H y = none := fun y hy => by
    rcases hy with rfl | rfl | rfl
    · exact ⟨nf2x, by rw [upd_ne l2x.symm]; exact hf1x, hx⟩
    · exact ⟨nf2dx, by rw [upd_ne l2dx.symm]; exact hf1dx, hdx⟩
    · refine ⟨nf2l1, by rw [upd_ne h12]; exact hf1l1, ?_⟩
      cases e : H y with
      | none => rfl
      | some o => exact absurd h1 (bT.there y (by rw [e]; simp))
  refine ⟨fun r hr z => nf2x (.inr (.inr ⟨r, hr, .inl z.symm⟩)), ?_⟩
  exact { ff := Same.tr bT.ff sN
          fh := fun y o e => by
            by_cases hy : y = l2
            · subst hy; rw [upd_same] at e; cases e; exact e3
            · rw [upd_ne hy] at e
              exact ek y o (b1.fh y o e) fun w => by subst w; rw [hf1x] at e; cases e
          keep := fun y o e n => ek y o (bT.keep y o e n) fun w => by subst w; rw [hx] at e; cases e
          old := fun y e => by
            have hy : y ≠ l2 := fun w => by subst w; exact bT.there _ e h2
            rw [upd_ne hy]; exact bT.old y e
          there := fun y e => by
            have := bT.there y e
            cases q : H1 y with
            | none => exact absurd q this
            | some o =>
              by_cases hy : y = x
              · subst hy; rw [e1]; simp
              · rw [ek y o q hy]; simp
          rep := ⟨b1.rep.1.loc fun y hy => eqf y (.inl hy), ⟨fun t ht => (b1.rep.2.1.1 t ht).loc (eqf _ (.inr (.inl ⟨t, ht, rfl⟩))) stN, ⟨fun r hr => by
              rcases List.mem_cons.mp hr with rfl | hr
              · exact newrep
              · exact (b1.rep.2.1.2.1.1 r hr).loc (fun y hy => eqf y (.inr (.inr ⟨r, hr, hy⟩))) stN, List.pairwise_cons.mpr ⟨fun r hr y hy z => (newfp y hy).1 (.inr (.inr ⟨r, hr, z⟩)), b1.rep.2.1.2.1.2⟩⟩, fun t ht z => by
              obtain ⟨r, hr, hy⟩ := z
              rcases List.mem_cons.mp hr with rfl | hr
              · exact (newfp _ hy).1 (.inr (.inl ⟨t, ht, rfl⟩))
              · exact b1.rep.2.1.2.2 t ht ⟨r, hr, hy⟩⟩, fun y hy z => by
              rcases z with z | ⟨r, hr, z⟩
              · exact b1.rep.2.2 y hy (.inl z)
              · rcases List.mem_cons.mp hr with rfl | hr
                · exact (newfp _ z).1 (.inl hy)
                · exact b1.rep.2.2 y hy (.inr ⟨r, hr, z⟩)⟩
          dis := fun y z => by
            have old : (TW K (VwX L (ShW K C))).fp g2 y → upd Hf1 l2 (.lst []) y = none := fun w => by
              rw [upd_ne fun q => by subst q; exact nf2l2 w]; exact b1.dis y w
            rcases z with z | z | ⟨r, hr, z⟩
            · exact old (.inl z)
            · exact old (.inr (.inl z))
            · rcases List.mem_cons.mp hr with rfl | hr
              · exact (newfp _ z).2.1
              · exact old (.inr (.inr ⟨r, hr, z⟩))
          fpo := fun y z => by
            rcases z with z | z | ⟨r, hr, z⟩
            · exact bT.fpo y (.inl z)
            · exact bT.fpo y (.inr (.inl z))
            · rcases List.mem_cons.mp hr with rfl | hr
              · exact .inr (newfp _ z).2.2
              · exact bT.fpo y (.inr (.inr ⟨r, hr, z⟩)) }
end
section
variable {X : Cx} {L : List (Addr × Str)} {C : Addr} {cls : Nat → Value} {E : Ent (TW X.K (VwX L (ShW X.K C)))} {Ex : XK} {e a b c : Expr} {pos p ap cp dp bp p1 p2 npos apos cpos : Pos} {fs : M (Tw × List ShR) (List D)} {i : Nat} {x : Str} {Fc : Fn (Tw × List ShR)}
theorem passes_x (tk : Takes X (fun cls d _ H => Ex cls d H)) : Passes (L2.CX X.prog X.w) X Ex := fun pins σ H s e s' I c => passes_call tk (fun _ _ _ _ h => h) pins σ H s e s' I c
theorem mk_run {σ : L2.St} {sl : SL} {H Hf : Hp} {g : Tw × List ShR} {Q : VK} (r : R X.K E H Hf g sl σ) (q : mkGo (SZ X.K L C cls) newSh Fc Ex (fs sl g) H Hf g Q) :
    go (SZ X.K L C cls) (RlA X.K) (fun cls d _ H => Ex cls d H) σ (fs sl g) H Hf g fun vs H1 => vs.length = 2 ∧ ∀ x dx, H1 x = none → H1 dx = none → dx ≠ x → spIn (SZ X.K L C cls) X.K C Fc (.ref x :: vs) (upd (upd H1 dx (.own x)) x (.ins C dx [])) (fun v H2 => v = .non ∧ Q (.ref x) H2) Ex := by
  match ef : fs sl g with
  | none => rw [ef] at q; exact q.elim
  | some (.exc c, g1) => rw [ef] at q; exact q
  | some (.ok [], g1) => rw [ef] at q; exact q.elim
  | some (.ok [_], g1) => rw [ef] at q; exact q.elim
  | some (.ok (_ :: _ :: _ :: _), g1) => rw [ef] at q; exact q.elim
  | some (.ok [dw, db], g1) =>
    rw [ef] at q
    intro vs H1 Hf1 b1 d1
    have d1 : DvAll X.K Hf1 vs [dw, db] := d1
    cases d1 with
    | cons da d1 =>
      cases d1 with
      | cons db' d1 =>
        cases d1
        rename_i va vb
        refine ⟨rfl, fun x dx hx hdx hne => ⟨x, dx, va, vb, Hf1, g1, dw, db, rfl, upd_same, ?_, ?_, da, db', ?_⟩⟩
        · have b0a := b1.self.allocU (.own x) hdx
          have hx' : upd H1 dx (.own x) x = none := by rw [upd_ne hne.symm]; exact hx
          exact (b0a.self.allocU (.ins C dx []) hx').self
        · exact fun z => (TW X.K (VwX L (ShW X.K C))).there g1 H1 Hf1 x b1.rep z hx
        · unfold mkGo at q
          simp only at q
          match eF : Fc [dw, db] g1 with
          | none => rw [eF] at q; exact q.elim
          | some (.exc c, g2) =>
            rw [eF] at q
            intro H2 Hf2 b2
            have b0a := b1.self.allocU (.own x) hdx
            have hx' : upd H1 dx (.own x) x = none := by rw [upd_ne hne.symm]; exact hx
            exact q H2 Hf2 (b1.trans ((b0a.trans (b0a.self.allocU (.ins C dx []) hx')).trans b2))
          | some (.ok d, g2) =>
            rw [eF] at q
            intro H2 Hf2 l1 l2 H3 vw' vb' b2 dd1 dd2 h1 h2 h12 e1 e2 e3 ek
            obtain ⟨hn, B⟩ := base_made b1.self hx hdx hne b2 dd1 dd2 h1 h2 h12 e1 e2 e3 ek
            exact ⟨rfl, q x dx l1 H3 _ _ ⟨hn, rfl⟩ (b1.trans B)⟩
/-- Sheet(a, b) -/
theorem pe_mk {k : Nat} {f : Addr} {fd : FuncData} {es : List Expr} (M : Mk X.K C f) (F : FnOk X.prog X.w X.K X.mg X.base (L2.CX X.prog X.w) k f fd ["self", "words", "boxes"] (spIn (SZ X.K L C cls) X.K C Fc)) (hr : Room (k + 1) X.A) (hg : Gl X x) (hm : X.mg x = some (.ref C)) (hb : Binds X.K fd ["self", "words", "boxes"] []) (tk : Takes X (fun cls d _ H => Ex cls d H))
    (ha : DA X (SZ X.K L C cls) E (fun cls d _ H => Ex cls d H) (e :: es) fs) (hdb : (x == ("__debug__" : Str)) = false := by decide) (he : starEach (e :: es) X.env = (false, eval e X.env) :: starEach es X.env := by rfl) (hpl : (backTo pos (starEach es X.env)).any (·.1) = false := by rfl) :
    PE X (.Call (.Name x p) (e :: es) [] pos) (fun σ H Q => ∃ Hf g sl, R X.K E H Hf g sl σ ∧ mkGo (SZ X.K L C cls) newSh Fc Ex (fs sl g) H Hf g Q) := by
  refine PE.imp (pe_make M F hr hg hm hb .nil (passes_x tk) ha hdb he hpl) fun σ H Q ⟨Hf, g, sl, r, q⟩ => ?_
  refine ⟨Hf, g, sl, r, (mk_run r q).mono fun vs H1 ⟨_, h⟩ => ?_⟩
  intro x dx hx hdx hne
  have := h x dx hx hdx hne
  rw [List.append_nil]
  exact this
/-- Sheet(words=a, boxes=b) -/
theorem pe_mkK {k : Nat} {f : Addr} {fd : FuncData} {kws : List Keyword} (M : Mk X.K C f) (F : FnOk X.prog X.w X.K X.mg X.base (L2.CX X.prog X.w) k f fd ["self", "words", "boxes"] (spIn (SZ X.K L C cls) X.K C Fc)) (hr : Room (k + 1) X.A) (hg : Gl X x) (hm : X.mg x = some (.ref C)) (hb : KwM X.K fd 1 ["self", "words", "boxes"]) (tk : Takes X (fun cls d _ H => Ex cls d H))
    (ha : DK X (SZ X.K L C cls) E (fun cls d _ H => Ex cls d H) kws fs) (hdb : (x == ("__debug__" : Str)) = false := by decide)
    (hall : (backToKw pos (keywordEach kws X.env)).all (·.1.isSome) = true := by rfl) (hks : (backToKw pos (keywordEach kws X.env)).filterMap (·.1) = (["words", "boxes"] : List Str) := by rfl)
    (hpl : ((backTo pos (starEach [] X.env)).any (·.1) || (backToKw pos (keywordEach kws X.env)).any (·.1.isNone)) = false := by rfl) :
    PE X (.Call (.Name x p) [] kws pos) (fun σ H Q => ∃ Hf g sl, R X.K E H Hf g sl σ ∧ mkGo (SZ X.K L C cls) newSh Fc Ex (fs sl g) H Hf g Q) := by
  have KB : KBn X.K fd ["self", "words", "boxes"] 1 ["words", "boxes"] (fun us ws => us ++ ws) (fun vs zs => vs ++ zs) := ⟨fun s us ws X l1 l2 => hb s us ws X l1 l2, fun r1 r2 => r1.append r2⟩
  refine PE.imp (pe_makeK0 M F hr hg hm KB (passes_x tk) ha hall hks hdb hpl) fun σ H Q ⟨Hf, g, sl, r, q⟩ => ?_
  refine ⟨Hf, g, sl, r, (mk_run r q).mono fun vs H1 ⟨hl, h⟩ => ⟨rfl, hl, fun x dx hx hdx hne => h x dx hx hdx hne⟩⟩
/-- where it raises -/
def eMkX (Fc : Fn (Tw × List ShR)) (fs : M (Tw × List ShR) (List D)) : M (Tw × List ShR) D := M.bind fs fun ds => fun _ g => match ds with
  | [dw, db] => match Fc [dw, db] g with
    | some (.exc c, g') => some (.exc c, g')
    | _ => none
  | _ => none
theorem de_mkX (h : PE X e (fun σ H Q => ∃ Hf g sl, R X.K E H Hf g sl σ ∧ mkGo (SZ X.K L C cls) newSh Fc Ex (fs sl g) H Hf g Q)) : DE X (SZ X.K L C cls) E (fun cls d _ H => Ex cls d H) e (eMkX Fc fs) := by
  refine PE.imp h fun σ H Q ⟨Hf, g, sl, r, q⟩ => ⟨Hf, g, sl, r, ?_⟩
  unfold eMkX M.bind at q
  unfold mkGo
  match ef : fs sl g with
  | none => rw [ef] at q; exact q.elim
  | some (.exc c, g1) => rw [ef] at q; exact q
  | some (.ok [], g1) => rw [ef] at q; exact q.elim
  | some (.ok [_], g1) => rw [ef] at q; exact q.elim
  | some (.ok (_ :: _ :: _ :: _), g1) => rw [ef] at q; exact q.elim
  | some (.ok [dw, db], g1) =>
    rw [ef] at q
    simp only at q ⊢
    match eF : Fc [dw, db] g1 with
    | none => rw [eF] at q; exact q.elim
    | some (.ok d, g2) => rw [eF] at q; exact q.elim
    | some (.exc c, g2) => rw [eF] at q; exact q
/-- x, y = Sheet(..), e -/
def wParMk (i j : Nat) (Fc : Fn (Tw × List ShR)) (fs : M (Tw × List ShR) (List D)) (f2 : M (Tw × List ShR) D) : WS (Tw × List ShR) :=
  ⟨fun sl g Q => ∃ dw db g1 d0 g2, fs sl g = some (.ok [dw, db], g1) ∧ Fc [dw, db] g1 = some (.ok d0, g2) ∧ ∀ x dx l1 g3, newSh g2 x dx l1 dw db g3 → ∃ d2 g4, f2 sl g3 = some (.ok d2, g4) ∧ Q .nx ((sl.set i (some (.d (.ref x)))).set j (some (.d d2))) g4,
   fun ⟨dw, db, g1, d0, g2, e1, e2, h⟩ k => ⟨dw, db, g1, d0, g2, e1, e2, fun x dx l1 g3 n => let ⟨d2, g4, e3, q⟩ := h x dx l1 g3 n; ⟨d2, g4, e3, k _ _ _ q⟩⟩⟩
theorem dsw_parMk {j : Nat} {y : Str} {f2 : M (Tw × List ShR) D} {px py pt : Pos} {kt k2 pt2} (hc : X.calm = true) (hN : X.N.Nodup) (hi : X.N[i]? = some x) (hj : X.N[j]? = some y)
    (hx : Loc X.env.scope x) (hy : Loc X.env.scope y) (ha : PE X a (fun σ H Q => ∃ Hf g sl, R X.K E H Hf g sl σ ∧ mkGo (SZ X.K L C cls) newSh Fc Ex (fs sl g) H Hf g Q)) (hb : DE X (SZ X.K L C cls) E (fun cls d _ H => Ex cls d H) b f2)
    (hf : X.fn x = true ∨ X.env.scope.names.lookup x = some .local := by first | exact .inl rfl | exact .inr rfl | assumption) (hf2 : X.fn y = true ∨ X.env.scope.names.lookup y = some .local := by first | exact .inl rfl | exact .inr rfl | assumption)
    (hw : swappedStores [.Tuple [.Name x px, .Name y py] kt pt] (.Tuple [a, b] k2 pt2) X.env = pure none := by rfl)
    (hn : (assignEach [.Name x px, .Name y py] X.env).length = 2 := by rfl) (hst : (assignEach [.Name x px, .Name y py] X.env).findIdx? (·.1) = none := by rfl)
    (hs1 : (assignEach [.Name x px, .Name y py] X.env).map (·.2) = assign (.Name x px) X.env :: (assignEach [.Name y py] X.env).map (·.2) := by rfl) (hs2 : (assignEach [.Name y py] X.env).map (·.2) = assign (.Name y py) X.env :: (assignEach [] X.env).map (·.2) := by rfl)
    (hs : swapsWithSole [.Tuple [.Name x px, .Name y py] kt pt] (.Tuple [a, b] k2 pt2) pos.line X.env = pure false := by rfl) (h1 : starEach [a, b] X.env = (false, eval a X.env) :: starEach [b] X.env := by rfl) (h2 : starEach [b] X.env = (false, eval b X.env) :: starEach [] X.env := by rfl)
    (ht : (assignEach [.Tuple [.Name x px, .Name y py] kt pt] X.env).map (·.2) = [assign (.Tuple [.Name x px, .Name y py] kt pt) X.env] := by rfl) :
    DSw X (SZ X.K L C cls) E (fun cls d _ H => Ex cls d H) (.Assign [.Tuple [.Name x px, .Name y py] kt pt] (.Tuple [a, b] k2 pt2) pos) (wParMk i j Fc fs f2) := by
  refine PS.imp (ps_asg (pe_tup (pa_cons ha (pa_cons hb pa_nil h2) h1)) (pg_tup hc (pgs_cons (pg_name hN hi hx hf) (pgs_cons (pg_name hN hj hy hf2) pgs_nil hs2) hs1) hn hst) hs hw ht) fun D σ H ⟨Hf, g, sl, r, q⟩ => ?_
  obtain ⟨dw, db, g1, d0, g2, e1, e2, q⟩ := q
  refine ⟨Hf, g, sl, r, ?_⟩
  unfold mkGo
  rw [e1]
  simp only
  rw [e2]
  intro xa dx l1 H1 Hf1 g3 hnew b1
  obtain ⟨d2, g4, e3, q⟩ := q xa dx l1 g3 hnew
  have r1 := r.step b1
  refine ⟨Hf1, g3, sl, r1, ?_⟩
  rw [e3]
  intro w H2 Hf2 b2 dv2
  refine ⟨by show 2 ≤ sizeLine; decide, fun p hp => ?_⟩
  have r2 := r1.step b2
  have rA := R.setd (Z := SZ X.K L C cls) r2 i (.ref xa)
  have rB := R.setd (Z := SZ X.K L C cls) rA j dv2
  exact ⟨p, [.ref xa, w], rfl, SqT.of upd_same, rfl, .ref xa, [w], rfl, w, [], rfl, rfl, q _ _ Hf2 (Same.tr b1.ff b2.ff) (R.tupU (Z := SZ X.K L C cls) (X := X) _ rB hp)⟩
end
end DL
namespace DL
open PySem PySem.Spec PyProof.Rows L2 LamX
section
variable {cls : Nat → Value}
theorem law_okTW {P : Program} {w : World} {K : PySem.W.Frag} {mg : Str → Option Value} {base : Heap} {x qual : Str} {st st0 : Stmt} {rest : List Stmt} {f c : Addr} {L : List (Addr × Str)} {Vx : Wd} {oc kV doc pm ct : Value} {od an : Option Addr} {osl : Array (Option Value)} {N : List Str} {k : Nat} {ww : WS (Tw × Vx.G)} (i : Nat) (v0 : Vx.G) (hv0 : ∀ H, Vx.rep v0 H (fun _ => none)) (hf0 : ∀ b, ¬ Vx.fp v0 b)
    (lk : K.lookup f = some ⟨oc, od, .func (PySem.W.fnOf x qual (defArgs st) (defBody st) (defScope st) .none kV doc pm an (.ref c) ct), osl⟩) (hcd : PySem.W.codeIn K (.ref c) qual = true) (hKP : ∀ t ∈ L, K.lookup t.1 = none)
    (S : FnScope N ["script"] (defScope st)) (hl : 1 ≤ N.length) (hb : defBody st = st0 :: rest)
    (body0 : ∀ (A : Around) (outer : List Env) (s : Shared) (H : Hp) (Ex : XK), Room k (A.deeper (PyProof.Rows.envOfC qual (defScope st) s.heap.objs.size f (.ref c))) →
      PS (cxOf (L2.CX P w) P w K mg base N qual (defScope st) f (.ref c) A outer s H Ex) st0 (tAsg (fun σ H Q => spBeg K (VwX L Vx) [] H Q fun _ _ _ => False) (gName i)))
    (body : ∀ (A : Around) (outer : List Env) (s : Shared) (H : Hp) (E : Ent (TW K (VwX L Vx))) (Ex : XK), Room k (A.deeper (PyProof.Rows.envOfC qual (defScope st) s.heap.objs.size f (.ref c))) →
      DSsw (cxOf (L2.CX P w) P w K mg base N qual (defScope st) f (.ref c) A outer s H Ex) (TZ K (VwX L Vx) cls) E (fun cls d _ H => Ex cls d H) rest ww)
    (law : ∀ (inn : Bool) (a : Addr) (ns : List Int) (t q : Addr), ns.length ≤ 63 → ww.run ((some (.d (.ref a)) :: List.replicate (N.length - 1) none).set i (some (.d (.ref t)))) (lawG v0 inn a ns t q) fun fl _ _ => fl = .rt (.bl true)) :
    FnOk P w K mg base (L2.CX P w) (k + 1) f (PySem.W.fnOf x qual (defArgs st) (defBody st) (defScope st) .none kV doc pm an (.ref c) ct) ["script"] (spLawT K L) := by
  refine fn_of lk hcd S (fun vs H Q E ⟨a, ns, h, _⟩ => by rw [h]; rfl) fun A outer s H vs Q Ex hr ⟨a, ns, ev, hs, hn, hT, qq⟩ => ?_
  subst ev
  have hne : ∀ t ∈ L, a ≠ t.1 := fun t ht z => by
    subst z
    rcases hs with (h | ⟨o, h⟩) | ⟨o, _, _, h, _⟩
    · rw [hT t ht] at h; cases h
    · rw [hT t ht] at h; cases h
    · rw [hKP t ht] at h; cases h
  have hinn : ∃ inn : Bool, (inn = true → H a ≠ none) ∧ SqL K (if inn = true then H else fun _ => none) a (ns.map V.int) := by
    cases e : H a with
    | none =>
      refine ⟨false, (fun h => nomatch h), ?_⟩
      exact sql_loc (H := H) hs (by rw [e]; rfl)
    | some o => exact ⟨true, fun _ => by simp, hs⟩
  obtain ⟨inn, hi1, hi2⟩ := hinn
  let g0 : Tw × Vx.G := (⟨inn, a, ns, none, 0, []⟩, v0)
  have B0 : Base (TW K (VwX L Vx)) H (fun _ => none) g0 H (fun _ => none) g0 := .refl (fun _ _ h => by cases h) ⟨⟨hi2, hi1, fun t q h => by cases h⟩, ⟨fun t ht => ⟨#[], hT t ht, True.intro, fun pos cv hc => by
      have z : codeAmong pos [] = some cv := hc
      simp [codeAmong] at z⟩, hv0 H, fun t ht => hf0 _⟩, fun b hb hv => by
      rcases hb with ⟨_, rfl⟩ | ⟨t, q, e, _⟩
      · rcases hv with ⟨t, ht, e⟩ | hv
        · exact hne t ht e
        · exact hf0 _ hv
      · cases e⟩ (fun _ _ => rfl)
  have hbody : PSs (cxOf (L2.CX P w) P w K mg base N qual (defScope st) f (.ref c) A outer s H Ex) (defBody st) (tSeq (tAsg (fun σ H Q => spBeg K (VwX L Vx) [] H Q fun _ _ _ => False) (gName i)) (tW (TZ K (VwX L Vx) cls) K ⟨H, fun _ => none, g0⟩ (fun cls d _ H => Ex cls d H) ww)) := by
    rw [hb]
    exact pss_cons (body0 A outer s H Ex hr) (body A outer s H ⟨H, fun _ => none, g0⟩ Ex hr)
  refine ⟨_, hbody, ?_⟩
  refine ⟨rfl, _, g0, B0, rfl, fun t q0 H' B => ?_⟩
  refine ⟨fun _ => none, begG g0 t q0, (some (.d (.ref a)) :: List.replicate (N.length - 1) none).set i (some (.d (.ref t))), ?_, ?_⟩
  · have r0 : R (W := TW K (VwX L Vx)) K ⟨H, fun _ => none, g0⟩ H (fun _ => none) g0 (some (.d (.ref a)) :: List.replicate (N.length - 1) none) (L2.start N [.ref a]) :=
      start_R (Z := TZ K (VwX L Vx) cls) (P := P) (K := K) (ds := [.ref a]) B0 (.cons (.ref a) .nil) hl
    exact (r0.step B).setd i (.ref t)
  · have hl := law inn a ns t q0 hn
    have hl' : ww.run ((some (.d (.ref a)) :: List.replicate (N.length - 1) none).set i (some (.d (.ref t)))) (begG g0 t q0) fun fl _ _ => fl = .rt (.bl true) := hl
    refine ww.mono hl' fun fl sl' g' e => ?_
    subst e
    intro v H2 Hf2 b d
    have d : Dv K Hf2 v (.bl true) := d
    cases d
    exact qq H2
end
end DL
namespace DL
open PySem PySem.Spec PyProof.Rows L2 LamX
/-! ### a list or a tuple is walked -/
def asTL : D → Option (List D)
  | .tup xs => some xs
  | .lst xs => some xs
  | _ => none
def iTL {G : Type} (f : M G D) : M G (List D) := M.bind f fun d => M.lift (asTL d)
section
variable {X : Cx} {Z : Cn} {E : Ent Z.W} {Wx : WX} {e tg : Expr} {fe : M Z.W.G D}
theorem pi_tl {l : Expr} {tl : TE} (hl : PE X l tl) : PI X tg l (fun σ H R => tl σ H fun x H1 => ∃ a, x = .ref a ∧ (((∃ xs, SqL X.K H1 a xs) ∧ R (Itl X.K a) H1) ∨ ((∃ xs, SqT X.K H1 a xs) ∧ R (Itt X.K a) H1))) := by
  refine ⟨fun pins s σ H R I h => ?_⟩
  refine thn (hl.run pins s σ H _ I h) fun v s1 ⟨x, H1, I1, r1, q1⟩ => ?_
  obtain ⟨a, e, q1⟩ := q1
  subst e
  cases r1
  rcases q1 with ⟨⟨xs, hq⟩, q⟩ | ⟨⟨xs, hq⟩, q⟩
  · obtain ⟨its, rv, p, hz⟩ := I1.list hq
    refine wpAny_pyIter_list p.isList ?_
    refine ⟨s1.heap.objs.size, [s1.heap.objs.size], _, _, H1, rfl, I1.kept (t' := s1.toks) fun b o e => Heap.get?_push_of_some _ e, turn_list a _, ⟨_, Heap.get?_push_size _ rfl, rfl, rfl⟩, fun b hb => ?_, q⟩
    have e : b = s1.heap.objs.size := by simpa using hb
    subst e
    exact I1.fpOk (Nat.le_refl _) (I1.hok.fresh (Nat.le_refl _))
  · obtain ⟨its, rv, p, hz⟩ := I1.tuple hq
    refine wpAny_pyIter_tuple (show s1.heap.IsTuple a its.toArray from p) ?_
    refine ⟨s1.heap.objs.size, [s1.heap.objs.size], _, _, H1, rfl, I1.kept (t' := s1.toks) fun b o e => Heap.get?_push_of_some _ e, turn_tuple a _, ⟨_, Heap.get?_push_size _ rfl, rfl, rfl⟩, fun b hb => ?_, q⟩
    have e : b = s1.heap.objs.size := by simpa using hb
    subst e
    exact I1.fpOk (Nat.le_refl _) (I1.hok.fresh (Nat.le_refl _))
theorem di_tl (h : DE X Z E Wx e fe) : DI X Z E Wx tg e (iTL fe) := by
  refine PI.imp (pi_tl h) fun σ H Rk ⟨Hf, g, sl, r, q⟩ => ⟨Hf, g, sl, r, (go_bind (Rm := RlD X.K) q).mono fun v H1 ⟨Hf1, g1, d, b1, d1, q1⟩ => ?_⟩
  obtain ⟨xs, ex, k⟩ := go_lift q1
  match d, ex, d1 with
  | .tup ds, ex, d1 =>
    have d1 : Dv X.K Hf1 v (.tup ds) := d1
    cases ex
    cases d1 with
    | tup h1 h2 => exact ⟨_, rfl, .inr ⟨⟨_, (.inl (b1.rd h1))⟩, k _ _ _ b1.self (walk_dt h1 h2)⟩⟩
  | .lst ds, ex, d1 =>
    have d1 : Dv X.K Hf1 v (.lst ds) := d1
    cases ex
    cases d1 with
    | lst h1 h2 => exact ⟨_, rfl, .inl ⟨⟨_, SqL.of (b1.fh _ _ h1)⟩, k _ _ _ b1.self (walk_dl h1 h2)⟩⟩
end
end DL
namespace DL
open PySem PySem.Spec PyProof.Rows L2 LamX
/-! ### what is raised in a comprehension's block -/
theorem note_like {e1 e2 : Env} (h : e1.frame = e2.frame) (x : Value) : noteFrame x e1 = noteFrame x e2 := by
  unfold noteFrame PySem.frameOf
  rw [h]
/-- behind a block: all went well, or x is passed on -/
def blkEnd (M : Model) (A : Around) (Ee : Value → Shared → Prop) (Q : Value → Shared → Prop) (acc : Value) (ce : Env) (r : Result) (t : Shared) : Prop :=
  match r with
  | .ok _ => ∃ m, t.heap.Ns ce.locals m ∧ ∀ hp, Heap.SameBut ce.locals t.heap hp → Q acc { t with heap := hp }
  | .error x => ∃ m, t.heap.Ns ce.locals m ∧ ∀ hp, Heap.SameBut ce.locals t.heap hp → wpAny M A (PySem.passOn "comprehension.variables-let-go" x ce : Sem Value) (fun _ _ => False) Ee { t with heap := hp }
theorem comp_both {M : Model} {A : Around} {Ee : Value → Shared → Prop} {t : Shared} {env : Env} {e : Expr} {sc : Scope} {pos : Pos} {new fst : Sem Value} {g : Comprehension} {gs : List Comprehension} {cl : List (Str × Addr)} {Q : Value → Shared → Prop}
    (hc : clausesOf e = g :: gs) (hf : ∀ x, foldedSetIterable g.iter env x = pure x) (hcl : closureFor sc env = pure cl) (hk : sc.kind = .function) (hn : ∀ x ∈ sc.names, x.2 = .local → sc.names.lookup x.1 = some .local)
    (h : wpAny M A fst (fun x t1 => wpAny M A (pyIter x) (fun it t2 => wpAny M A new (fun acc t3 => wpAny M A (newFunctionEnv sc env.globals cl [] env.qual none .none (some env)) (fun ce t4 =>
      codeAny M A (.compStart e 0 it acc { ce with scope := relabel sc env }) (blkEnd M A Ee Q acc { ce with scope := relabel sc env }) t4) Ee t3) Ee t2) Ee t1) Ee t) :
    wpAny M A (comprehension e sc env pos new false fst none) Q Ee t := by
  unfold comprehension
  rw [hcl, hc]
  refine wpAny_bind (wpAny_mono h (fun x t1 h1 => wpAny_bind (wpAny_standAt (wpAny_bind (wpAny_of_eq (hf x) (wpAny_bind (wpAny_holding (wpAny_mono h1 (fun it t2 h2 =>
    wpAny_standIf (wpAny_bind (wpAny_mono h2 (fun acc t3 h3 => wpAny_bind (wpAny_pure (wpAny_bind (wpAny_mono h3 (fun ce t4 h4 => ?_) fun _ _ z => z)))) fun _ _ z => z)))
      fun _ _ z => z))))))) fun _ _ z => z)
  dsimp only
  have hv : ∀ x ∈ (sc.names.filter fun x => (x.2 == .local || x.2 == .cell) && x.1 != (".0" : Str)).reverse, x.2 = .local → Env.kindOf { ce with scope := relabel sc env } x.1 = some .local := fun x hx hl =>
    lookup_relabel_local (hn x (List.mem_filter.mp (List.mem_reverse.mp hx)).1 hl)
  refine wpAny_holding (wpAny_bind (wpAny_attempt (wpAny_holding (wpAny_run (codeAny_mono h4 fun r t' hr => ?_)))))
  cases r with
  | ok f =>
    obtain ⟨m, n1, n2⟩ := hr
    exact wpAny_bind (wpAny_holding (wpAny_comp_letGo (cenv := { ce with scope := relabel sc env }) hk _ t' m hv n1 fun hp _ _ sb => wpAny_pure (n2 hp sb)))
  | error x =>
    obtain ⟨m, n1, n2⟩ := hr
    exact wpAny_bind (wpAny_holding (wpAny_comp_letGo (cenv := { ce with scope := relabel sc env }) hk _ t' m hv n1 fun hp _ _ sb => wpAny_mono (n2 hp sb) (fun _ _ z => z.elim) fun _ _ z => z))
/-- the air of a block: what a call of it let out -/
def xeB (X : Cx) (s3 : Shared) (H3 : Hp) (sc : Scope) (ce : Env) (fp : List Addr) (Ex : XK) : Value → Shared → Prop := fun u t => ∃ pins σ H s, Inv (X.blk s3 H3 sc ce fp) pins σ H s ∧ L2.CX X.prog X.w X.stack H s Ex u t
abbrev blkX (X : Cx) (Ex : XK) (s3 : Shared) (H3 : Hp) (sc : Scope) (ce : Env) (fp : List Addr) : Cx := (X.blk s3 H3 sc ce fp).wish (xeB X s3 H3 sc ce fp Ex)
theorem pass_blk {X : Cx} {Ex : XK} {s3 : Shared} {H3 : Hp} {sc : Scope} {ce : Env} {fp : List Addr} (σ : L2.St) : PassesAt (L2.CX (blkX X Ex s3 H3 sc ce fp).prog (blkX X Ex s3 H3 sc ce fp).w) (blkX X Ex s3 H3 sc ce fp) σ (WE (fun cls d _ H => Ex cls d H) σ) :=
  fun pins H s e s' I c => ⟨pins, σ, H, s, I.unwish, c⟩
theorem held_but {B h hp : Heap} {l : List Env} {a C L : Addr} {Z : Obj → Prop} {oC : Obj} (x : HandSPX.HeldZ B l a Z L h) (hC : B.get? C = some oC) (hl : C ∉ frs l) (sb : Heap.SameBut C h hp) : HandSPX.HeldZ (PySem.W.hideAll B [C]) l a Z L hp := by
  obtain ⟨x1, x2, x3, oe, vs, T, oT, ts, he, hz, hd, h1, hnT, hTe, hT, hdT, h3⟩ := x
  have neA : a ≠ C := fun z => by rw [z, hC] at x2; cases x2
  have neT : T ≠ C := fun z => by rw [z, hC] at hnT; cases hnT
  have hN : ∀ b, B.get? b = none → (PySem.W.hideAll B [C]).get? b = none := fun b hb => by
    cases q : (PySem.W.hideAll B [C]).get? b with
    | none => rfl
    | some o => rw [PySem.W.of_hideAll _ q] at hb; cases hb
  refine ⟨fun b o hb => ?_, hN a x2, ?_, oe, vs, T, oT, ts, (sb.2 a neA).trans he, hz, hd, h1, hN T hnT, hTe, (sb.2 T neT).trans hT, hdT, h3⟩
  · have hb1 := PySem.W.of_hideAll _ hb
    by_cases z : b = C
    · rw [z, PySem.W.hideAll_none [C] (by simp)] at hb; cases hb
    · exact (sb.2 b z).trans (x1 b o hb1)
  · refine funFrames_none (base := B) ?_ fun b hb => hN b (x3.mem hb).1
    clear he hT
    have main : ∀ l' : List Env, h.FunFrames B l' → C ∉ frs l' → hp.FunFrames B l' := by
      intro l'
      induction l' with
      | nil => intro _ _; trivial
      | cons en l' ih =>
        intro hf hn
        obtain ⟨k1, ⟨b, o, k2, k3, k4, k5⟩, k6⟩ := hf
        have hb : b ∈ frs (en :: l') := List.mem_filterMap.mpr ⟨en, List.mem_cons_self, k2⟩
        refine ⟨k1, ⟨b, o, k2, k3, (sb.2 b fun z => hn (z ▸ hb)).trans k4, k5⟩, ih k6 fun hm => hn ?_⟩
        obtain ⟨e, he, q⟩ := List.mem_filterMap.mp hm
        exact List.mem_filterMap.mpr ⟨e, List.mem_cons_of_mem _ he, q⟩
    exact main l x3 hl
section
variable {X : Cx} {pins : List (Addr × Obj)} {σ : L2.St} {H3 : Hp} {s3 : Shared} {Ex : XK} {sc : Scope} {ce : Env} {fp : List Addr} {Qf : Value → Shared → Prop} {acc : Value}
/-- it leaves the block: the def's own air -/
theorem xe_blk (tk : Takes X (fun cls d _ H => Ex cls d H)) (hs : X.stack = X.env :: X.outer) (hf : X.env.frame = some X.env.locals) (I3 : Inv X pins σ H3 s3) (f3 : ∀ b ∈ fp, FpOk X pins H3 b) (hC : s3.heap.get? ce.locals = none) (cF : ce.frame = X.env.frame)
    {u : Value} {t : Shared} (hx : xeB X s3 H3 sc ce fp Ex u t) : notedBy (model X.prog X.w) X.A ce (fun e t' => blkEnd (model X.prog X.w) X.A X.xe Qf acc ce (.error e) t') u t := by
  obtain ⟨pins', σ', H, s, I5, a, B, H', cls, d, rfl, fl, hok, ub, na, os, ag, hE⟩ := hx
  have hfr : X.A.frames = some (X.env :: X.outer) := by rw [I3.ok.frames, hs]
  have nC : ce.locals ∉ frs X.stack := fun hm => by
    obtain ⟨_, o, e, _⟩ := I3.stack.mem hm
    rw [hC] at e; cases e
  obtain ⟨m, hns, _⟩ := I5.loc
  have hns : s.heap.Ns ce.locals m := hns
  obtain ⟨oC, es, ep, hoC, hrest⟩ := id hns
  have fC : H ce.locals = none := I5.free
  have hBC : B.get? ce.locals = some oC := ub.keep _ _ hoC fC nC
  have fC' : H' ce.locals = none := ub.free _ _ hoC fC
  unfold notedBy
  rw [note_like cF]
  rw [hs] at fl
  refine HandSPX.looks_onZ Zc.steady hfr hf fl fun h1 hh1 up1 => ?_
  refine ⟨m, ⟨oC, es, ep, hh1.1 _ _ hBC, hrest⟩, fun hp sb => ?_⟩
  have hh2 := held_but hh1 hBC (by rw [← hs]; exact nC) sb
  -- passed on
  have hpass : wpAny (model X.prog X.w) X.A (PySem.passOn "comprehension.variables-let-go" (.ref a) ce : Sem Value) (fun _ _ => False) X.xe { ({ t with heap := h1 } : Shared) with heap := hp } := by
    obtain ⟨y1, y2, y3, oe, vs, T, oT, ts, he, hz, hd, hv1, hnT, hTe, hT, hdT, h3⟩ := id hh2
    unfold PySem.passOn
    refine wpAny_bind (wpAny_field he hd hv1 ?_)
    rw [if_neg (show ¬ ((Value.ref T == Value.none) = true) from by simp)]
    rw [cF, hf]
    refine wpAny_bind (HandSPX.setFlight_onZ hh2 fun h2 hh3 up3 => ?_)
    refine wpAny_throw ?_
    refine tk _ _ ?_
    generalize hB' : PySem.W.hideAll B [ce.locals] = B' at hh2 hh3
    have kB : ∀ b o, B.get? b = some o → b ≠ ce.locals → B'.get? b = some o := fun b o e z => by rw [← hB']; exact PySem.W.hideAll_get _ e (by simpa using z)
    obtain ⟨G, g1, g2⟩ := restrict h2 fun b => (B'.get? b).isSome || decide (b ∈ frs X.stack)
    have gB : ∀ b o, B'.get? b = some o → G.get? b = some o := fun b o e => by
      rw [g1 b (by simp [e])]
      exact hh3.1 b o e
    have gF : ∀ b, b ∈ frs X.stack → G.get? b = h2.get? b := fun b hb => g1 b (by simp [hb])
    have og : ∀ b o, G.get? b = some o → h2.get? b = some o ∧ ((B'.get? b).isSome = true ∨ b ∈ frs X.stack) := fun b o e => by
      cases q : ((B'.get? b).isSome || decide (b ∈ frs X.stack)) with
      | false => rw [g2 b q] at e; cases e
      | true =>
        rw [g1 b q] at e
        exact ⟨e, by simpa [Bool.or_eq_true] using q⟩
    have ne3 : ∀ b o, s3.heap.get? b = some o → b ≠ ce.locals := fun b o e z => by rw [z, hC] at e; cases e
    have un := I5.base
    have un : Un (frs X.stack) fp H3 H s3.heap s.heap := un
    have J : Inv X pins σ H' { s3 with heap := G, gens := t.gens, drawn := t.drawn, toks := t.toks } := by
      refine I3.call (ch := fp) ⟨fun b o e n hb hc => ?_, fun b o e n hb hc => ?_, fun b o e n hc => ?_, fun b o e hc => ?_, fun b xs e => ub.tups b xs (un.tups b xs e), fun b o xs e => ub.frzs b o xs (un.frzs b o xs e), fun b ps e => ?_⟩ ?_ ag fun b hb => ?_
      · exact gB b o (kB b o (ub.keep b o (un.keep b o e n hb hc) (un.free b o e n hc) hb) (ne3 b o e))
      · obtain ⟨_, o0, e0, hnf⟩ := I3.stack.mem hb
        rw [e] at e0; cases e0
        obtain ⟨sl, q1⟩ := un.slot b o e n hb hc
        obtain ⟨sl1, q2⟩ := ub.slot b _ q1 hb
        obtain ⟨sl2, q3⟩ := up1 b _ q2 hnf
        have q4 : hp.get? b = _ := (sb.2 b (ne3 b o e)).trans q3
        obtain ⟨sl3, q5⟩ := up3 b _ q4 hnf
        exact ⟨sl3, by rw [gF b hb]; exact q5⟩
      · obtain ⟨sl, q1⟩ := un.any e n hc
        exact ub.free b _ q1 (un.free b o e n hc)
      · by_cases hb : b ∈ frs X.stack
        · obtain ⟨_, o', q, _⟩ := hh3.2.2.1.mem (show b ∈ (X.env :: X.outer).filterMap (·.frame) by rw [← hs]; exact hb)
          exact ⟨o', by rw [gF b hb]; exact q⟩
        · obtain ⟨o', q⟩ := un.there b o e hc
          obtain ⟨o2, q2⟩ := ub.there b o' q hb
          exact ⟨o2, gB b o2 (kB b o2 q2 (ne3 b o e))⟩
      · obtain ⟨m1, q1⟩ := un.tbls b ps e
        obtain ⟨m2, q2⟩ := ub.tbls b _ q1
        exact ⟨m1 ++ m2, by rw [q2, Array.append_assoc]⟩
      · intro b o q
        refine (hok b o q).stay (fun c u hc r => gB c u (kB c u r fun z => ?_)) (fun _ r => r) fun _ _ r => r
        rcases hc with hc | hc
        · rw [← hc, z, fC'] at q; cases q
        · rw [z, fC'] at hc; cases hc
      · obtain ⟨_, h2, _, h4, h5, h6⟩ := f3 b hb
        exact ⟨h4, h2, h5, h6⟩
    refine ⟨a, B', _, pins, σ, H', cls, d, rfl, J, fun b o e hb => ?_, Heap.UpToSlots.of_keeps fun b o e => (og b o e).1, .inr (.inr (by rw [hs]; exact hh3)), na, ?_, ag, hE⟩
    · obtain ⟨e', h⟩ := og b o e
      rcases h with h | h
      · obtain ⟨o', q⟩ := Option.isSome_iff_exists.mp h
        have z := hh3.1 b o' q
        rw [e'] at z; cases z
        exact q
      · exact absurd h hb
    · exact os.trans I5.os
  exact hpass
end
end DL
namespace DL
open PySem PySem.Spec PyProof.Rows L2 LamX
section
variable {X : Cx}
/-- [elt for target in iter if ..], elt may raise -/
theorem pe_lcX {elt tg iter : Expr} {ifs : List Expr} {scope : Scope} {own : List (Str × Nat)} {pos : Pos} {wi : TI} {g : TG} {tt : TT} {te : TE} {Ex : XK} (tk : Takes X (fun cls d _ H => Ex cls d H)) (hst : X.stack = X.env :: X.outer) (hfm : X.env.frame = some X.env.locals)
    (hc : X.calm = true) (hN : X.N.Nodup) (hi : PI X tg iter wi) (ok : BlkOk X.N X.env.scope scope own)
    (hg : ∀ (s : Shared) (H : Hp) (C : Addr) (cl : List (Str × Addr)) (fp : List Addr), PG (X.blk s H scope (compEnvC scope cl C X.env) fp) tg g) (ht : ∀ (s : Shared) (H : Hp) (C : Addr) (cl : List (Str × Addr)) (fp : List Addr), PTs (X.blk s H scope (compEnvC scope cl C X.env) fp) ifs tt)
    (he : ∀ (s : Shared) (H : Hp) (C : Addr) (cl : List (Str × Addr)) (fp : List Addr), PE (blkX X Ex s H scope (compEnvC scope cl C X.env) fp) elt te) (hs : ∀ x, foldedSetIterable iter X.env x = pure x := by intro _; rfl) :
    PE X (.ListComp elt [⟨tg, iter, ifs, 0⟩] scope pos) (tLc wi g tt te (own.map (·.2))) := by
  refine ⟨fun pins s σ H Q I h => ?_⟩
  rw [eval_ListComp]
  have hfr : ∀ y ∈ scope.names, y.2 = .free → ∃ c, X.env.cells.lookup y.1 = some c := fun y hy e => (ok.free y hy e).elim (fun k => I.ok.has _ (.inl k)) (fun k => I.ok.has _ (.inr k))
  refine comp_both rfl hs (closure_ok hfr) ok.kind (fun y hy e => by rw [ok.uniq y hy, e]) (thn (hi.run pins s σ H _ I h) fun xv ta hx => thn hx fun itv tb hb => ?_)
  obtain ⟨it, fp, tn, J, H2, rfl, I2, T, st2, f2, q⟩ := hb
  refine wpAny_newObj_type (newEnv_comp ?_) (by show 0 ≤ sizeLine; decide)
  obtain ⟨Dl, hDl⟩ : ∃ Dl, tb.heap.objs.size = Dl := ⟨_, rfl⟩
  obtain ⟨W, ⟨m0, w0⟩, turn⟩ := q Dl (I2.hok.fresh (Nat.le_of_eq hDl))
  -- the list that grows
  obtain ⟨tc, htc⟩ : ∃ tc : Shared, ({ tb with heap := tb.heap.push { cls := .type "list", data := .seq ([] : List Value).toArray } } : Shared) = tc := ⟨_, rfl⟩
  have hpc : tc.heap = tb.heap.push { cls := .type "list", data := .seq ([] : List Value).toArray } := by rw [← htc]
  have I3 : Inv X pins σ (upd H2 Dl (.lst [])) tc := by
    rw [← htc]
    exact I2.laid (t' := tb.toks) (fun b o e => Heap.get?_push_of_some _ e) (Nat.le_of_eq hDl) ⟨Nat.zero_le _, [], 0, .nil, by rw [← hDl]; exact Heap.get?_push_size _ rfl⟩
  have low : ∀ b ∈ fp, b < tb.heap.objs.size := fun b hb => let ⟨o, e, _⟩ := T.obj _ _ st2 b hb; Heap.lt_size e
  have f3 : ∀ b ∈ fp, FpOk X pins (upd H2 Dl (.lst [])) b ∧ b < tc.heap.objs.size := fun b hb =>
    ⟨⟨by rw [upd_ne (by rw [← hDl]; exact Nat.ne_of_lt (low b hb))]; exact (f2 b hb).1, (f2 b hb).2⟩, by rw [hpc, Heap.size_push]; exact Nat.lt_succ_of_lt (low b hb)⟩
  have st3 : tn 0 tc.heap := T.keep _ _ _ st2 fun b _ o e => by rw [hpc]; exact Heap.get?_push_of_some _ e
  have I4 := block_start I3 ok hN f3
  have dg := hg tc (upd H2 Dl (.lst [])) tc.heap.objs.size (cellsFrom (tc.heap.objs.size + 1) scope.names (cloFrom X.env.cells scope.names [])) fp
  have dt := ht tc (upd H2 Dl (.lst [])) tc.heap.objs.size (cellsFrom (tc.heap.objs.size + 1) scope.names (cloFrom X.env.cells scope.names [])) fp
  have de := he tc (upd H2 Dl (.lst [])) tc.heap.objs.size (cellsFrom (tc.heap.objs.size + 1) scope.names (cloFrom X.env.cells scope.names [])) fp
  obtain ⟨ce, hce⟩ : ∃ ce, compEnvC scope (cellsFrom (tc.heap.objs.size + 1) scope.names (cloFrom X.env.cells scope.names [])) tc.heap.objs.size X.env = ce := ⟨_, rfl⟩
  obtain ⟨td, htd⟩ : ∃ td : Shared, ({ tc with heap := pushCells (tc.heap.push { cls := .type "dict", data := .dict #[] }) scope.names } : Shared) = td := ⟨_, rfl⟩
  rw [htc]
  show codeAny _ _ (.compStart _ 0 (.ref it) (.ref tb.heap.objs.size) (compEnvC scope (cellsFrom (tc.heap.objs.size + 1) scope.names (cloFrom X.env.cells scope.names [])) tc.heap.objs.size X.env)) (blkEnd (model X.prog X.w) X.A X.xe _ (.ref tb.heap.objs.size) (compEnvC scope (cellsFrom (tc.heap.objs.size + 1) scope.names (cloFrom X.env.cells scope.names [])) tc.heap.objs.size X.env)) { tc with heap := pushCells (tc.heap.push { cls := .type "dict", data := .dict #[] }) scope.names }
  have cL : ce.locals = tc.heap.objs.size := by subst hce; rfl
  have cF : ce.frame = X.env.frame := by subst hce; rfl
  have hCn : tc.heap.get? ce.locals = none := by
    cases e : tc.heap.get? ce.locals with
    | none => rfl
    | some o => exact absurd (Heap.lt_size e) (by rw [cL]; exact Nat.lt_irrefl _)
  rw [hce, hDl, htd]
  rw [hce] at I4 dg dt de
  rw [htd] at I4
  have nfp : ∀ b ∈ fp, (upd H2 Dl (.lst [])) b = none := fun b hb => (f3 b hb).1.1
  obtain ⟨H3, hH3⟩ : ∃ H3, upd H2 Dl (.lst []) = H3 := ⟨_, rfl⟩
  rw [hH3] at I3 I4 dg dt de w0 nfp f3
  have st4 : tn 0 td.heap := T.keep _ _ _ st3 fun b _ o e => by rw [← htd]; exact pushCells_keeps _ _ _ _ (Heap.get?_push_of_some _ e)
  have still : ∀ {σ' : L2.St} {H' : Hp} {s' : Shared}, Inv (X.blk tc H3 scope ce fp) [] σ' H' s' → (∀ b ∈ fp, H' b = none) → ∀ b ∈ fp, FpOk (X.blk tc H3 scope ce fp) [] H' b := fun {σ' H' s'} I' hn b hb =>
    ⟨hn b hb, (I'.ok.exf b hb).1, I'.ok.exfs b hb, .inl hb, fun x c e => (I'.ok.exf b hb).2 x c e, fun p hp => by cases hp⟩
  have leaves : ∀ (u : Value) (t : Shared), xeB X tc H3 scope ce fp Ex u t → notedBy (model X.prog X.w) X.A ce (fun e t' => blkEnd (model X.prog X.w) X.A X.xe (EP X pins σ Q) (.ref Dl) ce (.error e) t') u t :=
    fun u t hx => xe_blk tk hst hfm I3 (fun b hb => (f3 b hb).1) hCn cF hx
  have loop : codeAny (model X.prog X.w) X.A (.compLoop (.ListComp elt [⟨tg, iter, ifs, 0⟩] scope pos) 0 (.ref it) (.ref Dl) ce) (blkEnd (model X.prog X.w) X.A X.xe (EP X pins σ Q) (.ref Dl) ce) td := by
    refine compLoop_any (fun n t => ∃ i H', Inv (X.blk tc H3 scope ce fp) [] (wipe σ (own.map (·.2))) H' t ∧ tn i t.heap ∧ (∀ b ∈ fp, H' b = none) ∧ W i n H') ?_ m0 ⟨0, H3, I4, st4, nfp, w0⟩
    rintro n t5 ⟨i, H5, I5, st5, n5, w5⟩
    rcases turn i n H5 w5 with ⟨stop, qq⟩ | ⟨go, Nx, hNx, step⟩
    · refine thnF (T.done (X.blk tc H3 scope ce fp) rfl rfl rfl hc i [] t5 _ H5 (fun _ _ => False) I5 (still I5 n5) st5 stop) fun r t6 ⟨hr, I6⟩ => ?_
      subst hr
      have I7 : Inv X pins σ H5 t6 := I3.call' (ch := fp) I6.os I6.base I6.hok I6.bare fun b hb => ⟨(f3 b hb).1.2.2.2.1, (f3 b hb).1.2.1, (f3 b hb).1.2.2.2.2.1, (f3 b hb).1.2.2.2.2.2⟩
      have z : H5 ce.locals = none := I6.free
      obtain ⟨m, hn, _⟩ := I6.loc
      refine ⟨m, hn, fun hp sb => ?_⟩
      obtain ⟨k0, k1, k2, k3, k4, k5⟩ := I3.fpOk (Nat.le_of_eq cL.symm) z
      exact ⟨.ref Dl, H5, I7.turned (t' := t6.toks) (fun b o hb e => (sb.2 b hb).trans e) k0 k1 k3 k4 k5, rfl, qq⟩
    · refine thnF (T.item (X.blk tc H3 scope ce fp) rfl rfl rfl hc i [] t5 _ H5 (fun _ _ => False) I5 (still I5 n5) st5 go) fun r t6 ⟨u, hr, h6⟩ => ?_
      subst hr
      refine thnF h6 fun _ t7 ⟨x, H7, I7, r7, y7, st7, n7⟩ => ?_
      refine thnF (dg.run _ t7 _ H7 x u _ (I7.pinned (still I7 n7) (T.obj _ _ st7)) r7 (step x H7 y7)) fun _ t8 ⟨σ8, H8, I8, hw8, q8⟩ => ?_
      refine thnF (dt.run _ t8 σ8 H8 _ I8 q8) fun b t9 ⟨H9, I9, q9⟩ => ?_
      have fin : ∀ {t' : Shared} {H' : Hp}, Inv (X.blk tc H3 scope ce fp) ([] ++ pinsAt fp t7.heap) σ8 H' t' → Nx H' → ∃ m, m < n ∧ ∃ i H', Inv (X.blk tc H3 scope ce fp) [] (wipe σ (own.map (·.2))) H' t' ∧ tn i t'.heap ∧ (∀ b ∈ fp, H' b = none) ∧ W i m H' := fun {t' H'} I' nx => by
        obtain ⟨m', hm, w'⟩ := hNx H' nx
        have pin' : ∀ b ∈ fp, ∀ o, t7.heap.get? b = some o → t'.heap.get? b = some o ∧ H' b = none := fun b hb o e =>
          let z := I'.pin (b, o) (List.mem_append_right _ (List.mem_append_right _ (mem_pinsAt hb e)))
          ⟨z.1, z.2.1⟩
        refine ⟨m', hm, i + 1, H', (I'.unpinned (pins := [])).weak (by rw [← hw8, wipe_length]) (fun j v e => ?_), T.keep _ _ _ st7 fun b hb o e => (pin' b hb o e).1, fun b hb => ?_, w'⟩
        · rw [← hw8] at e
          exact (wipe_some e).1
        · obtain ⟨o, e, _⟩ := T.obj _ _ st7 b hb
          exact (pin' b hb o e).2
      cases b with
      | false =>
        simp only [Bool.false_eq_true, if_false] at q9 ⊢
        exact fin I9 q9
      | true =>
        simp only [if_true] at q9 ⊢
        refine wpAny_mono (de.run _ t9 σ8 H9 _ (I9.wish _) q9) (fun z t10 ⟨yv, H10, I10, r10, acc, hD10, hz10, nx⟩ => ?_) fun u t' hx => leaves u t' hx
        exact app_ok (X := X.blk tc H3 scope ce fp) I10.unwish hD10 hz10 r10 fun t11 I11 => fin I11 nx
  exact codeAny_compStart_list loop (T.self X.A 0 _ _ _ st4 loop)
end
end DL
namespace DL
open PySem PySem.Spec PyProof.Rows L2 LamX
/-! ### comprehensions that may raise -/
section
variable {G : Type}
def compX (tg : Tg) (elt : M G D) : List D → SL → G → Out G (List D)
  | [], _, g => some (.ok [], g)
  | d :: ds, sl, g => match tg d sl with
    | none => none
    | some sl1 => match elt sl1 g with
      | some (.ok x, g2) => match compX tg elt ds sl g2 with
        | some (.ok xs, g3) => some (.ok (x :: xs), g3)
        | some (.exc c, g3) => some (.exc c, g3)
        | none => none
      | some (.exc c, g2) => some (.exc c, g2)
      | none => none
def eCompX (it : M G (List D)) (vs : List Nat) (tg : Tg) (elt : M G D) : M G D := M.bind it fun ds => fun sl g => if ds.length ≤ LIM then (match compX tg elt ds (wipeS sl vs) g with
  | some (.ok xs, g') => some (.ok (.lst xs), g')
  | some (.exc c, g') => some (.exc c, g')
  | none => none) else none
end
section
variable {X : Cx} {Z : Cn} {E : Ent Z.W} {Ex : XK} {e a b c elt tg iter : Expr} {pos p ap cp : Pos} {fe fa fb fc : M Z.W.G D} {i : Nat} {x : Str}
theorem lc_runX {fi : M Z.W.G (List D)} {u : TG} {ixs vs : List Nat} {t : Tg} {σ : L2.St} {H Hf : Hp} {g : Z.W.G} {sl : SL} {Q : VK} (r : R X.K E H Hf g sl σ) (q : go Z (NewL X.K H) (fun cls d _ H => Ex cls d H) σ (eCompX fi vs t fe sl g) H Hf g Q) (hix : ∀ i ∈ ixs, i ∈ vs) (kg : TgOk X.K u ixs t) :
    tLc (tI Z X.K E (fun cls d _ H => Ex cls d H) fi) u tYes (tG Z X.K E (RlD X.K) (fun cls d _ H => Ex cls d H) fe) vs σ H Q := by
  refine ⟨Hf, g, sl, r, (go_bind (Rm := fun _ Hf' _ J ds => WalkD X.K J ds Hf') q).mono fun J H1 ⟨Hf1, g1, ds, b1, wk, q1⟩ Dd hD => ?_⟩
  split at q1
  rotate_left
  · exact q1.elim
  rename_i hlim
  obtain ⟨out, gE, em⟩ : ∃ out gE, compX t fe ds (wipeS sl vs) g1 = some (out, gE) := by
    match em : compX t fe ds (wipeS sl vs) g1 with
    | none => rw [em] at q1; exact q1.elim
    | some (o, g') => exact ⟨o, g', rfl⟩
  have rW : R X.K E H1 Hf1 g1 (wipeS sl vs) (L2.wipe σ vs) := (r.step b1).wipe vs
  obtain ⟨n1, n2, n3⟩ := new_n b1 hD
  refine lc_it wk (fun i Hc => ∃ (Hf2 : Hp) (g2 : Z.W.G) (accv : List V) (acc : List D) (o2 : Res (List D)), Base Z.W H1 Hf1 g1 Hc Hf2 g2 ∧ Hc Dd = some (.lst accv) ∧ Hf2 Dd = none ∧ ¬ Z.W.fp g2 Dd ∧ DvAll X.K Hf2 accv acc ∧ acc.length = i ∧
    compX t fe (ds.drop i) (wipeS sl vs) g2 = some (o2, gE) ∧ out = (match o2 with | .ok rest => .ok (acc ++ rest) | .exc c => .exc c)) ⟨Hf1, g1, [], [], out, b1.allocU _ hD, upd_same, n2, n3, .nil, rfl, em, by cases out <;> rfl⟩ ?_ ?_ ?_
  · rintro i Hc _ ⟨Hf2, g2, accv, acc, o2, b2, _⟩
    exact Same.tr b2.ff b2.fh
  · rintro i x Hc Hc' hi ⟨Hf2, g2, accv, acc, o2, b2, hd, hfd, hfp, dv, el, er, et⟩ y
    obtain ⟨d, Hf3, ed, b3, dx⟩ := y.run b2.self b2.ff
    have hlt : i < ds.length := (List.getElem?_eq_some_iff.mp ed).1
    have ed' : ds.drop i = d :: ds.drop (i + 1) := by
      obtain ⟨hlt, ee⟩ := List.getElem?_eq_some_iff.mp ed
      rw [List.drop_eq_getElem_cons hlt, ee]
    rw [ed'] at er
    unfold compX at er
    have r3 := (rW.step b2).step b3
    split at er
    · cases er
    · rename_i sl1 et1
      refine kg Z E Hc' Hf3 g2 _ sl1 _ x d _ r3 dx et1 fun σ' r4 hw => ⟨?_, ?_⟩
      · rw [hw vs hix, wipe_wipe fun _ h => h]
      · unfold tYes
        simp only []
        rw [if_pos trivial]
        refine ⟨Hf3, g2, sl1, r4, ?_⟩
        split at er
        · rename_i xv g4 ee
          rw [ee]
          intro yv H5 Hf5 b5 dy
          have bb := b3.trans b5
          have hd5 : H5 Dd = some (.lst accv) := bb.keep _ _ hd hfp
          have hf5 : Hf5 Dd = none := (bb.old Dd (by rw [hd]; simp)).trans hfd
          have hp5 : ¬ Z.W.fp g4 Dd := fun z => by
            rcases bb.fpo Dd z with w | w
            · exact hfp w
            · rw [hd] at w; cases w
          have hl5 : accv.length < sizeLine := by rw [dv.len]; exact lim_lt (by omega)
          have nx : ∀ o3, compX t fe (ds.drop (i + 1)) (wipeS sl vs) g4 = some (o3, gE) → out = (match o3 with | .ok rest => .ok ((acc ++ [xv]) ++ rest) | .exc c => .exc c) → ∃ accv', H5 Dd = some (.lst accv') ∧ accv'.length < sizeLine ∧ ∃ (Hf2 : Hp) (g2 : Z.W.G) (accv : List V) (acc : List D) (o2 : Res (List D)), Base Z.W H1 Hf1 g1 (upd H5 Dd (.lst (accv' ++ [yv]))) Hf2 g2 ∧ (upd H5 Dd (.lst (accv' ++ [yv]))) Dd = some (.lst accv) ∧ Hf2 Dd = none ∧ ¬ Z.W.fp g2 Dd ∧ DvAll X.K Hf2 accv acc ∧ acc.length = i + 1 ∧
              compX t fe (ds.drop (i + 1)) (wipeS sl vs) g2 = some (o2, gE) ∧ out = (match o2 with | .ok rest => .ok (acc ++ rest) | .exc c => .exc c) := fun o3 e3 eo =>
            ⟨accv, hd5, hl5, Hf5, g4, accv ++ [yv], acc ++ [xv], o3, (b2.trans bb).updFresh _ hD hf5 hp5, upd_same, hf5, hp5, (DvAll.mono bb.ff _ dv).append (.cons dy .nil), by rw [List.length_append, el]; rfl, e3, eo⟩
          split at er
          · rename_i xs g5 ex
            cases er
            exact nx _ ex (by rw [et]; simp)
          · rename_i cc g5 ex
            cases er
            exact nx _ ex et
          · cases er
        · rename_i cc g4 ee
          cases er
          rw [ee]
          intro H5 Hf5 b5
          subst et
          rw [em] at q1
          exact q1 H5 Hf5 ((b2.trans b3).trans b5)
        · cases er
  · rintro Hc ⟨Hf2, g2, accv, acc, o2, b2, hd, hfd, hfp, dv, el, er, et⟩
    rw [List.drop_length] at er
    cases er
    have et : out = .ok (acc ++ []) := et
    rw [List.append_nil] at et
    subst et
    rw [em] at q1
    exact q1 _ _ _ b2 ⟨Dd, accv, acc, rfl, rfl, n1, hd, hfd, dv, hfp⟩
theorem dn_compX {scope : Scope} {own : List (Str × Nat)} {fi : M Z.W.G (List D)} {u : TG} {ixs : List Nat} {t : Tg} (tk : Takes X (fun cls d _ H => Ex cls d H)) (hst : X.stack = X.env :: X.outer) (hfm : X.env.frame = some X.env.locals) (hc : X.calm = true) (hN : X.N.Nodup) (hi : DI X Z E (fun cls d _ H => Ex cls d H) tg iter fi) (ok : BlkOk X.N X.env.scope scope own)
    (hg : ∀ (s : Shared) (H : Hp) (C : Addr) (cl : List (Str × Addr)) (fp : List Addr), PG (X.blk s H scope (compEnvC scope cl C X.env) fp) tg u) (hk : TgOk X.K u ixs t)
    (he : ∀ (s : Shared) (H : Hp) (C : Addr) (cl : List (Str × Addr)) (fp : List Addr), DE (blkX X Ex s H scope (compEnvC scope cl C X.env) fp) Z E (fun cls d _ H => Ex cls d H) elt fe) (hix : ∀ i ∈ ixs, i ∈ own.map (·.2)) (hs : ∀ x, foldedSetIterable iter X.env x = pure x := by intro _; rfl) :
    DN X Z E (fun cls d _ H => Ex cls d H) (.ListComp elt [⟨tg, iter, [], 0⟩] scope pos) (eCompX fi (own.map (·.2)) t fe) := by
  refine PE.imp (pe_lcX (te := tG Z X.K E (RlD X.K) (fun cls d _ H => Ex cls d H) fe) tk hst hfm hc hN hi ok hg (fun _ _ _ _ _ => pts_nil) he hs) fun σ H Q ⟨Hf, g, sl, r, q⟩ => ?_
  exact lc_runX r q hix hk
/-- a call, what it lets out taken as pa tells -/
theorem de_callP {k n : Nat} {f : Addr} {fd : FuncData} {ps : List Str} {Wx : WX} {es : List Expr} {fs : M Z.W.G (List D)} {F : Fn Z.W.G} (G : FnOk X.prog X.w X.K X.mg X.base (L2.CX X.prog X.w) k f fd ps (spF Z X.K n F)) (hr : Room k X.A) (hg : Gl X x) (hm : X.mg x = some (.ref f)) (hk : PySem.W.keepIn X.K (.ref f) = true) (hb : Binds X.K fd ps [])
    (pa : ∀ σ, PassesAt (L2.CX X.prog X.w) X σ (WE Wx σ)) (hn : (e :: es).length = n) (ha : DA X Z E Wx (e :: es) fs) (hl : ∀ sl g ds g', fs sl g = some (.ok ds, g') → ds.length = n) (hdb : (x == ("__debug__" : Str)) = false := by decide) (he : starEach (e :: es) X.env = (false, eval e X.env) :: starEach es X.env := by rfl) (hpl : (backTo pos (starEach es X.env)).any (·.1) = false := by rfl) :
    DE X Z E Wx (.Call (.Name x p) (e :: es) [] pos) (callM F fs) := by
  refine PE.imp (pe_callS G hr hg hm hk hb pa ha hdb he hpl) fun σ H Q ⟨Hf, g, sl, r, q⟩ => ⟨Hf, g, sl, r, ?_⟩
  unfold callM M.bind at q
  match eq : fs sl g with
  | none => rw [eq] at q; exact q
  | some (.exc c, g1) => rw [eq] at q; exact q
  | some (.ok ds, g1) =>
    rw [eq] at q
    intro vs H1 Hf1 b1 d1
    exact ⟨by rw [d1.len]; exact hl sl g ds g1 eq, Hf1, g1, ds, b1.self, d1, go_wx (go.later (g := g) q b1)⟩
end
end DL
namespace DL
open PySem L2
/-! ### reckoning with the denotations, from the head on -/
section
variable {G α β : Type}
def bindK (m : Out G α) (k : α → M G β) (sl : SL) : Out G β := match m with
  | none => none
  | some (.exc c, g1) => some (.exc c, g1)
  | some (.ok a, g1) => k a sl g1
def liftK (o : Option α) (g : G) : Out G α := match o with
  | some a => some (.ok a, g)
  | none => none
def slotK (x : Option (Option Slot)) (g : G) : Out G D := match x with
  | some (some (.d x)) => some (.ok x, g)
  | _ => none
def slotR (x : Option (Option Slot)) (g : G) : Out G D := match x with
  | some (some (.d x)) => some (.ok x, g)
  | some (some (.oL xs)) => some (.ok (.lst xs), g)
  | _ => none
def seqK (m : Option (Fl × SL × G)) (f2 : SM G) : Option (Fl × SL × G) := match m with
  | some (.nx, sl1, g1) => f2 sl1 g1
  | r => r
def doK (m : Out G α) (k : α → SM G) (sl : SL) : Option (Fl × SL × G) := match m with
  | none => none
  | some (.exc c, g1) => some (.ex c, sl, g1)
  | some (.ok a, g1) => k a sl g1
def ifK (m : Out G Bool) (a b : SM G) (sl : SL) : Option (Fl × SL × G) := match m with
  | none => none
  | some (.exc c, g1) => some (.ex c, sl, g1)
  | some (.ok k, g1) => if k = true then a sl g1 else b sl g1
def itK (m : Out G Bool) (a b : M G α) (sl : SL) : Out G α := match m with
  | none => none
  | some (.exc c, g1) => some (.exc c, g1)
  | some (.ok k, g1) => if k = true then a sl g1 else b sl g1
def callK (m : Out G (List D)) (F : Fn G) : Out G D := match m with
  | none => none
  | some (.exc c, g1) => some (.exc c, g1)
  | some (.ok ds, g1) => F ds g1
def fnK (m : Option (Fl × SL × G)) : Out G D := match m with
  | some (.rt d, _, g') => some (.ok d, g')
  | some (.nx, _, g') => some (.ok .non, g')
  | some (.ex c, _, g') => some (.exc c, g')
  | _ => none
def asK (o : Option Bool) (a b : M G D) (sl : SL) (g : G) : Out G D := match o with
  | some c => if c = true then a sl g else b sl g
  | none => none
@[simp] theorem bind_ap {f : M G α} {k : α → M G β} {sl : SL} {g : G} : M.bind f k sl g = bindK (f sl g) k sl := rfl
@[simp] theorem bindK_ok {a : α} {g : G} {k : α → M G β} {sl : SL} : bindK (some (.ok a, g)) k sl = k a sl g := rfl
@[simp] theorem bindK_none {k : α → M G β} {sl : SL} : bindK (none : Out G α) k sl = none := rfl
@[simp] theorem pure_ap {a : α} {sl : SL} {g : G} : M.pure a sl g = some (.ok a, g) := rfl
@[simp] theorem lift_ap {o : Option α} {sl : SL} {g : G} : M.lift o sl g = liftK o g := rfl
@[simp] theorem liftK_some {a : α} {g : G} : liftK (some a) g = some (.ok a, g) := rfl
@[simp] theorem liftK_none {g : G} : liftK (none : Option α) g = none := rfl
@[simp] theorem eV_ap {i : Nat} {sl : SL} {g : G} : eV i sl g = slotK sl[i]? g := rfl
@[simp] theorem eR_ap {i : Nat} {sl : SL} {g : G} : eR i sl g = slotR sl[i]? g := rfl
@[simp] theorem slotK_d {x : D} {g : G} : slotK (some (some (.d x))) g = some (.ok x, g) := rfl
@[simp] theorem slotR_d {x : D} {g : G} : slotR (some (some (.d x))) g = some (.ok x, g) := rfl
@[simp] theorem slotR_l {x : List D} {g : G} : slotR (some (some (.oL x))) g = some (.ok (.lst x), g) := rfl
@[simp] theorem eC_ap {d : D} {sl : SL} {g : G} : eC d sl g = some (.ok d, g) := rfl
@[simp] theorem e1_ap {op : D → Option D} {a : M G D} {sl : SL} {g : G} : e1 op a sl g = bindK (a sl g) (fun x => M.lift (op x)) sl := rfl
@[simp] theorem e2_ap {op : D → D → Option D} {a b : M G D} {sl : SL} {g : G} : e2 op a b sl g = bindK (a sl g) (fun x => M.bind b fun y => M.lift (op x y)) sl := rfl
@[simp] theorem e3_ap {op op' : D → D → Option D} {a b c : M G D} {sl : SL} {g : G} : e3 op op' a b c sl g = bindK (a sl g) (fun x => M.bind b fun y => M.bind (M.lift (op x y)) fun z => M.bind (M.lift (asB z)) fun k => fun sl g => itK (some (.ok k, g)) (M.bind c fun w => M.lift (op' y w)) (M.pure (.bl false)) sl) sl := by
  unfold e3
  rw [bind_ap]
  congr 1
  funext x
  congr 1
  funext y
  congr 1
  funext z
  congr 1
  funext k
  funext sl g
  show _ = if k = true then _ else _
  split <;> rfl
@[simp] theorem tV_ap {a : M G D} {sl : SL} {g : G} : tV a sl g = bindK (a sl g) (fun x => M.lift (asB x)) sl := rfl
@[simp] theorem itK_ok {k : Bool} {g : G} {a b : M G α} {sl : SL} : itK (some (.ok k, g)) a b sl = if k = true then a sl g else b sl g := rfl
@[simp] theorem tAnd_ap {a b : M G Bool} {sl : SL} {g : G} : tAndM a b sl g = itK (a sl g) b (M.pure false) sl := by
  unfold tAndM M.bind itK
  match a sl g with
  | none => rfl
  | some (.exc c, g1) => rfl
  | some (.ok true, g1) => rfl
  | some (.ok false, g1) => rfl
@[simp] theorem tOr_ap {a b : M G Bool} {sl : SL} {g : G} : tOrM a b sl g = itK (a sl g) (M.pure true) b sl := by
  unfold tOrM M.bind itK
  match a sl g with
  | none => rfl
  | some (.exc c, g1) => rfl
  | some (.ok true, g1) => rfl
  | some (.ok false, g1) => rfl
@[simp] theorem tNot_ap {a : M G Bool} {sl : SL} {g : G} : tNotM a sl g = bindK (a sl g) (fun c => M.pure (!c)) sl := rfl
@[simp] theorem tYes_ap {sl : SL} {g : G} : tYesM sl g = some (.ok true, g) := rfl
@[simp] theorem eAnd_ap {a b : M G D} {sl : SL} {g : G} : eAndM a b sl g = bindK (a sl g) (fun x => M.bind (M.lift (asB x)) fun k => fun sl g => itK (some (.ok k, g)) b (M.pure (.bl false)) sl) sl := by
  unfold eAndM
  rw [bind_ap]
  congr 1
  funext x
  congr 1
  funext k
  funext sl g
  show _ = if k = true then _ else _
  split <;> rfl
@[simp] theorem eOr_ap {a b : M G D} {sl : SL} {g : G} : eOrM a b sl g = bindK (a sl g) (fun x => M.bind (M.lift (asB x)) fun k => fun sl g => itK (some (.ok k, g)) (M.pure (.bl true)) b sl) sl := by
  unfold eOrM
  rw [bind_ap]
  congr 1
  funext x
  congr 1
  funext k
  funext sl g
  show _ = if k = true then _ else _
  split <;> rfl
@[simp] theorem eNot_ap {a : M G D} {sl : SL} {g : G} : eNotM a sl g = bindK (a sl g) (fun x => M.bind (M.lift (asB x)) fun c => M.pure (.bl (!c))) sl := rfl
@[simp] theorem eIf_ap {c : M G Bool} {a b : M G D} {sl : SL} {g : G} : eIfM c a b sl g = itK (c sl g) a b sl := by
  unfold eIfM M.bind itK
  match c sl g with
  | none => rfl
  | some (.exc c, g1) => rfl
  | some (.ok true, g1) => rfl
  | some (.ok false, g1) => rfl
@[simp] theorem asB_bl {b : Bool} : asB (.bl b) = some b := rfl
@[simp] theorem aNil_ap {sl : SL} {g : G} : aNil sl g = some (.ok [], g) := rfl
@[simp] theorem aCons_ap {a : M G D} {b : M G (List D)} {sl : SL} {g : G} : aCons a b sl g = bindK (a sl g) (fun x => M.bind b fun xs => M.pure (x :: xs)) sl := rfl
@[simp] theorem eTup_ap {a : M G (List D)} {sl : SL} {g : G} : eTup a sl g = bindK (a sl g) (fun xs => M.lift (if xs.length ≤ LIM then some (.tup xs) else none)) sl := rfl
@[simp] theorem eLst_ap {a : M G (List D)} {sl : SL} {g : G} : eLst a sl g = bindK (a sl g) (fun xs => M.lift (if xs.length ≤ LIM then some (.lst xs) else none)) sl := rfl
@[simp] theorem eSl_ap {a : M G D} {l h : M G (Option Int)} {sl : SL} {g : G} : eSl a l h sl g = bindK (a sl g) (fun x => M.bind l fun l => M.bind h fun h => M.lift (slD x l h)) sl := rfl
@[simp] theorem oN_ap {sl : SL} {g : G} : oN sl g = some (.ok none, g) := rfl
@[simp] theorem call_ap {F : Fn G} {fs : M G (List D)} {sl : SL} {g : G} : callM F fs sl g = callK (fs sl g) F := by
  unfold callM M.bind callK
  match fs sl g with
  | none => rfl
  | some (.exc c, g1) => rfl
  | some (.ok ds, g1) => rfl
@[simp] theorem callK_ok {F : Fn G} {ds : List D} {g : G} : callK (some (.ok ds, g)) F = F ds g := Eq.trans rfl rfl
@[simp] theorem seq_ap {f1 f2 : SM G} {sl : SL} {g : G} : sSeq f1 f2 sl g = seqK (f1 sl g) f2 := rfl
@[simp] theorem seqK_nx {f2 : SM G} {sl : SL} {g : G} : seqK (some (.nx, sl, g)) f2 = f2 sl g := rfl
@[simp] theorem seqK_rt {f2 : SM G} {sl : SL} {g : G} {d : D} : seqK (some (.rt d, sl, g)) f2 = some (.rt d, sl, g) := rfl
@[simp] theorem skip_ap {sl : SL} {g : G} : sSkip sl g = some (.nx, sl, g) := rfl
@[simp] theorem do_ap {f : M G α} {k : α → SM G} {sl : SL} {g : G} : sDo f k sl g = doK (f sl g) k sl := rfl
@[simp] theorem doK_ok {a : α} {k : α → SM G} {sl : SL} {g : G} : doK (some (.ok a, g)) k sl = k a sl g := rfl
@[simp] theorem set_ap {i : Nat} {x : Slot} {sl : SL} {g : G} : sSet i x sl g = some (.nx, sl.set i (some x), g) := rfl
@[simp] theorem asg_ap {i : Nat} {f : M G Slot} {sl : SL} {g : G} : sAsg i f sl g = doK (f sl g) (fun x => sSet i x) sl := rfl
@[simp] theorem xD_ap {f : M G D} {sl : SL} {g : G} : xD f sl g = bindK (f sl g) (fun d => M.pure (.d d)) sl := rfl
@[simp] theorem xL_ap {f : M G D} {sl : SL} {g : G} : xL f sl g = bindK (f sl g) (fun d => M.bind (M.lift (asL d)) fun xs => M.pure (.oL xs)) sl := rfl
@[simp] theorem iTL_ap {f : M G D} {sl : SL} {g : G} : iTL f sl g = bindK (f sl g) (fun d => M.lift (asTL d)) sl := rfl
@[simp] theorem asTL_l {xs : List D} : asTL (.lst xs) = some xs := rfl
@[simp] theorem asTL_t {xs : List D} : asTL (.tup xs) = some xs := rfl
@[simp] theorem asL_l {xs : List D} : asL (.lst xs) = some xs := rfl
@[simp] theorem par_ap {i j : Nat} {f h : M G Slot} {sl : SL} {g : G} : sPar i j f h sl g = doK (f sl g) (fun x => sDo h fun y => sSeq (sSet i x) (sSet j y)) sl := rfl
@[simp] theorem par3_ap {i j l : Nat} {f h m : M G Slot} {sl : SL} {g : G} : sPar3 i j l f h m sl g = doK (f sl g) (fun x => sDo h fun y => sDo m fun z => sSeq (sSet i x) (sSeq (sSet j y) (sSet l z))) sl := rfl
@[simp] theorem drop_ap {f : M G D} {sl : SL} {g : G} : sDrop f sl g = doK (f sl g) (fun _ => sSkip) sl := rfl
@[simp] theorem ret_ap {f : M G D} {sl : SL} {g : G} : sRet f sl g = doK (f sl g) (fun d => fun sl g => some (.rt d, sl, g)) sl := rfl
@[simp] theorem retN_ap {sl : SL} {g : G} : sRetN sl g = some (.rt .non, sl, g) := rfl
@[simp] theorem if_ap {c : M G Bool} {a b : SM G} {sl : SL} {g : G} : sIf c a b sl g = ifK (c sl g) a b sl := by
  unfold sIf sDo ifK
  match c sl g with
  | none => rfl
  | some (.exc c, g1) => rfl
  | some (.ok true, g1) => rfl
  | some (.ok false, g1) => rfl
@[simp] theorem ifK_ok {k : Bool} {g : G} {a b : SM G} {sl : SL} : ifK (some (.ok k, g)) a b sl = if k = true then a sl g else b sl g := rfl
@[simp] theorem for_ap {it : M G (List D)} {tg : Tg} {vs : List Nat} {b : SM G} {sl : SL} {g : G} : sFor it tg vs b sl g = doK (it sl g) (fun ds => forL tg b vs ds) sl := rfl
@[simp] theorem frz_ap {i : Nat} {f : SM G} {sl : SL} {g : G} : sFrz i f sl g = f (frz1 i sl) g := rfl
@[simp] theorem fn_ap {m : Nat} {fs : SM G} {ds : List D} {g : G} : fnD m fs ds g = fnK (fs (ds.map (fun d => some (.d d)) ++ List.replicate (m - ds.length) none) g) := rfl
@[simp] theorem fnK_rt {d : D} {sl : SL} {g : G} : fnK (some (.rt d, sl, g)) = some (.ok d, g) := rfl
@[simp] theorem fnK_nx {sl : SL} {g : G} : fnK (some (.nx, sl, g)) = some (.ok .non, g) := rfl
theorem sApp_ap {i : Nat} {fe : M G D} {sl : SL} {g : G} {xs : List D} (h : sl[i]? = some (some (.oL xs))) : sApp i fe sl g = doK (fe sl g) (fun d => sMutL i fun xs => if xs.length < LIM then some (xs ++ [d]) else none) sl := by
  unfold sApp sOwnL
  rw [h]
  rfl
theorem mutL_ap {i : Nat} {h : List D → Option (List D)} {sl : SL} {g : G} {xs ys : List D} (e : sl[i]? = some (some (.oL xs))) (e2 : h xs = some ys) : sMutL i h sl g = some (.nx, sl.set i (some (.oL ys)), g) := by
  unfold sMutL
  rw [e]
  simp only [e2]
theorem comp_ap {it : M G (List D)} {vs : List Nat} {tg : Tg} {cnd : M G Bool} {elt : M G D} {sl : SL} {g : G} : eComp it vs tg cnd elt sl g = bindK (it sl g) (fun ds => fun sl g => match compL tg cnd elt ds (wipeS sl vs) g with
  | some (.ok xs, g') => if xs.length ≤ LIM then some (.ok (.lst xs), g') else none
  | _ => none) sl := rfl
/-- a comprehension whose parts only tell -/
theorem compL_pure {tg : Tg} {cnd : M G Bool} {elt : M G D} {sl : SL} {g : G} (p : D → Bool) (h : D → D) : ∀ (ds : List D), (∀ d ∈ ds, ∃ sl1, tg d sl = some sl1 ∧ cnd sl1 g = some (.ok (p d), g) ∧ (p d = true → elt sl1 g = some (.ok (h d), g))) →
    compL tg cnd elt ds sl g = some (.ok ((ds.filter p).map h), g)
  | [], _ => rfl
  | d :: ds, H => by
    obtain ⟨sl1, e1, e2, e3⟩ := H d (by simp)
    have ih := compL_pure p h ds fun d' hd' => H d' (by simp [hd'])
    unfold compL
    rw [e1]
    simp only [e2]
    cases hp : p d with
    | true => simp only [e3 hp, ih, List.filter_cons, hp, if_true, List.map_cons]
    | false => simp only [ih, List.filter_cons, hp]; rfl
/-- a loop that only changes what mk tells -/
theorem forL_acc {A : Type} {tg : Tg} {b : SM G} {vs : List Nat} {g : G} (mk : A → SL) (step : A → D → A) (Inv : A → Prop) : ∀ (ds : List D) (a : A), Inv a →
    (∀ a d, d ∈ ds → Inv a → Inv (step a d) ∧ ∃ sl1 sl2, tg d (mk a) = some sl1 ∧ b sl1 g = some (.nx, sl2, g) ∧ wipeS sl2 vs = mk (step a d)) →
    forL tg b vs ds (mk a) g = some (.nx, mk (ds.foldl step a), g) ∧ Inv (ds.foldl step a)
  | [], a, ia, _ => ⟨rfl, ia⟩
  | d :: ds, a, ia, H => by
    obtain ⟨ia', sl1, sl2, e1, e2, e3⟩ := H a d (by simp) ia
    have ih := forL_acc mk step Inv ds (step a d) ia' fun a' d' hd' => H a' d' (by simp [hd'])
    refine ⟨?_, ih.2⟩
    unfold forL
    rw [e1]
    simp only [e2, e3]
    exact ih.1
/-- a loop that is only to be left alive -/
theorem forL_inv {tg : Tg} {b : SM G} {vs : List Nat} (Inv : SL → G → Prop) : ∀ (ds : List D) (sl : SL) (g : G), Inv sl g →
    (∀ d sl g, d ∈ ds → Inv sl g → ∃ sl1 sl2 g2, tg d sl = some sl1 ∧ b sl1 g = some (.nx, sl2, g2) ∧ Inv (wipeS sl2 vs) g2) →
    ∃ sl' g', forL tg b vs ds sl g = some (.nx, sl', g') ∧ Inv sl' g'
  | [], sl, g, i, _ => ⟨sl, g, rfl, i⟩
  | d :: ds, sl, g, i, H => by
    obtain ⟨sl1, sl2, g2, e1, e2, i2⟩ := H d sl g (by simp) i
    obtain ⟨sl', g', e3, i3⟩ := forL_inv Inv ds (wipeS sl2 vs) g2 i2 fun d' sl g hd' => H d' sl g (by simp [hd'])
    refine ⟨sl', g', ?_, i3⟩
    unfold forL
    rw [e1]
    simp only [e2]
    exact e3
end
end DL
namespace Lw
open PySem L2 DL
def top (i : Nat) : Stmt := PySem.Challenge.pw_stampedrows_k26_texts.main.body.getD i (.Pass ⟨0, 0, 0, 0⟩)
abbrev s__law_begun : Stmt := top 31
abbrev s__law_result : Stmt := top 29
abbrev s_is_string_of : Stmt := top 13
abbrev s_are_words : Stmt := top 14
abbrev s_parse_words : Stmt := top 25
abbrev s_check_words : Stmt := top 15
abbrev s_is_between : Stmt := top 12
abbrev s_check_boxes : Stmt := top 16
abbrev s_check_both : Stmt := top 17
abbrev s_is_stamp : Stmt := top 18
abbrev s_are_stamps_on : Stmt := top 19
abbrev s_read_stamp : Stmt := top 26
abbrev s_parse_stamps : Stmt := top 27
abbrev s_format_words : Stmt := top 22
abbrev s_check_stamps : Stmt := top 20
abbrev s_stamps_text : Stmt := top 23
abbrev s_format_stamps : Stmt := top 24
abbrev s__law_by_hand : Stmt := top 37
abbrev s__law_draw : Stmt := top 30
abbrev s__law_stamps : Stmt := top 34
abbrev s__law_word : Stmt := top 32
abbrev s__law_words : Stmt := top 33
abbrev s__law_text : Stmt := top 35
abbrev s__law_changed : Stmt := top 36
abbrev s_law : Stmt := top 38
def eNm (i : Nat) : Str := (["StampError", "InvalidWords", "InvalidBoxes", "InvalidStamps", "InvalidRow", "InvalidLength", "InvalidText", "TooMany", "NothingToUndo"] : List Str).getD i ""
def bmVE : List Value := [.type "ValueError", .type "Exception", .type "BaseException", .type "object"]
def errN (c : Nat) : List Nat := ([[111, 116, 104, 101, 114, 32, 101, 114, 114, 111, 114], [115, 101, 116], [98, 111, 120, 101, 115], [109, 97, 114, 107, 115], [108, 105, 110, 101], [108, 101, 110, 103, 116, 104], [116, 101, 120, 116], [109, 97, 110, 121], [117, 110, 100, 111]] : List (List Nat)).getD c []
def q__law_by_hand : Str := (PyProof.Rows.envOfC "_law_by_hand" (defScope s__law_by_hand) 0 0 .none).qual ++ "<lambda>"
def q_law : Str := (PyProof.Rows.envOfC "law" (defScope s_law) 0 0 .none).qual ++ "<lambda>"
structure Txt (K : PySem.W.Frag) (mg : Str → Option Value) : Type where
  f__law_begun : Addr
  fd__law_begun : FuncData
  d__law_begun : DefAt K mg "_law_begun" s__law_begun f__law_begun fd__law_begun
  b__law_begun : Binds K fd__law_begun [] []
  f__law_result : Addr
  fd__law_result : FuncData
  d__law_result : DefAt K mg "_law_result" s__law_result f__law_result fd__law_result
  b__law_result : Binds K fd__law_result ["call"] []
  f_is_string_of : Addr
  fd_is_string_of : FuncData
  d_is_string_of : DefAt K mg "is_string_of" s_is_string_of f_is_string_of fd_is_string_of
  b_is_string_of : Binds K fd_is_string_of ["value", "most"] []
  f_are_words : Addr
  fd_are_words : FuncData
  d_are_words : DefAt K mg "are_words" s_are_words f_are_words fd_are_words
  b_are_words : Binds K fd_are_words ["value"] []
  f_parse_words : Addr
  fd_parse_words : FuncData
  d_parse_words : DefAt K mg "parse_words" s_parse_words f_parse_words fd_parse_words
  b_parse_words : Binds K fd_parse_words ["text"] []
  f_check_words : Addr
  fd_check_words : FuncData
  d_check_words : DefAt K mg "check_words" s_check_words f_check_words fd_check_words
  b_check_words : Binds K fd_check_words ["words"] []
  f_is_between : Addr
  fd_is_between : FuncData
  d_is_between : DefAt K mg "is_between" s_is_between f_is_between fd_is_between
  b_is_between : Binds K fd_is_between ["value", "low", "high"] []
  f_check_boxes : Addr
  fd_check_boxes : FuncData
  d_check_boxes : DefAt K mg "check_boxes" s_check_boxes f_check_boxes fd_check_boxes
  b_check_boxes : Binds K fd_check_boxes ["boxes"] []
  f_check_both : Addr
  fd_check_both : FuncData
  d_check_both : DefAt K mg "check_both" s_check_both f_check_both fd_check_both
  b_check_both : Binds K fd_check_both ["words", "boxes"] []
  f_is_stamp : Addr
  fd_is_stamp : FuncData
  d_is_stamp : DefAt K mg "is_stamp" s_is_stamp f_is_stamp fd_is_stamp
  b_is_stamp : Binds K fd_is_stamp ["words", "boxes", "value"] []
  f_are_stamps_on : Addr
  fd_are_stamps_on : FuncData
  d_are_stamps_on : DefAt K mg "are_stamps_on" s_are_stamps_on f_are_stamps_on fd_are_stamps_on
  b_are_stamps_on : Binds K fd_are_stamps_on ["words", "boxes", "value"] []
  f_read_stamp : Addr
  fd_read_stamp : FuncData
  d_read_stamp : DefAt K mg "read_stamp" s_read_stamp f_read_stamp fd_read_stamp
  b_read_stamp : Binds K fd_read_stamp ["words", "text"] []
  f_parse_stamps : Addr
  fd_parse_stamps : FuncData
  d_parse_stamps : DefAt K mg "parse_stamps" s_parse_stamps f_parse_stamps fd_parse_stamps
  b_parse_stamps : Binds K fd_parse_stamps ["words", "boxes", "text"] []
  f_format_words : Addr
  fd_format_words : FuncData
  d_format_words : DefAt K mg "format_words" s_format_words f_format_words fd_format_words
  b_format_words : Binds K fd_format_words ["words"] []
  f_check_stamps : Addr
  fd_check_stamps : FuncData
  d_check_stamps : DefAt K mg "check_stamps" s_check_stamps f_check_stamps fd_check_stamps
  b_check_stamps : Binds K fd_check_stamps ["words", "boxes", "stamps"] []
  f_stamps_text : Addr
  fd_stamps_text : FuncData
  d_stamps_text : DefAt K mg "stamps_text" s_stamps_text f_stamps_text fd_stamps_text
  b_stamps_text : Binds K fd_stamps_text ["words", "stamps"] []
  f_format_stamps : Addr
  fd_format_stamps : FuncData
  d_format_stamps : DefAt K mg "format_stamps" s_format_stamps f_format_stamps fd_format_stamps
  b_format_stamps : Binds K fd_format_stamps ["words", "boxes", "stamps"] []
  f__law_by_hand : Addr
  fd__law_by_hand : FuncData
  d__law_by_hand : DefAt K mg "_law_by_hand" s__law_by_hand f__law_by_hand fd__law_by_hand
  b__law_by_hand : Binds K fd__law_by_hand [] []
  f__law_draw : Addr
  fd__law_draw : FuncData
  d__law_draw : DefAt K mg "_law_draw" s__law_draw f__law_draw fd__law_draw
  b__law_draw : Binds K fd__law_draw ["script", "town", "many"] []
  f__law_stamps : Addr
  fd__law_stamps : FuncData
  d__law_stamps : DefAt K mg "_law_stamps" s__law_stamps f__law_stamps fd__law_stamps
  b__law_stamps : Binds K fd__law_stamps ["script", "town", "words_of", "many", "most"] []
  f__law_word : Addr
  fd__law_word : FuncData
  d__law_word : DefAt K mg "_law_word" s__law_word f__law_word fd__law_word
  b__law_word : Binds K fd__law_word ["script", "town", "most", "letters"] []
  f__law_words : Addr
  fd__law_words : FuncData
  d__law_words : DefAt K mg "_law_words" s__law_words f__law_words fd__law_words
  b__law_words : Binds K fd__law_words ["script", "town", "most", "letters"] []
  f__law_text : Addr
  fd__law_text : FuncData
  d__law_text : DefAt K mg "_law_text" s__law_text f__law_text fd__law_text
  b__law_text : Binds K fd__law_text ["words_of", "marks"] []
  f__law_changed : Addr
  fd__law_changed : FuncData
  d__law_changed : DefAt K mg "_law_changed" s__law_changed f__law_changed fd__law_changed
  b__law_changed : Binds K fd__law_changed ["script", "town", "text_here"] []
  f_law : Addr
  fd_law : FuncData
  d_law : DefAt K mg "law" s_law f_law fd_law
  b_law : Binds K fd_law ["script"] []
  oc__law_by_hand : Value
  kV__law_by_hand : Value
  doc__law_by_hand : Value
  pm__law_by_hand : Value
  ct__law_by_hand : Value
  od__law_by_hand : Option Addr
  an__law_by_hand : Option Addr
  osl__law_by_hand : Array (Option Value)
  c__law_by_hand : Addr
  lk__law_by_hand : K.lookup f__law_by_hand = some ⟨oc__law_by_hand, od__law_by_hand, .func (PySem.W.fnOf "_law_by_hand" "_law_by_hand" (defArgs s__law_by_hand) (defBody s__law_by_hand) (defScope s__law_by_hand) .none kV__law_by_hand doc__law_by_hand pm__law_by_hand an__law_by_hand (.ref c__law_by_hand) ct__law_by_hand), osl__law_by_hand⟩
  hcd__law_by_hand : PySem.W.codeIn K (.ref c__law_by_hand) "_law_by_hand" = true
  bl__law_by_hand : Binds K (PySem.W.fnOf "_law_by_hand" "_law_by_hand" (defArgs s__law_by_hand) (defBody s__law_by_hand) (defScope s__law_by_hand) .none kV__law_by_hand doc__law_by_hand pm__law_by_hand an__law_by_hand (.ref c__law_by_hand) ct__law_by_hand) [] []
  oc_law : Value
  kV_law : Value
  doc_law : Value
  pm_law : Value
  ct_law : Value
  od_law : Option Addr
  an_law : Option Addr
  osl_law : Array (Option Value)
  c_law : Addr
  lk_law : K.lookup f_law = some ⟨oc_law, od_law, .func (PySem.W.fnOf "law" "law" (defArgs s_law) (defBody s_law) (defScope s_law) .none kV_law doc_law pm_law an_law (.ref c_law) ct_law), osl_law⟩
  hcd_law : PySem.W.codeIn K (.ref c_law) "law" = true
  bl_law : Binds K (PySem.W.fnOf "law" "law" (defArgs s_law) (defBody s_law) (defScope s_law) .none kV_law doc_law pm_law an_law (.ref c_law) ct_law) ["script"] []
  P__law_by_hand : Addr
  nP__law_by_hand : K.lookup P__law_by_hand = none
  P_law : Addr
  nP_law : K.lookup P_law = none
  ne__law_by_hand_law : P__law_by_hand ≠ P_law
  n_ValueError : mg "ValueError" = none
  n_all : mg "all" = none
  n_bool : mg "bool" = none
  n_int : mg "int" = none
  n_isinstance : mg "isinstance" = none
  n_len : mg "len" = none
  n_range : mg "range" = none
  n_set : mg "set" = none
  n_sorted : mg "sorted" = none
  n_str : mg "str" = none
  n_tuple : mg "tuple" = none
  n_zip : mg "zip" = none
  t_LETTERS : Nat
  g_LETTERS : mg "LETTERS" = some (.str (mkS [97, 98, 99, 100]) t_LETTERS)
  kb_format_stamps : KwB K fd_format_stamps ["words", "boxes", "stamps"]
  kb_format_words : KwB K fd_format_words ["words"]
  kb_parse_stamps : KwB K fd_parse_stamps ["words", "boxes", "text"]
  kb_parse_words : KwB K fd_parse_words ["text"]
  Cs : List Addr
  hCs : Cs.length = 9
  chk : errChk K Cs bmVE "ValueError.__new__" = true
  gE : ∀ i, i < 9 → mg (eNm i) = some (.ref (Cs.getD i 0))
theorem Txt.er {K : PySem.W.Frag} {mg : Str → Option Value} (T : Txt K mg) (i : Nat) (h : i < 9) : ErrOk K (T.Cs.getD i 0) (T.Cs.getD 0 0) bmVE "ValueError.__new__" := (errChk_ok T.chk (by rw [T.hCs]; exact h)).1
theorem Txt.kt {K : PySem.W.Frag} {mg : Str → Option Value} (T : Txt K mg) (i j : Nat) (h : i < 9) (hj : j ≠ 0) (h2 : j < 9) : PySem.W.kitOne K (.ref (T.Cs.getD i 0)) (.ref (T.Cs.getD j 0)) = some (i == j) := (errChk_ok T.chk (by rw [T.hCs]; exact h)).2 j hj (by rw [T.hCs]; exact h2)
def clsT {K : PySem.W.Frag} {mg : Str → Option Value} (T : Txt K mg) : Nat → Value := fun n => .ref (T.Cs.getD n 0)
abbrev fl__law_by_hand {K : PySem.W.Frag} {mg : Str → Option Value} (T : Txt K mg) : FuncData := (PySem.W.fnOf "_law_by_hand" "_law_by_hand" (defArgs s__law_by_hand) (defBody s__law_by_hand) (defScope s__law_by_hand) .none T.kV__law_by_hand T.doc__law_by_hand T.pm__law_by_hand T.an__law_by_hand (.ref T.c__law_by_hand) T.ct__law_by_hand)
abbrev fl_law {K : PySem.W.Frag} {mg : Str → Option Value} (T : Txt K mg) : FuncData := (PySem.W.fnOf "law" "law" (defArgs s_law) (defBody s_law) (defScope s_law) .none T.kV_law T.doc_law T.pm_law T.an_law (.ref T.c_law) T.ct_law)
def tabs {K : PySem.W.Frag} {mg : Str → Option Value} (T : Txt K mg) : List (Addr × Str) := [(T.P__law_by_hand, q__law_by_hand), (T.P_law, q_law)]
structure TabsB {K : PySem.W.Frag} {mg : Str → Option Value} (T : Txt K mg) (base : Heap) : Prop where
  b__law_by_hand : LamX.TabB base mg T.c__law_by_hand T.P__law_by_hand
  b_law : LamX.TabB base mg T.c_law T.P_law
theorem nP_all {K : PySem.W.Frag} {mg : Str → Option Value} (T : Txt K mg) : ∀ t ∈ tabs T, K.lookup t.1 = none := fun t h => by
  rcases List.mem_cons.mp h with rfl | h
  · exact T.nP__law_by_hand
  rcases List.mem_cons.mp h with rfl | h
  · exact T.nP_law
  cases h
theorem OT__law_by_hand {K : PySem.W.Frag} {mg : Str → Option Value} (T : Txt K mg) : OneT (tabs T) T.P__law_by_hand q__law_by_hand := ⟨.head _, fun t h e => by
  rcases List.mem_cons.mp h with rfl | h
  · rfl
  rcases List.mem_cons.mp h with rfl | h
  · exact absurd e (Ne.symm T.ne__law_by_hand_law)
  cases h⟩
theorem OT_law {K : PySem.W.Frag} {mg : Str → Option Value} (T : Txt K mg) : OneT (tabs T) T.P_law q_law := ⟨.tail _ (.head _), fun t h e => by
  rcases List.mem_cons.mp h with rfl | h
  · exact absurd e T.ne__law_by_hand_law
  rcases List.mem_cons.mp h with rfl | h
  · rfl
  cases h⟩
section
variable {P : Program} {w : World} {K : PySem.W.Frag} {mg : Str → Option Value} {base : Heap} {Vw : Wd} {cls : Nat → Value} {L : List (Addr × Str)}
theorem sc__law_begun : FnScope [] [] (defScope s__law_begun) := ⟨rfl, rfl, rfl, by decide +kernel, rfl, by decide +kernel, by decide +kernel⟩
theorem ok__law_begun (T : Txt K mg) : FnOk P w K mg base (L2.CX P w) 1 T.f__law_begun T.fd__law_begun [] (spBeg K Vw) :=
  ok_beg T.d__law_begun.fn sc__law_begun fun cdv A outer s H Ex => pss_one (ps_ret (pe_disp (pps_cons pe_str pe_int (pps_cons pe_str pe_dnewK pps_nil)) rfl rfl (by simp) (by decide)))
theorem sc__law_result : FnScope ["call", "caught", "answer", "e", "some", "names", "name"] ["call"] (defScope s__law_result) := ⟨rfl, rfl, rfl, by decide +kernel, rfl, by decide +kernel, by decide +kernel⟩
def F__res1 {G : Type} : SM G := (sUnp (eTup (aCons (eC .non) (aCons (eC .non) aNil))) (tg2 1 2))
def F__res0 {G : Type} : SM G := (sSeq (sIf (tV (e2 isN (eV 1) (eC .non))) (sRet (eTup (aCons (eC (.str [114, 101, 116, 117, 114, 110, 115])) (aCons (eV 2) aNil)))) sSkip) (fun _ _ => none))
def F__resX {G : Type} (b : Addr) (c : Nat) : SM G := (sSeq (sIf (tV (e2 isN (eV 1) (eC .non))) (sRet (eTup (aCons (eC (.str [114, 101, 116, 117, 114, 110, 115])) (aCons (eV 2) aNil)))) sSkip)
    (sSeq (sAsg 4 (xDispB 1 b [([98, 111, 120, 101, 115], (c == 2)), ([108, 101, 110, 103, 116, 104], (c == 5))]))
    (sSeq (sUpdB 4 1 b [([108, 105, 110, 101], (c == 4)), ([109, 97, 114, 107, 115], (c == 3))])
    (sSeq (sUpdB 4 1 b [([116, 101, 120, 116], (c == 6)), ([115, 101, 116], (c == 1))])
    (sSeq (sUpdB 4 1 b [([117, 110, 100, 111], (c == 8)), ([109, 97, 110, 121], (c == 7))])
    (sLk 4 (sSeq (sAsg 5 (xD (eComp (iKeyD 4) [6] (tg1 6) (tV (eDGet 4 (eV 6))) (eV 6))))
    (sRet (eIfM (tAndM (tV (e2 eqD (e1 lenD (eV 5)) (eC (.int 1)))) (tV (eIsB 1 b true))) (eTup (aCons (e2 ixD (eV 5) (eC (.int 0))) aNil)) (eTup (aCons (eC (.str [111, 116, 104, 101, 114, 32, 101, 114, 114, 111, 114])) aNil)))))))))))
theorem resX_ev {G : Type} (f b : Addr) (g : G) : ∀ c, c < 9 → ∃ sl', F__resX b c (wipeS ((((((some (.d (.ref f)) :: List.replicate 6 none).set 1 (some (.d .non))).set 2 (some (.d .non))).set 3 (some (.d (.ref b)))).set 1 (some (.d (.ref b))))) [3]) g = some (.rt (resD errN (.exc c)), sl', g) := by
  have hm : ∀ (sl : SL) (g : G), sl[1]? = some (some (.d (.ref b))) → mAt 1 b sl g = some (.ok (), g) := fun sl g h => by unfold mAt; rw [h]; exact if_pos rfl
  intro c hc
  have hc' : c = 0 ∨ c = 1 ∨ c = 2 ∨ c = 3 ∨ c = 4 ∨ c = 5 ∨ c = 6 ∨ c = 7 ∨ c = 8 := by omega
  let sl0 : SL := [some (.d (.ref f)), some (.d (.ref b)), some (.d .non), none, none, none, none]
  let sl1 (l : List (DKey × D)) : SL := [some (.d (.ref f)), some (.d (.ref b)), some (.d .non), none, some (.oK l), none, none]
  have s2 : ∀ l, sAsg 4 (xDispB 1 b l) sl0 g = some (.nx, sl1 (dMerge [] (dispB l)), g) := fun l => by
    show doK (bindK (mAt 1 b sl0 g) _ _) _ _ = _
    rw [hm sl0 g rfl]; rfl
  have s3 : ∀ k l, k.length + l.length ≤ LIM → sUpdB 4 1 b l (sl1 k) g = some (.nx, sl1 (dMerge k (dMerge [] (dispB l))), g) := fun k l hl => by
    show doK (mAt 1 b (sl1 k) g) _ _ = _
    rw [hm (sl1 k) g rfl]
    show (match (if k.length + l.length ≤ LIM then some (dMerge k (dMerge [] (dispB l))) else none) with | some ys => some (Fl.nx, (sl1 k).set 4 (some (.oK ys)), g) | none => none) = _
    rw [if_pos hl]; rfl
  have s4 : ∀ sl : SL, sl[1]? = some (some (.d (.ref b))) → eIsB 1 b true sl g = some (.ok (.bl true), g) := fun sl h => by
    show bindK (mAt 1 b sl g) _ _ = _
    rw [hm sl g h]; rfl
  have hl : ∀ n : Nat, n ≤ 1000 → n ≤ LIM := fun n h => by unfold LIM; omega
  have fin : ∀ (K : List (DKey × D)) (nm : List Nat), ∃ sl', sRet (eIfM (tAndM (tV (e2 eqD (e1 lenD (eV 5)) (eC (.int 1)))) (tV (eIsB 1 b true))) (eTup (aCons (e2 ixD (eV 5) (eC (.int 0))) aNil)) (eTup (aCons (eC (.str [111, 116, 104, 101, 114, 32, 101, 114, 114, 111, 114])) aNil))) [some (.d (.ref f)), some (.d (.ref b)), some (.d .non), none, some (.kK K), some (.d (.lst [.str nm])), none] g = some (.rt (.tup [.str nm]), sl', g) := fun K nm => by
    have t1 : tV (e2 eqD (e1 lenD (eV 5)) (eC (.int 1))) [some (.d (.ref f)), some (.d (.ref b)), some (.d .non), none, some (.kK K), some (.d (.lst [.str nm])), none] g = some (.ok true, g) := rfl
    rw [ret_ap, eIf_ap, tAnd_ap, t1, itK_ok, if_pos rfl, tV_ap, s4 _ rfl, bindK_ok, lift_ap, asB_bl, liftK_some, itK_ok, if_pos rfl]
    exact ⟨_, rfl⟩
  have main : F__resX b c sl0 g = sLk 4 (sSeq (sAsg 5 (xD (eComp (iKeyD 4) [6] (tg1 6) (tV (eDGet 4 (eV 6))) (eV 6)))) (sRet (eIfM (tAndM (tV (e2 eqD (e1 lenD (eV 5)) (eC (.int 1)))) (tV (eIsB 1 b true))) (eTup (aCons (e2 ixD (eV 5) (eC (.int 0))) aNil)) (eTup (aCons (eC (.str [111, 116, 104, 101, 114, 32, 101, 114, 114, 111, 114])) aNil))))) (sl1 (dMerge (dMerge (dMerge (dMerge [] (dispB [([98, 111, 120, 101, 115], (c == 2)), ([108, 101, 110, 103, 116, 104], (c == 5))])) (dMerge [] (dispB [([108, 105, 110, 101], (c == 4)), ([109, 97, 114, 107, 115], (c == 3))]))) (dMerge [] (dispB [([116, 101, 120, 116], (c == 6)), ([115, 101, 116], (c == 1))]))) (dMerge [] (dispB [([117, 110, 100, 111], (c == 8)), ([109, 97, 110, 121], (c == 7))])))) g := by
    unfold F__resX
    rw [seq_ap]
    show seqK (some (.nx, sl0, g)) _ = _
    rw [seqK_nx, seq_ap, s2, seqK_nx, seq_ap, s3 _ _ (hl _ (by decide +revert)), seqK_nx, seq_ap, s3 _ _ (hl _ (by decide +revert)), seqK_nx, seq_ap, s3 _ _ (hl _ (by decide +revert)), seqK_nx]
  show ∃ sl', F__resX b c sl0 g = _
  rw [main]
  rcases hc' with rfl | rfl | rfl | rfl | rfl | rfl | rfl | rfl | rfl
  · exact ⟨_, rfl⟩
  all_goals exact fin _ _
theorem gives__law_result {X : Cx} (T : Txt X.K X.mg) {Z : Cn} (hZ : ∀ c, Z.cls c = .ref (T.Cs.getD c 0)) (q : Str) (cdv : Value) : Gives3 X ["call", "caught", "answer", "e", "some", "names", "name"] "_law_result" (defScope s__law_result) T.f__law_result cdv (defBody s__law_result) "call" q (TTres Z X.K q 9 errN) :=
  gives_res (N := ["call", "caught", "answer", "e", "some", "names", "name"]) (ex := "StampError") (nm := "e") (an := "answer") (cn := "caught") (CS := T.Cs.getD 0 0) (ic := 1) (ia := 2) (ie := 3) (m := 6) (f1 := F__res1) (F0 := F__res0) (F1 := F__resX)
    sc__law_result.nd rfl rfl rfl rfl (by decide) (by decide) (by decide) rfl rfl rfl (fun _ _ => rfl) (fun _ _ => ⟨rfl, by decide, .inl (T.gE 0 (by decide))⟩) (fun c hc => by rw [hZ]; exact (T.er c hc).exm) (by decide) (by decide) (fun _ _ _ _ => rfl) (fun _ _ _ _ => rfl)
    (fun s H E2 hr => (ds_unp (de_tup (da_cons de_non (da_cons de_non da_nil))) (dg_tup2 rfl sc__law_result.nd rfl (Or.inl rfl) rfl (Or.inl rfl))))
    (fun s H E2 hr => (dss_cons (ds_if (dt_cmp od_isN (DE.r (de_name 1)) (DE.r de_non)) (dss_one (ds_ret (de_tup (da_cons (de_str [114, 101, 116, 117, 114, 110, 115]) (da_cons (de_name 2) da_nil))))) dss_nil) dss_never))
    (fun s H E2 b oe c pn hr hc hp hz hv => by
      rw [hZ] at hz
      exact (dss_cons (ds_if (dt_cmp od_isN (DE.r (de_name 1)) (DE.r de_non)) (dss_one (ds_ret (de_tup (da_cons (de_str [114, 101, 116, 117, 114, 110, 115]) (da_cons (de_name 2) da_nil))))) dss_nil)
    (dss_cons (ds_set (i := 4) sc__law_result.nd rfl (Or.inr rfl) (dx_dispB [([98, 111, 120, 101, 115], (c == 2)), ([108, 101, 110, 103, 116, 104], (c == 5))] (pps_cons pe_str (pe_isP (v := .ref (T.Cs.getD 2 0)) (cv := .ref (T.Cs.getD 2 0)) (T.er c hc).ex hz hv hp (pe_glob (v := .ref (T.Cs.getD 2 0)) rfl (T.gE 2 (by decide)) rfl) (fun _ h => h) (T.kt c 2 hc (by decide) (by decide)) rfl T.n_isinstance rfl (Or.inl rfl)) (pps_cons pe_str (pe_isP (v := .ref (T.Cs.getD 5 0)) (cv := .ref (T.Cs.getD 5 0)) (T.er c hc).ex hz hv hp (pe_glob (v := .ref (T.Cs.getD 5 0)) rfl (T.gE 5 (by decide)) rfl) (fun _ h => h) (T.kt c 5 hc (by decide) (by decide)) rfl T.n_isinstance rfl (Or.inl rfl)) pps_nil)) rfl rfl (by simp) (by decide) (Nat.le_of_ble_eq_true rfl)))
    (dss_cons (ds_updB (i := 4) (j := 1) [([108, 105, 110, 101], (c == 4)), ([109, 97, 114, 107, 115], (c == 3))] (pps_cons pe_str (pe_isP (v := .ref (T.Cs.getD 4 0)) (cv := .ref (T.Cs.getD 4 0)) (T.er c hc).ex hz hv hp (pe_glob (v := .ref (T.Cs.getD 4 0)) rfl (T.gE 4 (by decide)) rfl) (fun _ h => h) (T.kt c 4 hc (by decide) (by decide)) rfl T.n_isinstance rfl (Or.inl rfl)) (pps_cons pe_str (pe_isP (v := .ref (T.Cs.getD 3 0)) (cv := .ref (T.Cs.getD 3 0)) (T.er c hc).ex hz hv hp (pe_glob (v := .ref (T.Cs.getD 3 0)) rfl (T.gE 3 (by decide)) rfl) (fun _ h => h) (T.kt c 3 hc (by decide) (by decide)) rfl T.n_isinstance rfl (Or.inl rfl)) pps_nil)) rfl rfl (by simp) (by decide) (Nat.le_of_ble_eq_true rfl))
    (dss_cons (ds_updB (i := 4) (j := 1) [([116, 101, 120, 116], (c == 6)), ([115, 101, 116], (c == 1))] (pps_cons pe_str (pe_isP (v := .ref (T.Cs.getD 6 0)) (cv := .ref (T.Cs.getD 6 0)) (T.er c hc).ex hz hv hp (pe_glob (v := .ref (T.Cs.getD 6 0)) rfl (T.gE 6 (by decide)) rfl) (fun _ h => h) (T.kt c 6 hc (by decide) (by decide)) rfl T.n_isinstance rfl (Or.inl rfl)) (pps_cons pe_str (pe_isP (v := .ref (T.Cs.getD 1 0)) (cv := .ref (T.Cs.getD 1 0)) (T.er c hc).ex hz hv hp (pe_glob (v := .ref (T.Cs.getD 1 0)) rfl (T.gE 1 (by decide)) rfl) (fun _ h => h) (T.kt c 1 hc (by decide) (by decide)) rfl T.n_isinstance rfl (Or.inl rfl)) pps_nil)) rfl rfl (by simp) (by decide) (Nat.le_of_ble_eq_true rfl))
    (dss_cons (ds_updB (i := 4) (j := 1) [([117, 110, 100, 111], (c == 8)), ([109, 97, 110, 121], (c == 7))] (pps_cons pe_str (pe_isP (v := .ref (T.Cs.getD 8 0)) (cv := .ref (T.Cs.getD 8 0)) (T.er c hc).ex hz hv hp (pe_glob (v := .ref (T.Cs.getD 8 0)) rfl (T.gE 8 (by decide)) rfl) (fun _ h => h) (T.kt c 8 hc (by decide) (by decide)) rfl T.n_isinstance rfl (Or.inl rfl)) (pps_cons pe_str (pe_isP (v := .ref (T.Cs.getD 7 0)) (cv := .ref (T.Cs.getD 7 0)) (T.er c hc).ex hz hv hp (pe_glob (v := .ref (T.Cs.getD 7 0)) rfl (T.gE 7 (by decide)) rfl) (fun _ h => h) (T.kt c 7 hc (by decide) (by decide)) rfl T.n_isinstance rfl (Or.inl rfl)) pps_nil)) rfl rfl (by simp) (by decide) (Nat.le_of_ble_eq_true rfl))
    (dss_lock 4 (dss_cons (ds_setLd (own := [("name", 6)]) (i := 5) rfl sc__law_result.nd rfl rfl (di_keys (i := 4)) (blkOk_by (N := ["call", "caught", "answer", "e", "some", "names", "name"]) (sc := defScope s__law_result) (by decide +kernel)) (fun _ _ _ _ _ => ((dg_name sc__law_result.nd rfl (Or.inl rfl))).pg) (tgok1 6) (fun _ _ _ _ _ => (dts_one (dt_val (de_dget (i := 4) (hu_of hr) (de_name 6))))) (fun _ _ _ _ _ => (de_name 6)) (by decide) (sw_true rfl rfl rfl rfl))
    (dss_one (ds_ret (de_if (DW.pt (dw_and (dt_cmp (od_eq hr.units) (DE.r (de_b1 c_len rfl T.n_len bt_len (DE.r (de_name 5)))) (DE.r de_int)) (dw_and1 (dt_val (de_isB (pe_isP (v := .ty "ValueError") (cv := .type "ValueError") (T.er c hc).ex hz hv hp (pe_bltn (v := .ty "ValueError") rfl T.n_ValueError (by decide +kernel) rfl (by decide) (by decide)) (fun _ h => h) (T.er c hc).ve rfl T.n_isinstance rfl (Or.inl rfl))))))) (de_tup (da_cons (de_ix (DE.r (de_name 5)) (DE.r de_int)) da_nil)) (de_tup (da_cons (de_str [111, 116, 104, 101, 114, 32, 101, 114, 114, 111, 114]) da_nil)))))))))))))
    (fun f g => rfl) (fun f d g => ⟨_, rfl⟩) (fun f b c g hc => resX_ev f b g c hc)
theorem sc_is_string_of : FnScope ["value", "most", "letter"] ["value", "most"] (defScope s_is_string_of) := ⟨rfl, rfl, rfl, by decide +kernel, rfl, by decide +kernel, by decide +kernel⟩
def F_is_string_of {G : Type} : SM G := (sRet (eAndM (e1 (isiD .str) (eV 0)) (eAndM (e3 leD leD (eC (.int 1)) (e1 lenD (eV 0)) (eV 1)) (e1 allD (eComp (iS (eV 0)) [2] (tg1 2) tYesM (e2 inD (eV 2) (eC (.str [97, 98, 99, 100]))))))))
def f_is_string_of {G : Type} : Fn G := fnD 3 F_is_string_of
theorem ok_is_string_of (T : Txt K mg) : FnOk P w K mg base (L2.CX P w) 1 T.f_is_string_of T.fd_is_string_of ["value", "most"] (spF (TZ K Vw (clsT T)) K 2 (f_is_string_of (G := (TZ K Vw (clsT T)).W.G))) :=
  fn_ok T.d_is_string_of.fn sc_is_string_of (by decide) fun cdv A outer s H E Ex hr =>
    (dss_one (ds_ret (de_and (de_isi .str rfl T.n_isinstance rfl T.n_str bt_str (DE.r (de_name 0))) (de_and (de_chain od_le od_le (DE.r de_int) (DE.r (de_b1 c_len rfl T.n_len bt_len (DE.r (de_name 0)))) (DE.r (de_name 1))) (de_one (de_b1 (c_all rfl) rfl T.n_all bt_all (DE.r (de_n (dn_comp (own := [("letter", 2)]) rfl sc_is_string_of.nd (di_str (de_name 0)) (blkOk_by (N := ["value", "most", "letter"]) (sc := defScope s_is_string_of) (by decide +kernel)) (fun _ _ _ _ _ => ((dg_name sc_is_string_of.nd rfl (Or.inl rfl))).pg) (tgok1 2) (fun _ _ _ _ _ => dts_nil) (fun _ _ _ _ _ => (de_cmp od_in (DE.r (de_name 2)) (DE.r (de_gstr [97, 98, 99, 100] rfl T.g_LETTERS ⟨_, rfl⟩)))) (by decide))))))))))
theorem sc_are_words : FnScope ["value", "one", "other"] ["value"] (defScope s_are_words) := ⟨rfl, rfl, rfl, by decide +kernel, rfl, by decide +kernel, by decide +kernel⟩
def F_are_words {G : Type} : SM G := (sSeq (sIf (tOrM (tNotM (tV (e1 (isiD .tuple) (eV 0)))) (tOrM (tNotM (tV (e3 leD leD (eC (.int 1)) (e1 lenD (eV 0)) (eC (.int 4))))) (tNotM (tV (e1 allD (eComp (iT (eV 0)) [1] (tg1 1) tYesM (callM f_is_string_of (aCons (eV 1) (aCons (eC (.int 4)) aNil))))))))) (sRet (eC (.bl false))) sSkip)
    (sRet (e1 allD (eComp (iZpT (eV 0) (eSl (eV 0) (oS (eC (.int 1))) oN)) [1, 2] (tg2 1 2) tYesM (e2 ltD (eV 1) (eV 2))))))
def f_are_words {G : Type} : Fn G := fnD 3 F_are_words
theorem ok_are_words (T : Txt K mg) : FnOk P w K mg base (L2.CX P w) 2 T.f_are_words T.fd_are_words ["value"] (spF (TZ K Vw (clsT T)) K 1 (f_are_words (G := (TZ K Vw (clsT T)).W.G))) :=
  fn_ok T.d_are_words.fn sc_are_words (by decide) fun cdv A outer s H E Ex hr =>
    (dss_cons (ds_if (DW.pt (dw_or (dt_not (dt_val (de_isi .tuple rfl T.n_isinstance rfl T.n_tuple bt_tuple (DE.r (de_name 0))))) (dw_or (dt_not (dt_chain od_le od_le (DE.r de_int) (DE.r (de_b1 c_len rfl T.n_len bt_len (DE.r (de_name 0)))) (DE.r de_int))) (dw_or1 (dt_not (dt_val (de_b1 (c_all rfl) rfl T.n_all bt_all (DE.r (de_n (dn_comp (own := [("one", 1)]) rfl sc_are_words.nd (di_tup (de_name 0)) (blkOk_by (N := ["value", "one", "other"]) (sc := defScope s_are_words) (by decide +kernel)) (fun _ _ _ _ _ => ((dg_name sc_are_words.nd rfl (Or.inl rfl))).pg) (tgok1 1) (fun _ _ _ _ _ => dts_nil) (fun _ _ _ _ _ => (de_call (ok_is_string_of T) (hr.mono (by decide)) rfl T.d_is_string_of.mgx T.d_is_string_of.kp T.b_is_string_of takes0 rfl (da_cons (de_name 1) (da_cons de_int da_nil)) (len_cons (len_cons len_nil)))) (by decide))))))))))) (dss_one (ds_ret de_bl)) dss_nil)
    (dss_one (ds_ret (de_b1 (c_all rfl) rfl T.n_all bt_all (DE.r (de_n (dn_comp (own := [("one", 1), ("other", 2)]) rfl sc_are_words.nd (di_zpT rfl T.n_zip (de_name 0) (de_slice (DE.r (de_name 0)) (do_some de_int) do_none)) (blkOk_by (N := ["value", "one", "other"]) (sc := defScope s_are_words) (by decide +kernel)) (fun _ _ _ _ _ => ((dg_tup2 rfl sc_are_words.nd rfl (Or.inl rfl) rfl (Or.inl rfl))).pg) (tgok2 1 2) (fun _ _ _ _ _ => dts_nil) (fun _ _ _ _ _ => (de_cmp od_lt (DE.r (de_name 1)) (DE.r (de_name 2)))) (by decide))))))))
theorem sc_parse_words : FnScope ["text", "words"] ["text"] (defScope s_parse_words) := ⟨rfl, rfl, rfl, by decide +kernel, rfl, by decide +kernel, by decide +kernel⟩
def F_parse_words {G : Type} : SM G := (sSeq (sIf (tNotM (tV (e1 (isiD .str) (eV 0)))) (sRaise 6) sSkip)
    (sSeq (sAsg 1 (xD (e1 tupD (eSplit (eV 0) (eC (.str [32]))))))
    (sSeq (sIf (tNotM (tV (callM f_are_words (aCons (eV 1) aNil)))) (sRaise 6) sSkip)
    (sRet (eV 1)))))
def f_parse_words {G : Type} : Fn G := fnD 2 F_parse_words
theorem ok_parse_words (T : Txt K mg) : FnOk P w K mg base (L2.CX P w) 3 T.f_parse_words T.fd_parse_words ["text"] (spF (TZ K Vw (clsT T)) K 1 (f_parse_words (G := (TZ K Vw (clsT T)).W.G))) :=
  fn_ok T.d_parse_words.fn sc_parse_words (by decide) fun cdv A outer s H E Ex hr =>
    (dss_cons (ds_if (dt_not (dt_val (de_isi .str rfl T.n_isinstance rfl T.n_str bt_str (DE.r (de_name 0))))) (dss_one (ds_raise 6 rfl rfl (takes_of rfl rfl rfl rfl) PySem.F.excBase_ValueError (T.er 6 (by decide)).q (T.gE 6 (by decide)) (T.er 6 (by decide)).kC (raises_own (T.er 6 (by decide)).exC (T.er 6 (by decide)).tyC) rfl)) dss_nil)
    (dss_cons (ds_set (i := 1) sc_parse_words.nd rfl (Or.inl rfl) (dx_e (de_t1 c_tuple rfl T.n_tuple bt_tuple (DE.r (de_split (de_name 0) (de_str [32]))))))
    (dss_cons (ds_if (dt_not (dt_val (de_call (ok_are_words T) (hr.mono (by decide)) rfl T.d_are_words.mgx T.d_are_words.kp T.b_are_words (takes_of rfl rfl rfl rfl) rfl (da_cons (de_name 1) da_nil) (len_cons len_nil)))) (dss_one (ds_raise 6 rfl rfl (takes_of rfl rfl rfl rfl) PySem.F.excBase_ValueError (T.er 6 (by decide)).q (T.gE 6 (by decide)) (T.er 6 (by decide)).kC (raises_own (T.er 6 (by decide)).exC (T.er 6 (by decide)).tyC) rfl)) dss_nil)
    (dss_one (ds_ret (de_name 1))))))
theorem sc_check_words : FnScope ["words"] ["words"] (defScope s_check_words) := ⟨rfl, rfl, rfl, by decide +kernel, rfl, by decide +kernel, by decide +kernel⟩
def F_check_words {G : Type} : SM G := (sIf (tNotM (tV (callM f_are_words (aCons (eV 0) aNil)))) (sRaise 1) sSkip)
def f_check_words {G : Type} : Fn G := fnD 1 F_check_words
theorem ok_check_words (T : Txt K mg) : FnOk P w K mg base (L2.CX P w) 3 T.f_check_words T.fd_check_words ["words"] (spF (TZ K Vw (clsT T)) K 1 (f_check_words (G := (TZ K Vw (clsT T)).W.G))) :=
  fn_ok T.d_check_words.fn sc_check_words (by decide) fun cdv A outer s H E Ex hr =>
    (dss_one (ds_if (dt_not (dt_val (de_call (ok_are_words T) (hr.mono (by decide)) rfl T.d_are_words.mgx T.d_are_words.kp T.b_are_words (takes_of rfl rfl rfl rfl) rfl (da_cons (de_name 0) da_nil) (len_cons len_nil)))) (dss_one (ds_raise 1 rfl rfl (takes_of rfl rfl rfl rfl) PySem.F.excBase_ValueError (T.er 1 (by decide)).q (T.gE 1 (by decide)) (T.er 1 (by decide)).kC (raises_own (T.er 1 (by decide)).exC (T.er 1 (by decide)).tyC) rfl)) dss_nil))
theorem sc_is_between : FnScope ["value", "low", "high"] ["value", "low", "high"] (defScope s_is_between) := ⟨rfl, rfl, rfl, by decide +kernel, rfl, by decide +kernel, by decide +kernel⟩
def F_is_between {G : Type} : SM G := (sRet (eAndM (e1 (isiD .int) (eV 0)) (eAndM (eNotM (e1 (isiD .bool) (eV 0))) (e3 leD leD (eV 1) (eV 0) (eV 2)))))
def f_is_between {G : Type} : Fn G := fnD 3 F_is_between
theorem ok_is_between (T : Txt K mg) : FnOk P w K mg base (L2.CX P w) 1 T.f_is_between T.fd_is_between ["value", "low", "high"] (spF (TZ K Vw (clsT T)) K 3 (f_is_between (G := (TZ K Vw (clsT T)).W.G))) :=
  fn_ok T.d_is_between.fn sc_is_between (by decide) fun cdv A outer s H E Ex hr =>
    (dss_one (ds_ret (de_and (de_isi .int rfl T.n_isinstance rfl T.n_int bt_int (DE.r (de_name 0))) (de_and (de_not (de_isi .bool rfl T.n_isinstance rfl T.n_bool bt_bool (DE.r (de_name 0)))) (de_one (de_chain od_le od_le (DE.r (de_name 1)) (DE.r (de_name 0)) (DE.r (de_name 2))))))))
theorem sc_check_boxes : FnScope ["boxes"] ["boxes"] (defScope s_check_boxes) := ⟨rfl, rfl, rfl, by decide +kernel, rfl, by decide +kernel, by decide +kernel⟩
def F_check_boxes {G : Type} : SM G := (sIf (tNotM (tV (callM f_is_between (aCons (eV 0) (aCons (eC (.int 1)) (aCons (eC (.int 8)) aNil)))))) (sRaise 2) sSkip)
def f_check_boxes {G : Type} : Fn G := fnD 1 F_check_boxes
theorem ok_check_boxes (T : Txt K mg) : FnOk P w K mg base (L2.CX P w) 2 T.f_check_boxes T.fd_check_boxes ["boxes"] (spF (TZ K Vw (clsT T)) K 1 (f_check_boxes (G := (TZ K Vw (clsT T)).W.G))) :=
  fn_ok T.d_check_boxes.fn sc_check_boxes (by decide) fun cdv A outer s H E Ex hr =>
    (dss_one (ds_if (dt_not (dt_val (de_call (ok_is_between T) (hr.mono (by decide)) rfl T.d_is_between.mgx T.d_is_between.kp T.b_is_between (takes_of rfl rfl rfl rfl) rfl (da_cons (de_name 0) (da_cons de_int (da_cons de_int da_nil))) (len_cons (len_cons (len_cons len_nil)))))) (dss_one (ds_raise 2 rfl rfl (takes_of rfl rfl rfl rfl) PySem.F.excBase_ValueError (T.er 2 (by decide)).q (T.gE 2 (by decide)) (T.er 2 (by decide)).kC (raises_own (T.er 2 (by decide)).exC (T.er 2 (by decide)).tyC) rfl)) dss_nil))
theorem sc_check_both : FnScope ["words", "boxes"] ["words", "boxes"] (defScope s_check_both) := ⟨rfl, rfl, rfl, by decide +kernel, rfl, by decide +kernel, by decide +kernel⟩
def F_check_both {G : Type} : SM G := (sSeq (sDrop (callM f_check_words (aCons (eV 0) aNil)))
    (sDrop (callM f_check_boxes (aCons (eV 1) aNil))))
def f_check_both {G : Type} : Fn G := fnD 2 F_check_both
theorem ok_check_both (T : Txt K mg) : FnOk P w K mg base (L2.CX P w) 4 T.f_check_both T.fd_check_both ["words", "boxes"] (spF (TZ K Vw (clsT T)) K 2 (f_check_both (G := (TZ K Vw (clsT T)).W.G))) :=
  fn_ok T.d_check_both.fn sc_check_both (by decide) fun cdv A outer s H E Ex hr =>
    (dss_cons (ds_drop (de_call (ok_check_words T) (hr.mono (by decide)) rfl T.d_check_words.mgx T.d_check_words.kp T.b_check_words (takes_of rfl rfl rfl rfl) rfl (da_cons (de_name 0) da_nil) (len_cons len_nil)))
    (dss_one (ds_drop (de_call (ok_check_boxes T) (hr.mono (by decide)) rfl T.d_check_boxes.mgx T.d_check_boxes.kp T.b_check_boxes (takes_of rfl rfl rfl rfl) rfl (da_cons (de_name 1) da_nil) (len_cons len_nil)))))
theorem sc_is_stamp : FnScope ["words", "boxes", "value"] ["words", "boxes", "value"] (defScope s_is_stamp) := ⟨rfl, rfl, rfl, by decide +kernel, rfl, by decide +kernel, by decide +kernel⟩
def F_is_stamp {G : Type} : SM G := (sSeq (sIf (tOrM (tNotM (tV (e1 (isiD .tuple) (eV 2)))) (tOrM (tV (e2 neD (e1 lenD (eV 2)) (eC (.int 2)))) (tNotM (tV (callM f_is_between (aCons (e2 ixD (eV 2) (eC (.int 0))) (aCons (eC (.int 0)) (aCons (e2 subD (e1 lenD (eV 0)) (eC (.int 1))) aNil)))))))) (sRet (eC (.bl false))) sSkip)
    (sRet (callM f_is_between (aCons (e2 ixD (eV 2) (eC (.int 1))) (aCons (eC (.int 0)) (aCons (e2 subD (eV 1) (e1 lenD (e2 ixD (eV 0) (e2 ixD (eV 2) (eC (.int 0)))))) aNil))))))
def f_is_stamp {G : Type} : Fn G := fnD 3 F_is_stamp
theorem ok_is_stamp (T : Txt K mg) : FnOk P w K mg base (L2.CX P w) 2 T.f_is_stamp T.fd_is_stamp ["words", "boxes", "value"] (spF (TZ K Vw (clsT T)) K 3 (f_is_stamp (G := (TZ K Vw (clsT T)).W.G))) :=
  fn_ok T.d_is_stamp.fn sc_is_stamp (by decide) fun cdv A outer s H E Ex hr =>
    (dss_cons (ds_if (DW.pt (dw_or (dt_not (dt_val (de_isi .tuple rfl T.n_isinstance rfl T.n_tuple bt_tuple (DE.r (de_name 2))))) (dw_or (dt_cmp (od_ne hr.units) (DE.r (de_b1 c_len rfl T.n_len bt_len (DE.r (de_name 2)))) (DE.r de_int)) (dw_or1 (dt_not (dt_val (de_call (ok_is_between T) (hr.mono (by decide)) rfl T.d_is_between.mgx T.d_is_between.kp T.b_is_between (takes_of rfl rfl rfl rfl) rfl (da_cons (de_ix (DE.r (de_name 2)) (DE.r de_int)) (da_cons de_int (da_cons (de_op od_sub (DE.r (de_b1 c_len rfl T.n_len bt_len (DE.r (de_name 0)))) (DE.r de_int)) da_nil))) (len_cons (len_cons (len_cons len_nil)))))))))) (dss_one (ds_ret de_bl)) dss_nil)
    (dss_one (ds_ret (de_call (ok_is_between T) (hr.mono (by decide)) rfl T.d_is_between.mgx T.d_is_between.kp T.b_is_between (takes_of rfl rfl rfl rfl) rfl (da_cons (de_ix (DE.r (de_name 2)) (DE.r de_int)) (da_cons de_int (da_cons (de_op od_sub (DE.r (de_name 1)) (DE.r (de_b1 c_len rfl T.n_len bt_len (DE.r (de_ix (DE.r (de_name 0)) (DE.r (de_ix (DE.r (de_name 2)) (DE.r de_int)))))))) da_nil))) (len_cons (len_cons (len_cons len_nil)))))))
theorem sc_are_stamps_on : FnScope ["words", "boxes", "value", "one"] ["words", "boxes", "value"] (defScope s_are_stamps_on) := ⟨rfl, rfl, rfl, by decide +kernel, rfl, by decide +kernel, by decide +kernel⟩
def F_are_stamps_on {G : Type} : SM G := (sSeq (sIf (tOrM (tNotM (tV (e1 (isiD .tuple) (eV 2)))) (tV (e2 gtD (e1 lenD (eV 2)) (eC (.int 12))))) (sRet (eC (.bl false))) sSkip)
    (sRet (e1 allD (eComp (iT (eV 2)) [3] (tg1 3) tYesM (callM f_is_stamp (aCons (eV 0) (aCons (eV 1) (aCons (eV 3) aNil))))))))
def f_are_stamps_on {G : Type} : Fn G := fnD 4 F_are_stamps_on
theorem ok_are_stamps_on (T : Txt K mg) : FnOk P w K mg base (L2.CX P w) 3 T.f_are_stamps_on T.fd_are_stamps_on ["words", "boxes", "value"] (spF (TZ K Vw (clsT T)) K 3 (f_are_stamps_on (G := (TZ K Vw (clsT T)).W.G))) :=
  fn_ok T.d_are_stamps_on.fn sc_are_stamps_on (by decide) fun cdv A outer s H E Ex hr =>
    (dss_cons (ds_if (DW.pt (dw_or (dt_not (dt_val (de_isi .tuple rfl T.n_isinstance rfl T.n_tuple bt_tuple (DE.r (de_name 2))))) (dw_or1 (dt_cmp od_gt (DE.r (de_b1 c_len rfl T.n_len bt_len (DE.r (de_name 2)))) (DE.r de_int))))) (dss_one (ds_ret de_bl)) dss_nil)
    (dss_one (ds_ret (de_b1 (c_all rfl) rfl T.n_all bt_all (DE.r (de_n (dn_comp (own := [("one", 3)]) rfl sc_are_stamps_on.nd (di_tup (de_name 2)) (blkOk_by (N := ["words", "boxes", "value", "one"]) (sc := defScope s_are_stamps_on) (by decide +kernel)) (fun _ _ _ _ _ => ((dg_name sc_are_stamps_on.nd rfl (Or.inl rfl))).pg) (tgok1 3) (fun _ _ _ _ _ => dts_nil) (fun _ _ _ _ _ => (de_call (ok_is_stamp T) (hr.mono (by decide)) rfl T.d_is_stamp.mgx T.d_is_stamp.kp T.b_is_stamp takes0 rfl (da_cons (de_name 0) (da_cons (de_name 1) (da_cons (de_name 3) da_nil))) (len_cons (len_cons (len_cons len_nil))))) (by decide))))))))
theorem sc_read_stamp : FnScope ["words", "text", "parts"] ["words", "text"] (defScope s_read_stamp) := ⟨rfl, rfl, rfl, by decide +kernel, rfl, by decide +kernel, by decide +kernel⟩
def F_read_stamp {G : Type} : SM G := (sSeq (sAsg 2 (xD (eSplit (eV 1) (eC (.str [64])))))
    (sSeq (sIf (tOrM (tV (e2 neD (e1 lenD (eV 2)) (eC (.int 2)))) (tOrM (tV (e2 ninD (e2 ixD (eV 2) (eC (.int 0))) (e1 wkD (eV 0)))) (tOrM (tV (e2 neD (e1 lenD (e2 ixD (eV 2) (eC (.int 1)))) (eC (.int 1)))) (tV (e2 ninD (e2 ixD (eV 2) (eC (.int 1))) (eC (.str [48, 49, 50, 51, 52, 53, 54, 55]))))))) (sRaise 6) sSkip)
    (sRet (eTup (aCons (eIdxF 0 (e2 ixD (eV 2) (eC (.int 0)))) (aCons (e1 intSD (e2 ixD (eV 2) (eC (.int 1)))) aNil))))))
def f_read_stamp {G : Type} : Fn G := fnD 3 F_read_stamp
theorem ok_read_stamp (T : Txt K mg) : FnOk P w K mg base (L2.CX P w) 1 T.f_read_stamp T.fd_read_stamp ["words", "text"] (spF (TZ K Vw (clsT T)) K 2 (f_read_stamp (G := (TZ K Vw (clsT T)).W.G))) :=
  fn_ok T.d_read_stamp.fn sc_read_stamp (by decide) fun cdv A outer s H E Ex hr =>
    (dss_cons (ds_set (i := 2) sc_read_stamp.nd rfl (Or.inl rfl) (dx_e (de_split (de_name 1) (de_str [64]))))
    (dss_cons (ds_if (DW.pt (dw_or (dt_cmp (od_ne hr.units) (DE.r (de_b1 c_len rfl T.n_len bt_len (DE.r (de_name 2)))) (DE.r de_int)) (dw_or (dt_cmp od_nin (DE.r (de_ix (DE.r (de_name 2)) (DE.r de_int))) (DE.r (de_wk (de_name 0)))) (dw_or (dt_cmp (od_ne hr.units) (DE.r (de_b1 c_len rfl T.n_len bt_len (DE.r (de_ix (DE.r (de_name 2)) (DE.r de_int))))) (DE.r de_int)) (dw_or1 (dt_cmp od_nin (DE.r (de_ix (DE.r (de_name 2)) (DE.r de_int))) (DE.r (de_str [48, 49, 50, 51, 52, 53, 54, 55])))))))) (dss_one (ds_raise 6 rfl rfl (takes_of rfl rfl rfl rfl) PySem.F.excBase_ValueError (T.er 6 (by decide)).q (T.gE 6 (by decide)) (T.er 6 (by decide)).kC (raises_own (T.er 6 (by decide)).exC (T.er 6 (by decide)).tyC) rfl)) dss_nil)
    (dss_one (ds_ret (de_tup (da_cons (de_idxF (i := 0) (de_ix (DE.r (de_name 2)) (DE.r de_int))) (da_cons (de_t1 c_intS rfl T.n_int bt_int (DE.r (de_ix (DE.r (de_name 2)) (DE.r de_int)))) da_nil)))))))
theorem sc_parse_stamps : FnScope ["words", "boxes", "text", "stamps", "part"] ["words", "boxes", "text"] (defScope s_parse_stamps) := ⟨rfl, rfl, rfl, by decide +kernel, rfl, by decide +kernel, by decide +kernel⟩
def F_parse_stamps {G : Type} : SM G := (sSeq (sDrop (callM f_check_both (aCons (e1 wkD (eV 0)) (aCons (eV 1) aNil))))
    (sSeq (sIf (tNotM (tV (e1 (isiD .str) (eV 2)))) (sRaise 6) sSkip)
    (sSeq (sAsg 3 (xD (eIfM (tV (e2 neD (eV 2) (eC (.str [45])))) (e1 tupD (eCompX (iL (eSplit (eV 2) (eC (.str [32])))) [4] (tg1 4) (callM f_read_stamp (aCons (eV 0) (aCons (eV 4) aNil))))) (eTup aNil))))
    (sSeq (sIf (tNotM (tV (callM f_are_stamps_on (aCons (e1 wkD (eV 0)) (aCons (eV 1) (aCons (eV 3) aNil)))))) (sRaise 6) sSkip)
    (sRet (eV 3))))))
def f_parse_stamps {G : Type} : Fn G := fnD 5 F_parse_stamps
theorem ok_parse_stamps (T : Txt K mg) : FnOk P w K mg base (L2.CX P w) 5 T.f_parse_stamps T.fd_parse_stamps ["words", "boxes", "text"] (spF (TZ K Vw (clsT T)) K 3 (f_parse_stamps (G := (TZ K Vw (clsT T)).W.G))) :=
  fn_ok T.d_parse_stamps.fn sc_parse_stamps (by decide) fun cdv A outer s H E Ex hr =>
    (dss_cons (ds_drop (de_call (ok_check_both T) (hr.mono (by decide)) rfl T.d_check_both.mgx T.d_check_both.kp T.b_check_both (takes_of rfl rfl rfl rfl) rfl (da_cons (de_wk (de_name 0)) (da_cons (de_name 1) da_nil)) (len_cons (len_cons len_nil))))
    (dss_cons (ds_if (dt_not (dt_val (de_isi .str rfl T.n_isinstance rfl T.n_str bt_str (DE.r (de_name 2))))) (dss_one (ds_raise 6 rfl rfl (takes_of rfl rfl rfl rfl) PySem.F.excBase_ValueError (T.er 6 (by decide)).q (T.gE 6 (by decide)) (T.er 6 (by decide)).kC (raises_own (T.er 6 (by decide)).exC (T.er 6 (by decide)).tyC) rfl)) dss_nil)
    (dss_cons (ds_set (i := 3) sc_parse_stamps.nd rfl (Or.inl rfl) (dx_e (de_if (dt_cmp (od_ne hr.units) (DE.r (de_name 2)) (DE.r (de_str [45]))) (de_t1 c_tuple rfl T.n_tuple bt_tuple (DE.r (de_n (dn_compX (own := [("part", 4)]) (takes_of rfl rfl rfl rfl) rfl rfl rfl sc_parse_stamps.nd (di_list (de_split (de_name 2) (de_str [32]))) (blkOk_by (N := ["words", "boxes", "text", "stamps", "part"]) (sc := defScope s_parse_stamps) (by decide +kernel)) (fun _ _ _ _ _ => ((dg_name sc_parse_stamps.nd rfl (Or.inl rfl))).pg) (tgok1 4) (fun _ _ _ _ _ => (de_callP (ok_read_stamp T) (hr.mono (by decide)) rfl T.d_read_stamp.mgx T.d_read_stamp.kp T.b_read_stamp (fun σ => pass_blk σ) rfl (da_cons (de_name 0) (da_cons (de_name 4) da_nil)) (len_cons (len_cons len_nil)))) (by decide))))) (de_tup da_nil))))
    (dss_cons (ds_if (dt_not (dt_val (de_call (ok_are_stamps_on T) (hr.mono (by decide)) rfl T.d_are_stamps_on.mgx T.d_are_stamps_on.kp T.b_are_stamps_on (takes_of rfl rfl rfl rfl) rfl (da_cons (de_wk (de_name 0)) (da_cons (de_name 1) (da_cons (de_name 3) da_nil))) (len_cons (len_cons (len_cons len_nil)))))) (dss_one (ds_raise 6 rfl rfl (takes_of rfl rfl rfl rfl) PySem.F.excBase_ValueError (T.er 6 (by decide)).q (T.gE 6 (by decide)) (T.er 6 (by decide)).kC (raises_own (T.er 6 (by decide)).exC (T.er 6 (by decide)).tyC) rfl)) dss_nil)
    (dss_one (ds_ret (de_name 3)))))))
theorem sc_format_words : FnScope ["words"] ["words"] (defScope s_format_words) := ⟨rfl, rfl, rfl, by decide +kernel, rfl, by decide +kernel, by decide +kernel⟩
def F_format_words {G : Type} : SM G := (sSeq (sDrop (callM f_check_words (aCons (eV 0) aNil)))
    (sRet (eJoin (eC (.str [32])) (eV 0))))
def f_format_words {G : Type} : Fn G := fnD 1 F_format_words
theorem ok_format_words (T : Txt K mg) : FnOk P w K mg base (L2.CX P w) 4 T.f_format_words T.fd_format_words ["words"] (spF (TZ K Vw (clsT T)) K 1 (f_format_words (G := (TZ K Vw (clsT T)).W.G))) :=
  fn_ok T.d_format_words.fn sc_format_words (by decide) fun cdv A outer s H E Ex hr =>
    (dss_cons (ds_drop (de_call (ok_check_words T) (hr.mono (by decide)) rfl T.d_check_words.mgx T.d_check_words.kp T.b_check_words (takes_of rfl rfl rfl rfl) rfl (da_cons (de_name 0) da_nil) (len_cons len_nil)))
    (dss_one (ds_ret (de_join (de_str [32]) (DE.r (de_name 0))))))
theorem sc_check_stamps : FnScope ["words", "boxes", "stamps"] ["words", "boxes", "stamps"] (defScope s_check_stamps) := ⟨rfl, rfl, rfl, by decide +kernel, rfl, by decide +kernel, by decide +kernel⟩
def F_check_stamps {G : Type} : SM G := (sSeq (sDrop (callM f_check_both (aCons (eV 0) (aCons (eV 1) aNil))))
    (sIf (tNotM (tV (callM f_are_stamps_on (aCons (eV 0) (aCons (eV 1) (aCons (eV 2) aNil)))))) (sRaise 3) sSkip))
def f_check_stamps {G : Type} : Fn G := fnD 3 F_check_stamps
theorem ok_check_stamps (T : Txt K mg) : FnOk P w K mg base (L2.CX P w) 5 T.f_check_stamps T.fd_check_stamps ["words", "boxes", "stamps"] (spF (TZ K Vw (clsT T)) K 3 (f_check_stamps (G := (TZ K Vw (clsT T)).W.G))) :=
  fn_ok T.d_check_stamps.fn sc_check_stamps (by decide) fun cdv A outer s H E Ex hr =>
    (dss_cons (ds_drop (de_call (ok_check_both T) (hr.mono (by decide)) rfl T.d_check_both.mgx T.d_check_both.kp T.b_check_both (takes_of rfl rfl rfl rfl) rfl (da_cons (de_name 0) (da_cons (de_name 1) da_nil)) (len_cons (len_cons len_nil))))
    (dss_one (ds_if (dt_not (dt_val (de_call (ok_are_stamps_on T) (hr.mono (by decide)) rfl T.d_are_stamps_on.mgx T.d_are_stamps_on.kp T.b_are_stamps_on (takes_of rfl rfl rfl rfl) rfl (da_cons (de_name 0) (da_cons (de_name 1) (da_cons (de_name 2) da_nil))) (len_cons (len_cons (len_cons len_nil)))))) (dss_one (ds_raise 3 rfl rfl (takes_of rfl rfl rfl rfl) PySem.F.excBase_ValueError (T.er 3 (by decide)).q (T.gE 3 (by decide)) (T.er 3 (by decide)).kC (raises_own (T.er 3 (by decide)).exC (T.er 3 (by decide)).tyC) rfl)) dss_nil)))
theorem sc_stamps_text : FnScope ["words", "stamps", "number", "place"] ["words", "stamps"] (defScope s_stamps_text) := ⟨rfl, rfl, rfl, by decide +kernel, rfl, by decide +kernel, by decide +kernel⟩
def F_stamps_text {G : Type} : SM G := (sRet (eIfM (tV (e2 neD (eV 1) (eTup aNil))) (eJoin (eC (.str [32])) (eComp (iT (eV 1)) [2, 3] (tg2 2 3) tYesM (eFs [64] (e2 ixD (eV 0) (eV 2)) (eV 3)))) (eC (.str [45]))))
def f_stamps_text {G : Type} : Fn G := fnD 4 F_stamps_text
theorem ok_stamps_text (T : Txt K mg) : FnOk P w K mg base (L2.CX P w) 1 T.f_stamps_text T.fd_stamps_text ["words", "stamps"] (spF (TZ K Vw (clsT T)) K 2 (f_stamps_text (G := (TZ K Vw (clsT T)).W.G))) :=
  fn_ok T.d_stamps_text.fn sc_stamps_text (by decide) fun cdv A outer s H E Ex hr =>
    (dss_one (ds_ret (de_if (dt_cmp (od_ne hr.units) (DE.r (de_name 1)) (DE.r (de_tup da_nil))) (de_join (de_str [32]) (DE.r (de_n (dn_comp (own := [("number", 2), ("place", 3)]) rfl sc_stamps_text.nd (di_tup (de_name 1)) (blkOk_by (N := ["words", "stamps", "number", "place"]) (sc := defScope s_stamps_text) (by decide +kernel)) (fun _ _ _ _ _ => ((dg_tup2 rfl sc_stamps_text.nd rfl (Or.inl rfl) rfl (Or.inl rfl))).pg) (tgok2 2 3) (fun _ _ _ _ _ => dts_nil) (fun _ _ _ _ _ => (de_fs [64] (de_ix (DE.r (de_name 0)) (DE.r (de_name 2))) (de_name 3))) (by decide))))) (de_str [45]))))
theorem sc_format_stamps : FnScope ["words", "boxes", "stamps"] ["words", "boxes", "stamps"] (defScope s_format_stamps) := ⟨rfl, rfl, rfl, by decide +kernel, rfl, by decide +kernel, by decide +kernel⟩
def F_format_stamps {G : Type} : SM G := (sSeq (sDrop (callM f_check_stamps (aCons (eV 0) (aCons (eV 1) (aCons (eV 2) aNil)))))
    (sRet (callM f_stamps_text (aCons (eV 0) (aCons (eV 2) aNil)))))
def f_format_stamps {G : Type} : Fn G := fnD 3 F_format_stamps
theorem ok_format_stamps (T : Txt K mg) : FnOk P w K mg base (L2.CX P w) 6 T.f_format_stamps T.fd_format_stamps ["words", "boxes", "stamps"] (spF (TZ K Vw (clsT T)) K 3 (f_format_stamps (G := (TZ K Vw (clsT T)).W.G))) :=
  fn_ok T.d_format_stamps.fn sc_format_stamps (by decide) fun cdv A outer s H E Ex hr =>
    (dss_cons (ds_drop (de_call (ok_check_stamps T) (hr.mono (by decide)) rfl T.d_check_stamps.mgx T.d_check_stamps.kp T.b_check_stamps (takes_of rfl rfl rfl rfl) rfl (da_cons (de_name 0) (da_cons (de_name 1) (da_cons (de_name 2) da_nil))) (len_cons (len_cons (len_cons len_nil)))))
    (dss_one (ds_ret (de_call (ok_stamps_text T) (hr.mono (by decide)) rfl T.d_stamps_text.mgx T.d_stamps_text.kp T.b_stamps_text (takes_of rfl rfl rfl rfl) rfl (da_cons (de_name 0) (da_cons (de_name 2) da_nil)) (len_cons (len_cons len_nil))))))
theorem sc__law_by_hand : FnScope ["odd", "some"] [] (defScope s__law_by_hand) := ⟨rfl, rfl, rfl, by decide +kernel, rfl, by decide +kernel, by decide +kernel⟩
def F__law_by_hand : SM (Tw × Unit) := (sSeq (sFor (iT (eTup (aCons (eC (.str [])) (aCons (eC (.str [32])) (aCons (eC (.str [98, 32, 97])) (aCons (eC (.str [97, 32, 97])) (aCons (eC (.str [97, 32, 32, 98])) (aCons (eC (.str [97, 32, 98, 32])) (aCons (eC (.str [101])) (aCons (eC (.str [97, 98, 99, 100, 97])) (aCons (eC (.str [97, 44, 98])) (aCons (eC (.str [65])) (aCons (eC (.str [97, 32, 98, 32, 99, 32, 100, 32, 100, 97])) (aCons (eC .non) (aCons (eTup (aCons (eC (.str [97])) aNil)) (aCons (eC (.int 0)) aNil)))))))))))))))) (tg1 0) [0] (sIf (tV (e2 neD (eRes 9 errN (callM f_parse_words (aCons (eV 0) aNil))) (eTup (aCons (eC (.str [116, 101, 120, 116])) aNil)))) (sRet (eC (.bl false))) sSkip))
    (sSeq (sAsg 1 (xD (eTupF (aCons (eC (.str [97, 98])) (aCons (eC (.str [99])) aNil)))))
    (sSeq (sFor (iT (eTup (aCons (eC (.str [])) (aCons (eC (.str [97, 98, 64, 52])) (aCons (eC (.str [97, 98, 64, 45, 49])) (aCons (eC (.str [97, 98, 64])) (aCons (eC (.str [64, 48])) (aCons (eC (.str [97, 64, 48])) (aCons (eC (.str [97, 98, 64, 48, 48])) (aCons (eC (.str [97, 98, 64, 48, 32])) (aCons (eC (.str [97, 98, 64, 48, 32, 32, 99, 64, 49])) aNil))))))))))) (tg1 0) [0] (sIf (tV (e2 neD (eRes 9 errN (callM f_parse_stamps (aCons (eV 1) (aCons (eC (.int 5)) (aCons (eV 0) aNil))))) (eTup (aCons (eC (.str [116, 101, 120, 116])) aNil)))) (sRet (eC (.bl false))) sSkip))
    (sSeq (sFor (iT (eTup (aCons (eC (.str [99, 64, 53])) (aCons (eC (.str [99, 64, 49, 64, 49])) (aCons (eC (.str [97, 98, 32, 48])) (aCons (eC (.str [45, 45])) (aCons (eC .non) (aCons (eTup aNil) aNil)))))))) (tg1 0) [0] (sIf (tV (e2 neD (eRes 9 errN (callM f_parse_stamps (aCons (eV 1) (aCons (eC (.int 5)) (aCons (eV 0) aNil))))) (eTup (aCons (eC (.str [116, 101, 120, 116])) aNil)))) (sRet (eC (.bl false))) sSkip))
    (sSeq (sIf (tV (e2 neD (eRes 9 errN (callM f_parse_stamps (aCons (eV 1) (aCons (eC (.int 5)) (aCons (eJoin (eC (.str [32])) (e2 repD (eLst (aCons (eC (.str [99, 64, 48])) aNil)) (eC (.int 13)))) aNil))))) (eTup (aCons (eC (.str [116, 101, 120, 116])) aNil)))) (sRet (eC (.bl false))) sSkip)
    (sSeq (sIf (tV (e2 neD (eRes 9 errN (callM f_parse_stamps (aCons (eTup aNil) (aCons (eC (.int 0)) (aCons (eC .non) aNil))))) (eTup (aCons (eC (.str [115, 101, 116])) aNil)))) (sRet (eC (.bl false))) sSkip)
    (sSeq (sIf (tV (e2 neD (eRes 9 errN (callM f_parse_stamps (aCons (eV 1) (aCons (eC (.int 0)) (aCons (eC .non) aNil))))) (eTup (aCons (eC (.str [98, 111, 120, 101, 115])) aNil)))) (sRet (eC (.bl false))) sSkip)
    (sSeq (sIf (tOrM (tV (e2 neD (callM f_parse_stamps (aCons (eV 1) (aCons (eC (.int 5)) (aCons (eC (.str [97, 98, 64, 51, 32, 99, 64, 52, 32, 97, 98, 64, 48])) aNil)))) (eTup (aCons (eTup (aCons (eC (.int 0)) (aCons (eC (.int 3)) aNil))) (aCons (eTup (aCons (eC (.int 1)) (aCons (eC (.int 4)) aNil))) (aCons (eTup (aCons (eC (.int 0)) (aCons (eC (.int 0)) aNil))) aNil)))))) (tV (e2 neD (callM f_parse_stamps (aCons (eV 1) (aCons (eC (.int 1)) (aCons (eC (.str [45])) aNil)))) (eTup aNil)))) (sRet (eC (.bl false))) sSkip)
    (sSeq (sIf (tV (e2 neD (callM f_parse_words (aCons (eC (.str [97, 32, 97, 98, 99, 100, 32, 100])) aNil)) (eTup (aCons (eC (.str [97])) (aCons (eC (.str [97, 98, 99, 100])) (aCons (eC (.str [100])) aNil)))))) (sRet (eC (.bl false))) sSkip)
    (sRet (eAndM (e2 eqD (callM f_format_words (aCons (eTup (aCons (eC (.str [98])) aNil)) aNil)) (eC (.str [98]))) (e2 eqD (callM f_format_stamps (aCons (eTup (aCons (eC (.str [98])) aNil)) (aCons (eC (.int 1)) (aCons (eTup aNil) aNil)))) (eC (.str [45]))))))))))))))
def f__law_by_hand : Fn (Tw × Unit) := fnD 2 F__law_by_hand
theorem ok__law_by_hand (T : Txt K mg) (TB : TabsB T base) : FnOk P w K mg base (L2.CX P w) 9 T.f__law_by_hand (fl__law_by_hand T) [] (spF (TZ K (VwX (tabs T) W0d) (clsT T)) K 0 f__law_by_hand) :=
  fn_okC T.lk__law_by_hand T.hcd__law_by_hand sc__law_by_hand (by decide) fun A outer s H E Ex hr =>
    (dss_cons (ds_for (passes_of rfl) rfl (di_tup (de_tup (da_cons (de_str []) (da_cons (de_str [32]) (da_cons (de_str [98, 32, 97]) (da_cons (de_str [97, 32, 97]) (da_cons (de_str [97, 32, 32, 98]) (da_cons (de_str [97, 32, 98, 32]) (da_cons (de_str [101]) (da_cons (de_str [97, 98, 99, 100, 97]) (da_cons (de_str [97, 44, 98]) (da_cons (de_str [65]) (da_cons (de_str [97, 32, 98, 32, 99, 32, 100, 32, 100, 97]) (da_cons de_non (da_cons (de_tup (da_cons (de_str [97]) da_nil)) (da_cons de_int da_nil)))))))))))))))) (dg_name sc__law_by_hand.nd rfl (Or.inr rfl)) (dss_one (ds_if (dt_cmp (od_ne hr.units) (DE.r (de_resF (X := (cxOf (L2.CX P w) P w K mg base ["odd", "some"] "_law_by_hand" (defScope s__law_by_hand) T.f__law_by_hand (.ref T.c__law_by_hand) A outer s H Ex)) (k := 6) (OT__law_by_hand T) T.d__law_result.fn rfl T.d__law_result.mgx T.d__law_result.kp T.b__law_result sc__law_result rfl (Or.inl rfl) (fun cdv => gives__law_result (X := (cxOf (L2.CX P w) P w K mg base ["odd", "some"] "_law_by_hand" (defScope s__law_by_hand) T.f__law_by_hand (.ref T.c__law_by_hand) A outer s H Ex)) (Z := TZ K (VwX (tabs T) W0d) (clsT T)) T (fun _ => rfl) _ cdv) TB.b__law_by_hand rfl (hr.mono (by decide)) (LamX.lamS_by rfl) rfl (by intros; rfl) (fun A outer s H Ex f c' hr => by exact (de_call (ok_parse_words T) (hr.mono (by decide)) rfl T.d_parse_words.mgx T.d_parse_words.kp T.b_parse_words (takes_of rfl rfl rfl rfl) rfl (da_cons (de_name 0) da_nil) (len_cons len_nil))))) (DE.r (de_tup (da_cons (de_str [116, 101, 120, 116]) da_nil)))) (dss_one (ds_ret de_bl)) dss_nil)))
    (dss_cons (ds_set (i := 1) sc__law_by_hand.nd rfl (Or.inr rfl) (dx_e (de_tupFd (da_cons (de_str [97, 98]) (da_cons (de_str [99]) da_nil)))))
    (dss_cons (ds_for (passes_of rfl) rfl (di_tup (de_tup (da_cons (de_str []) (da_cons (de_str [97, 98, 64, 52]) (da_cons (de_str [97, 98, 64, 45, 49]) (da_cons (de_str [97, 98, 64]) (da_cons (de_str [64, 48]) (da_cons (de_str [97, 64, 48]) (da_cons (de_str [97, 98, 64, 48, 48]) (da_cons (de_str [97, 98, 64, 48, 32]) (da_cons (de_str [97, 98, 64, 48, 32, 32, 99, 64, 49]) da_nil))))))))))) (dg_name sc__law_by_hand.nd rfl (Or.inr rfl)) (dss_one (ds_if (dt_cmp (od_ne hr.units) (DE.r (de_resF (X := (cxOf (L2.CX P w) P w K mg base ["odd", "some"] "_law_by_hand" (defScope s__law_by_hand) T.f__law_by_hand (.ref T.c__law_by_hand) A outer s H Ex)) (k := 6) (OT__law_by_hand T) T.d__law_result.fn rfl T.d__law_result.mgx T.d__law_result.kp T.b__law_result sc__law_result rfl (Or.inl rfl) (fun cdv => gives__law_result (X := (cxOf (L2.CX P w) P w K mg base ["odd", "some"] "_law_by_hand" (defScope s__law_by_hand) T.f__law_by_hand (.ref T.c__law_by_hand) A outer s H Ex)) (Z := TZ K (VwX (tabs T) W0d) (clsT T)) T (fun _ => rfl) _ cdv) TB.b__law_by_hand rfl (hr.mono (by decide)) (LamX.lamS_by rfl) rfl (by intros; rfl) (fun A outer s H Ex f c' hr => by exact (de_call (ok_parse_stamps T) (hr.mono (by decide)) rfl T.d_parse_stamps.mgx T.d_parse_stamps.kp T.b_parse_stamps (takes_of rfl rfl rfl rfl) rfl (da_cons (de_name 1) (da_cons de_int (da_cons (de_name 0) da_nil))) (len_cons (len_cons (len_cons len_nil))))))) (DE.r (de_tup (da_cons (de_str [116, 101, 120, 116]) da_nil)))) (dss_one (ds_ret de_bl)) dss_nil)))
    (dss_cons (ds_for (passes_of rfl) rfl (di_tup (de_tup (da_cons (de_str [99, 64, 53]) (da_cons (de_str [99, 64, 49, 64, 49]) (da_cons (de_str [97, 98, 32, 48]) (da_cons (de_str [45, 45]) (da_cons de_non (da_cons (de_tup da_nil) da_nil)))))))) (dg_name sc__law_by_hand.nd rfl (Or.inr rfl)) (dss_one (ds_if (dt_cmp (od_ne hr.units) (DE.r (de_resF (X := (cxOf (L2.CX P w) P w K mg base ["odd", "some"] "_law_by_hand" (defScope s__law_by_hand) T.f__law_by_hand (.ref T.c__law_by_hand) A outer s H Ex)) (k := 6) (OT__law_by_hand T) T.d__law_result.fn rfl T.d__law_result.mgx T.d__law_result.kp T.b__law_result sc__law_result rfl (Or.inl rfl) (fun cdv => gives__law_result (X := (cxOf (L2.CX P w) P w K mg base ["odd", "some"] "_law_by_hand" (defScope s__law_by_hand) T.f__law_by_hand (.ref T.c__law_by_hand) A outer s H Ex)) (Z := TZ K (VwX (tabs T) W0d) (clsT T)) T (fun _ => rfl) _ cdv) TB.b__law_by_hand rfl (hr.mono (by decide)) (LamX.lamS_by rfl) rfl (by intros; rfl) (fun A outer s H Ex f c' hr => by exact (de_call (ok_parse_stamps T) (hr.mono (by decide)) rfl T.d_parse_stamps.mgx T.d_parse_stamps.kp T.b_parse_stamps (takes_of rfl rfl rfl rfl) rfl (da_cons (de_name 1) (da_cons de_int (da_cons (de_name 0) da_nil))) (len_cons (len_cons (len_cons len_nil))))))) (DE.r (de_tup (da_cons (de_str [116, 101, 120, 116]) da_nil)))) (dss_one (ds_ret de_bl)) dss_nil)))
    (dss_cons (ds_if (dt_cmp (od_ne hr.units) (DE.r (de_resF (X := (cxOf (L2.CX P w) P w K mg base ["odd", "some"] "_law_by_hand" (defScope s__law_by_hand) T.f__law_by_hand (.ref T.c__law_by_hand) A outer s H Ex)) (k := 6) (OT__law_by_hand T) T.d__law_result.fn rfl T.d__law_result.mgx T.d__law_result.kp T.b__law_result sc__law_result rfl (Or.inl rfl) (fun cdv => gives__law_result (X := (cxOf (L2.CX P w) P w K mg base ["odd", "some"] "_law_by_hand" (defScope s__law_by_hand) T.f__law_by_hand (.ref T.c__law_by_hand) A outer s H Ex)) (Z := TZ K (VwX (tabs T) W0d) (clsT T)) T (fun _ => rfl) _ cdv) TB.b__law_by_hand rfl (hr.mono (by decide)) (LamX.lamS_by rfl) rfl (by intros; rfl) (fun A outer s H Ex f c' hr => by exact (de_call (ok_parse_stamps T) (hr.mono (by decide)) rfl T.d_parse_stamps.mgx T.d_parse_stamps.kp T.b_parse_stamps (takes_of rfl rfl rfl rfl) rfl (da_cons (de_name 1) (da_cons de_int (da_cons (de_join (de_str [32]) (DE.r (de_n (dn_rep (DE.r (de_lst (da_cons (de_str [99, 64, 48]) da_nil))) (DE.r de_int))))) da_nil))) (len_cons (len_cons (len_cons len_nil))))))) (DE.r (de_tup (da_cons (de_str [116, 101, 120, 116]) da_nil)))) (dss_one (ds_ret de_bl)) dss_nil)
    (dss_cons (ds_if (dt_cmp (od_ne hr.units) (DE.r (de_resF (X := (cxOf (L2.CX P w) P w K mg base ["odd", "some"] "_law_by_hand" (defScope s__law_by_hand) T.f__law_by_hand (.ref T.c__law_by_hand) A outer s H Ex)) (k := 6) (OT__law_by_hand T) T.d__law_result.fn rfl T.d__law_result.mgx T.d__law_result.kp T.b__law_result sc__law_result rfl (Or.inl rfl) (fun cdv => gives__law_result (X := (cxOf (L2.CX P w) P w K mg base ["odd", "some"] "_law_by_hand" (defScope s__law_by_hand) T.f__law_by_hand (.ref T.c__law_by_hand) A outer s H Ex)) (Z := TZ K (VwX (tabs T) W0d) (clsT T)) T (fun _ => rfl) _ cdv) TB.b__law_by_hand rfl (hr.mono (by decide)) (LamX.lamS_by rfl) rfl (by intros; rfl) (fun A outer s H Ex f c' hr => by exact (de_call (ok_parse_stamps T) (hr.mono (by decide)) rfl T.d_parse_stamps.mgx T.d_parse_stamps.kp T.b_parse_stamps (takes_of rfl rfl rfl rfl) rfl (da_cons (de_tup da_nil) (da_cons de_int (da_cons de_non da_nil))) (len_cons (len_cons (len_cons len_nil))))))) (DE.r (de_tup (da_cons (de_str [115, 101, 116]) da_nil)))) (dss_one (ds_ret de_bl)) dss_nil)
    (dss_cons (ds_if (dt_cmp (od_ne hr.units) (DE.r (de_resF (X := (cxOf (L2.CX P w) P w K mg base ["odd", "some"] "_law_by_hand" (defScope s__law_by_hand) T.f__law_by_hand (.ref T.c__law_by_hand) A outer s H Ex)) (k := 6) (OT__law_by_hand T) T.d__law_result.fn rfl T.d__law_result.mgx T.d__law_result.kp T.b__law_result sc__law_result rfl (Or.inl rfl) (fun cdv => gives__law_result (X := (cxOf (L2.CX P w) P w K mg base ["odd", "some"] "_law_by_hand" (defScope s__law_by_hand) T.f__law_by_hand (.ref T.c__law_by_hand) A outer s H Ex)) (Z := TZ K (VwX (tabs T) W0d) (clsT T)) T (fun _ => rfl) _ cdv) TB.b__law_by_hand rfl (hr.mono (by decide)) (LamX.lamS_by rfl) rfl (by intros; rfl) (fun A outer s H Ex f c' hr => by exact (de_call (ok_parse_stamps T) (hr.mono (by decide)) rfl T.d_parse_stamps.mgx T.d_parse_stamps.kp T.b_parse_stamps (takes_of rfl rfl rfl rfl) rfl (da_cons (de_name 1) (da_cons de_int (da_cons de_non da_nil))) (len_cons (len_cons (len_cons len_nil))))))) (DE.r (de_tup (da_cons (de_str [98, 111, 120, 101, 115]) da_nil)))) (dss_one (ds_ret de_bl)) dss_nil)
    (dss_cons (ds_if (DW.pt (dw_or (dt_cmp (od_ne hr.units) (DE.r (de_call (ok_parse_stamps T) (hr.mono (by decide)) rfl T.d_parse_stamps.mgx T.d_parse_stamps.kp T.b_parse_stamps (takes_of rfl rfl rfl rfl) rfl (da_cons (de_name 1) (da_cons de_int (da_cons (de_str [97, 98, 64, 51, 32, 99, 64, 52, 32, 97, 98, 64, 48]) da_nil))) (len_cons (len_cons (len_cons len_nil))))) (DE.r (de_tup (da_cons (de_tup (da_cons de_int (da_cons de_int da_nil))) (da_cons (de_tup (da_cons de_int (da_cons de_int da_nil))) (da_cons (de_tup (da_cons de_int (da_cons de_int da_nil))) da_nil)))))) (dw_or1 (dt_cmp (od_ne hr.units) (DE.r (de_call (ok_parse_stamps T) (hr.mono (by decide)) rfl T.d_parse_stamps.mgx T.d_parse_stamps.kp T.b_parse_stamps (takes_of rfl rfl rfl rfl) rfl (da_cons (de_name 1) (da_cons de_int (da_cons (de_str [45]) da_nil))) (len_cons (len_cons (len_cons len_nil))))) (DE.r (de_tup da_nil)))))) (dss_one (ds_ret de_bl)) dss_nil)
    (dss_cons (ds_if (dt_cmp (od_ne hr.units) (DE.r (de_call (ok_parse_words T) (hr.mono (by decide)) rfl T.d_parse_words.mgx T.d_parse_words.kp T.b_parse_words (takes_of rfl rfl rfl rfl) rfl (da_cons (de_str [97, 32, 97, 98, 99, 100, 32, 100]) da_nil) (len_cons len_nil))) (DE.r (de_tup (da_cons (de_str [97]) (da_cons (de_str [97, 98, 99, 100]) (da_cons (de_str [100]) da_nil)))))) (dss_one (ds_ret de_bl)) dss_nil)
    (dss_one (ds_ret (de_and (de_cmp (od_eq hr.units) (DE.r (de_call (ok_format_words T) (hr.mono (by decide)) rfl T.d_format_words.mgx T.d_format_words.kp T.b_format_words (takes_of rfl rfl rfl rfl) rfl (da_cons (de_tup (da_cons (de_str [98]) da_nil)) da_nil) (len_cons len_nil))) (DE.r (de_str [98]))) (de_one (de_cmp (od_eq hr.units) (DE.r (de_call (ok_format_stamps T) (hr.mono (by decide)) rfl T.d_format_stamps.mgx T.d_format_stamps.kp T.b_format_stamps (takes_of rfl rfl rfl rfl) rfl (da_cons (de_tup (da_cons (de_str [98]) da_nil)) (da_cons de_int (da_cons (de_tup da_nil) da_nil))) (len_cons (len_cons (len_cons len_nil))))) (DE.r (de_str [45]))))))))))))))))
theorem sc__law_draw : FnScope ["script", "town", "many", "at", "rest", "number"] ["script", "town", "many"] (defScope s__law_draw) := ⟨rfl, rfl, rfl, by decide +kernel, rfl, by decide +kernel, by decide +kernel⟩
def F__law_draw {G : Type} : SM (Tw × G) := (sSeq (sCount 1 (e2 addD (eCount 1) (eC (.int 1))))
    (sSeq (sAsg 3 (xD (eIfM (tScr 0) (e2 modD (eCount 1) (eScrLen 0)) (eC (.int 0)))))
    (sSeq (sAsg 4 (xD (eRest 1 (eV 3) (eIfM (tScr 0) (eScrAt 0 (eV 3)) (eC (.int 0))))))
    (sSeq (sIf (tV (e2 geD (eV 4) (e2 powD (eC (.int 10)) (eC (.int 18))))) (sSeq (sRest 1 (eV 3) (e2 fdivD (eV 4) (eV 2)))
    (sRet (e2 modD (eV 4) (eV 2)))) sSkip)
    (sSeq (sAsg 5 (xD (e2 modD (e2 addD (eV 4) (e2 mulD (eC (.int 104729)) (eCount 1))) (eC (.int 4294967291)))))
    (sSeq (sAsg 5 (xD (e2 modD (e2 powD (eV 5) (eC (.int 5))) (eC (.int 4294967279)))))
    (sRet (e2 modD (e2 fdivD (e2 modD (e2 addD (e2 mulD (e2 fdivD (eV 5) (eC (.int 64))) (eC (.int 69621))) (eV 5)) (eC (.int 4294967231))) (eC (.int 8))) (eV 2)))))))))
def f__law_draw {G : Type} : Fn (Tw × G) := fnD 6 F__law_draw
theorem ok__law_draw (T : Txt K mg) : FnOk P w K mg base (L2.CX P w) 1 T.f__law_draw T.fd__law_draw ["script", "town", "many"] (spF (TZ K Vw (clsT T)) K 3 (f__law_draw (G := Vw.G))) :=
  fn_ok T.d__law_draw.fn sc__law_draw (by decide) fun cdv A outer s H E Ex hr =>
    (dss_cons (ds_count 1 (hu_of hr) (de_op od_add (DE.r (de_count 1 (hu_of hr))) (DE.r de_int)))
    (dss_cons (ds_set (i := 3) sc__law_draw.nd rfl (Or.inl rfl) (dx_e (de_if (dt_scr 0) (de_op od_mod (DE.r (de_count 1 (hu_of hr))) (DE.r (de_scrlen 0 rfl T.n_len))) de_int)))
    (dss_cons (ds_set (i := 4) sc__law_draw.nd rfl (Or.inl rfl) (dx_e (de_rest 1 (hu_of hr) (de_name 3) (de_if (dt_scr 0) (de_scrat 0 (DE.r (de_name 3))) de_int))))
    (dss_cons (ds_if (dt_cmp od_ge (DE.r (de_name 4)) (DE.r (de_op od_pow (DE.r de_int) (DE.r de_int)))) (dss_cons (ds_rest 1 (hu_of hr) (de_name 3) (de_op od_fdiv (DE.r (de_name 4)) (DE.r (de_name 2))))
    (dss_one (ds_ret (de_op od_mod (DE.r (de_name 4)) (DE.r (de_name 2)))))) dss_nil)
    (dss_cons (ds_set (i := 5) sc__law_draw.nd rfl (Or.inl rfl) (dx_e (de_op od_mod (DE.r (de_op od_add (DE.r (de_name 4)) (DE.r (de_op od_mul (DE.r de_int) (DE.r (de_count 1 (hu_of hr))))))) (DE.r de_int))))
    (dss_cons (ds_set (i := 5) sc__law_draw.nd rfl (Or.inl rfl) (dx_e (de_op od_mod (DE.r (de_op od_pow (DE.r (de_name 5)) (DE.r de_int))) (DE.r de_int))))
    (dss_one (ds_ret (de_op od_mod (DE.r (de_op od_fdiv (DE.r (de_op od_mod (DE.r (de_op od_add (DE.r (de_op od_mul (DE.r (de_op od_fdiv (DE.r (de_name 5)) (DE.r de_int))) (DE.r de_int))) (DE.r (de_name 5)))) (DE.r de_int))) (DE.r de_int))) (DE.r (de_name 2)))))))))))
theorem sc__law_stamps : FnScope ["script", "town", "words_of", "many", "most", "found", "k", "number", "spare"] ["script", "town", "words_of", "many", "most"] (defScope s__law_stamps) := ⟨rfl, rfl, rfl, by decide +kernel, rfl, by decide +kernel, by decide +kernel⟩
def F__law_stamps {G : Type} : SM (Tw × G) := (sSeq (sAsg 5 (xD (eTup aNil)))
    (sSeq (sFor (iR1 (callM f__law_draw (aCons (eV 0) (aCons (eV 1) (aCons (e2 addD (eV 4) (eC (.int 1))) aNil))))) (tg1 6) [6, 7, 8] (sSeq (sAsg 7 (xD (callM f__law_draw (aCons (eV 0) (aCons (eV 1) (aCons (e1 lenD (eV 2)) aNil))))))
    (sSeq (sAsg 8 (xD (e2 subD (eV 3) (e1 lenD (e2 ixD (eV 2) (eV 7))))))
    (sIf (tV (e2 geD (eV 8) (eC (.int 0)))) (sAsg 5 (xD (e2 addD (eV 5) (eTup (aCons (eTup (aCons (eV 7) (aCons (callM f__law_draw (aCons (eV 0) (aCons (eV 1) (aCons (e2 addD (eV 8) (eC (.int 1))) aNil)))) aNil))) aNil))))) sSkip))))
    (sRet (eV 5))))
def f__law_stamps {G : Type} : Fn (Tw × G) := fnD 9 F__law_stamps
theorem ok__law_stamps (T : Txt K mg) : FnOk P w K mg base (L2.CX P w) 2 T.f__law_stamps T.fd__law_stamps ["script", "town", "words_of", "many", "most"] (spF (TZ K Vw (clsT T)) K 5 (f__law_stamps (G := Vw.G))) :=
  fn_ok T.d__law_stamps.fn sc__law_stamps (by decide) fun cdv A outer s H E Ex hr =>
    (dss_cons (ds_set (i := 5) sc__law_stamps.nd rfl (Or.inl rfl) (dx_e (de_tup da_nil)))
    (dss_cons (ds_for (passes_of rfl) rfl (di_range1 rfl T.n_range (de_call (ok__law_draw T) (hr.mono (by decide)) rfl T.d__law_draw.mgx T.d__law_draw.kp T.b__law_draw (takes_of rfl rfl rfl rfl) rfl (da_cons (de_name 0) (da_cons (de_name 1) (da_cons (de_op od_add (DE.r (de_name 4)) (DE.r de_int)) da_nil))) (len_cons (len_cons (len_cons len_nil))))) (dg_name sc__law_stamps.nd rfl (Or.inl rfl)) (dss_cons (ds_set (i := 7) sc__law_stamps.nd rfl (Or.inl rfl) (dx_e (de_call (ok__law_draw T) (hr.mono (by decide)) rfl T.d__law_draw.mgx T.d__law_draw.kp T.b__law_draw (takes_of rfl rfl rfl rfl) rfl (da_cons (de_name 0) (da_cons (de_name 1) (da_cons (de_b1 c_len rfl T.n_len bt_len (DE.r (de_name 2))) da_nil))) (len_cons (len_cons (len_cons len_nil))))))
    (dss_cons (ds_set (i := 8) sc__law_stamps.nd rfl (Or.inl rfl) (dx_e (de_op od_sub (DE.r (de_name 3)) (DE.r (de_b1 c_len rfl T.n_len bt_len (DE.r (de_ix (DE.r (de_name 2)) (DE.r (de_name 7)))))))))
    (dss_one (ds_if (dt_cmp od_ge (DE.r (de_name 8)) (DE.r de_int)) (dss_one (ds_set (i := 5) sc__law_stamps.nd rfl (Or.inl rfl) (dx_e (de_op od_add (DE.r (de_name 5)) (DE.r (de_tup (da_cons (de_tup (da_cons (de_name 7) (da_cons (de_call (ok__law_draw T) (hr.mono (by decide)) rfl T.d__law_draw.mgx T.d__law_draw.kp T.b__law_draw (takes_of rfl rfl rfl rfl) rfl (da_cons (de_name 0) (da_cons (de_name 1) (da_cons (de_op od_add (DE.r (de_name 8)) (DE.r de_int)) da_nil))) (len_cons (len_cons (len_cons len_nil)))) da_nil))) da_nil))))))) dss_nil)))))
    (dss_one (ds_ret (de_name 5)))))
theorem sc__law_word : FnScope ["script", "town", "most", "letters", "k"] ["script", "town", "most", "letters"] (defScope s__law_word) := ⟨rfl, rfl, rfl, by decide +kernel, rfl, by decide +kernel, by decide +kernel⟩
def F__law_word {G : Type} : SM (Tw × G) := (sRet (eJoin (eC (.str [])) (eComp (iR1 (e2 addD (eC (.int 1)) (callM f__law_draw (aCons (eV 0) (aCons (eV 1) (aCons (eV 2) aNil)))))) [4] (tg1 4) tYesM (e2 ixD (eV 3) (callM f__law_draw (aCons (eV 0) (aCons (eV 1) (aCons (e1 lenD (eV 3)) aNil))))))))
def f__law_word {G : Type} : Fn (Tw × G) := fnD 5 F__law_word
theorem ok__law_word (T : Txt K mg) : FnOk P w K mg base (L2.CX P w) 2 T.f__law_word T.fd__law_word ["script", "town", "most", "letters"] (spF (TZ K Vw (clsT T)) K 4 (f__law_word (G := Vw.G))) :=
  fn_ok T.d__law_word.fn sc__law_word (by decide) fun cdv A outer s H E Ex hr =>
    (dss_one (ds_ret (de_join (de_str []) (DE.r (de_n (dn_comp (own := [("k", 4)]) rfl sc__law_word.nd (di_range1 rfl T.n_range (de_op od_add (DE.r de_int) (DE.r (de_call (ok__law_draw T) (hr.mono (by decide)) rfl T.d__law_draw.mgx T.d__law_draw.kp T.b__law_draw (takes_of rfl rfl rfl rfl) rfl (da_cons (de_name 0) (da_cons (de_name 1) (da_cons (de_name 2) da_nil))) (len_cons (len_cons (len_cons len_nil))))))) (blkOk_by (N := ["script", "town", "most", "letters", "k"]) (sc := defScope s__law_word) (by decide +kernel)) (fun _ _ _ _ _ => ((dg_name sc__law_word.nd rfl (Or.inl rfl))).pg) (tgok1 4) (fun _ _ _ _ _ => dts_nil) (fun _ _ _ _ _ => (de_ix (DE.r (de_name 3)) (DE.r (de_call (ok__law_draw T) (hr.mono (by decide)) rfl T.d__law_draw.mgx T.d__law_draw.kp T.b__law_draw takes0 rfl (da_cons (de_name 0) (da_cons (de_name 1) (da_cons (de_b1 c_len rfl T.n_len bt_len (DE.r (de_name 3))) da_nil))) (len_cons (len_cons (len_cons len_nil))))))) (by decide)))))))
theorem sc__law_words : FnScope ["script", "town", "most", "letters", "found", "k"] ["script", "town", "most", "letters"] (defScope s__law_words) := ⟨rfl, rfl, rfl, by decide +kernel, rfl, by decide +kernel, by decide +kernel⟩
def F__law_words {G : Type} : SM (Tw × G) := (sSeq (sAsg 4 (xL (eComp (iR1 (e2 addD (eC (.int 1)) (callM f__law_draw (aCons (eV 0) (aCons (eV 1) (aCons (eV 2) aNil)))))) [5] (tg1 5) tYesM (callM f__law_word (aCons (eV 0) (aCons (eV 1) (aCons (eC (.int 3)) (aCons (eV 3) aNil))))))))
    (sSeq (sIf (tV (e2 eqD (callM f__law_draw (aCons (eV 0) (aCons (eV 1) (aCons (eC (.int 5)) aNil)))) (eC (.int 0)))) (sApp 4 (callM f__law_word (aCons (eV 0) (aCons (eV 1) (aCons (eC (.int 4)) (aCons (eV 3) aNil)))))) sSkip)
    (sRet (e1 tupFD (eSl (e1 sortSetD (eR 4)) oN (oS (eC (.int 4))))))))
def f__law_words {G : Type} : Fn (Tw × G) := fnD 6 F__law_words
theorem ok__law_words (T : Txt K mg) : FnOk P w K mg base (L2.CX P w) 3 T.f__law_words T.fd__law_words ["script", "town", "most", "letters"] (spF (TZ K Vw (clsT T)) K 4 (f__law_words (G := Vw.G))) :=
  fn_ok T.d__law_words.fn sc__law_words (by decide) fun cdv A outer s H E Ex hr =>
    (dss_cons (ds_setLc (own := [("k", 5)]) (i := 4) rfl sc__law_words.nd rfl rfl (di_range1 rfl T.n_range (de_op od_add (DE.r de_int) (DE.r (de_call (ok__law_draw T) (hr.mono (by decide)) rfl T.d__law_draw.mgx T.d__law_draw.kp T.b__law_draw (takes_of rfl rfl rfl rfl) rfl (da_cons (de_name 0) (da_cons (de_name 1) (da_cons (de_name 2) da_nil))) (len_cons (len_cons (len_cons len_nil))))))) (blkOk_by (N := ["script", "town", "most", "letters", "found", "k"]) (sc := defScope s__law_words) (by decide +kernel)) (fun _ _ _ _ _ => ((dg_name sc__law_words.nd rfl (Or.inl rfl))).pg) (tgok1 5) (fun _ _ _ _ _ => dts_nil) (fun _ _ _ _ _ => (de_call (ok__law_word T) (hr.mono (by decide)) rfl T.d__law_word.mgx T.d__law_word.kp T.b__law_word takes0 rfl (da_cons (de_name 0) (da_cons (de_name 1) (da_cons de_int (da_cons (de_name 3) da_nil)))) (len_cons (len_cons (len_cons (len_cons len_nil)))))) (by decide) (sw_true rfl rfl rfl rfl))
    (dss_cons (ds_if (dt_cmp (od_eq hr.units) (DE.r (de_call (ok__law_draw T) (hr.mono (by decide)) rfl T.d__law_draw.mgx T.d__law_draw.kp T.b__law_draw (takes_of rfl rfl rfl rfl) rfl (da_cons (de_name 0) (da_cons (de_name 1) (da_cons de_int da_nil))) (len_cons (len_cons (len_cons len_nil))))) (DE.r de_int)) (dss_one (ds_app (i := 4) (de_call (ok__law_word T) (hr.mono (by decide)) rfl T.d__law_word.mgx T.d__law_word.kp T.b__law_word (takes_of rfl rfl rfl rfl) rfl (da_cons (de_name 0) (da_cons (de_name 1) (da_cons de_int (da_cons (de_name 3) da_nil)))) (len_cons (len_cons (len_cons (len_cons len_nil))))))) dss_nil)
    (dss_one (ds_ret (de_tupF rfl T.n_tuple (de_slice (DE.r (de_sortSet rfl rfl T.n_sorted rfl T.n_set (dr_name 4))) do_none (do_some de_int)))))))
theorem sc__law_text : FnScope ["words_of", "marks", "number", "place"] ["words_of", "marks"] (defScope s__law_text) := ⟨rfl, rfl, rfl, by decide +kernel, rfl, by decide +kernel, by decide +kernel⟩
def F__law_text {G : Type} : SM G := (sRet (eIfM (tV (e2 neD (eV 1) (eTup aNil))) (eJoin (eC (.str [32])) (eComp (iT (eV 1)) [2, 3] (tg2 2 3) tYesM (e2 addD (e2 addD (e2 ixD (eV 0) (eV 2)) (eC (.str [64]))) (e1 strID (eV 3))))) (eC (.str [45]))))
def f__law_text {G : Type} : Fn G := fnD 4 F__law_text
theorem ok__law_text (T : Txt K mg) : FnOk P w K mg base (L2.CX P w) 1 T.f__law_text T.fd__law_text ["words_of", "marks"] (spF (TZ K Vw (clsT T)) K 2 (f__law_text (G := (TZ K Vw (clsT T)).W.G))) :=
  fn_ok T.d__law_text.fn sc__law_text (by decide) fun cdv A outer s H E Ex hr =>
    (dss_one (ds_ret (de_if (dt_cmp (od_ne hr.units) (DE.r (de_name 1)) (DE.r (de_tup da_nil))) (de_join (de_str [32]) (DE.r (de_n (dn_comp (own := [("number", 2), ("place", 3)]) rfl sc__law_text.nd (di_tup (de_name 1)) (blkOk_by (N := ["words_of", "marks", "number", "place"]) (sc := defScope s__law_text) (by decide +kernel)) (fun _ _ _ _ _ => ((dg_tup2 rfl sc__law_text.nd rfl (Or.inl rfl) rfl (Or.inl rfl))).pg) (tgok2 2 3) (fun _ _ _ _ _ => dts_nil) (fun _ _ _ _ _ => (de_op od_add (DE.r (de_op od_add (DE.r (de_ix (DE.r (de_name 0)) (DE.r (de_name 2)))) (DE.r (de_str [64])))) (DE.r (de_t1 c_strI rfl T.n_str bt_str (DE.r (de_name 3)))))) (by decide))))) (de_str [45]))))
theorem sc__law_changed : FnScope ["script", "town", "text_here", "at", "mark", "some"] ["script", "town", "text_here"] (defScope s__law_changed) := ⟨rfl, rfl, rfl, by decide +kernel, rfl, by decide +kernel, by decide +kernel⟩
def F__law_changed {G : Type} : SM (Tw × G) := (sSeq (sPar 3 4 (xD (callM f__law_draw (aCons (eV 0) (aCons (eV 1) (aCons (e2 addD (e1 lenD (eV 2)) (eC (.int 1))) aNil))))) (xD (e2 ixD (eC (.str [97, 98, 99, 100, 64, 48, 49, 32, 45, 55])) (callM f__law_draw (aCons (eV 0) (aCons (eV 1) (aCons (eC (.int 10)) aNil)))))))
    (sSeq (sAsg 5 (xD (eLst (aCons (e2 addD (e2 addD (eSl (eV 2) oN (oS (eV 3))) (eV 4)) (eSl (eV 2) (oS (eV 3)) oN)) (aCons (e2 addD (eSl (eV 2) oN (oS (eV 3))) (eSl (eV 2) (oS (e2 addD (eV 3) (eC (.int 1)))) oN)) aNil)))))
    (sRet (e2 ixD (e2 addD (eV 5) (eLst (aCons (e2 addD (e2 addD (eSl (eV 2) oN (oS (eV 3))) (eV 4)) (eSl (eV 2) (oS (e2 addD (eV 3) (eC (.int 1)))) oN)) aNil))) (callM f__law_draw (aCons (eV 0) (aCons (eV 1) (aCons (eC (.int 3)) aNil))))))))
def f__law_changed {G : Type} : Fn (Tw × G) := fnD 6 F__law_changed
theorem ok__law_changed (T : Txt K mg) : FnOk P w K mg base (L2.CX P w) 2 T.f__law_changed T.fd__law_changed ["script", "town", "text_here"] (spF (TZ K Vw (clsT T)) K 3 (f__law_changed (G := Vw.G))) :=
  fn_ok T.d__law_changed.fn sc__law_changed (by decide) fun cdv A outer s H E Ex hr =>
    (dss_cons (ds_par (i := 3) (j := 4) rfl sc__law_changed.nd rfl rfl (by decide) rfl rfl (dx_e (de_call (ok__law_draw T) (hr.mono (by decide)) rfl T.d__law_draw.mgx T.d__law_draw.kp T.b__law_draw (takes_of rfl rfl rfl rfl) rfl (da_cons (de_name 0) (da_cons (de_name 1) (da_cons (de_op od_add (DE.r (de_b1 c_len rfl T.n_len bt_len (DE.r (de_name 2)))) (DE.r de_int)) da_nil))) (len_cons (len_cons (len_cons len_nil))))) (dx_e (de_ix (DE.r (de_str [97, 98, 99, 100, 64, 48, 49, 32, 45, 55])) (DE.r (de_call (ok__law_draw T) (hr.mono (by decide)) rfl T.d__law_draw.mgx T.d__law_draw.kp T.b__law_draw (takes_of rfl rfl rfl rfl) rfl (da_cons (de_name 0) (da_cons (de_name 1) (da_cons de_int da_nil))) (len_cons (len_cons (len_cons len_nil))))))) rfl)
    (dss_cons (ds_set (i := 5) sc__law_changed.nd rfl (Or.inl rfl) (dx_e (de_lst (da_cons (de_op od_add (DE.r (de_op od_add (DE.r (de_slice (DE.r (de_name 2)) do_none (do_some (de_name 3)))) (DE.r (de_name 4)))) (DE.r (de_slice (DE.r (de_name 2)) (do_some (de_name 3)) do_none))) (da_cons (de_op od_add (DE.r (de_slice (DE.r (de_name 2)) do_none (do_some (de_name 3)))) (DE.r (de_slice (DE.r (de_name 2)) (do_some (de_op od_add (DE.r (de_name 3)) (DE.r de_int))) do_none))) da_nil)))))
    (dss_one (ds_ret (de_ix (DE.r (de_op od_add (DE.r (de_name 5)) (DE.r (de_lst (da_cons (de_op od_add (DE.r (de_op od_add (DE.r (de_slice (DE.r (de_name 2)) do_none (do_some (de_name 3)))) (DE.r (de_name 4)))) (DE.r (de_slice (DE.r (de_name 2)) (do_some (de_op od_add (DE.r (de_name 3)) (DE.r de_int))) do_none))) da_nil))))) (DE.r (de_call (ok__law_draw T) (hr.mono (by decide)) rfl T.d__law_draw.mgx T.d__law_draw.kp T.b__law_draw (takes_of rfl rfl rfl rfl) rfl (da_cons (de_name 0) (da_cons (de_name 1) (da_cons de_int da_nil))) (len_cons (len_cons (len_cons len_nil))))))))))
theorem sc_law : FnScope ["script", "town", "k", "words_here", "boxes_here", "stamps_here", "one", "two", "j", "odd", "found", "answers"] ["script"] (defScope s_law) := ⟨rfl, rfl, rfl, by decide +kernel, rfl, by decide +kernel, by decide +kernel⟩
def F_law : SM (Tw × Unit) := (sSeq (sFor (iR1 (eC (.int 4))) (tg1 2) [2, 3, 4, 5, 6, 7, 8, 9, 10, 11] (sSeq (sPar 3 4 (xD (callM f__law_words (aCons (eV 0) (aCons (eV 1) (aCons (eC (.int 4)) (aCons (eC (.str [97, 98, 99, 100])) aNil)))))) (xD (e2 addD (eC (.int 1)) (callM f__law_draw (aCons (eV 0) (aCons (eV 1) (aCons (eC (.int 8)) aNil)))))))
    (sSeq (sAsg 5 (xD (callM f__law_stamps (aCons (eV 0) (aCons (eV 1) (aCons (e1 wkD (eV 3)) (aCons (eV 4) (aCons (eC (.int 6)) aNil))))))))
    (sSeq (sPar 6 7 (xD (eJoin (eC (.str [32])) (e1 wkD (eV 3)))) (xD (callM f__law_text (aCons (e1 wkD (eV 3)) (aCons (eV 5) aNil)))))
    (sSeq (sIf (tOrM (tV (e2 neD (callM f_format_words (aCons (e1 wkD (eV 3)) aNil)) (eV 6))) (tV (e2 neD (callM f_parse_words (aCons (eV 6) aNil)) (e1 wkD (eV 3))))) (sRet (eC (.bl false))) sSkip)
    (sSeq (sIf (tV (e2 neD (callM f_format_stamps (aCons (e1 wkD (eV 3)) (aCons (eV 4) (aCons (eV 5) aNil)))) (eV 7))) (sRet (eC (.bl false))) sSkip)
    (sSeq (sIf (tV (e2 neD (callM f_parse_stamps (aCons (eV 3) (aCons (eV 4) (aCons (eV 7) aNil)))) (eV 5))) (sRet (eC (.bl false))) sSkip)
    (sSeq (sFor (iR1 (eC (.int 4))) (tg1 8) [8, 9, 10] (sSeq (sAsg 9 (xD (callM f__law_changed (aCons (eV 0) (aCons (eV 1) (aCons (eV 6) aNil))))))
    (sSeq (sAsg 10 (xD (eRes 9 errN (callM f_parse_words (aCons (eV 9) aNil)))))
    (sSeq (sIf (tAndM (tV (e2 neD (eV 10) (eTup (aCons (eC (.str [116, 101, 120, 116])) aNil)))) (tOrM (tV (e2 neD (e2 ixD (eV 10) (eC (.int 0))) (eC (.str [114, 101, 116, 117, 114, 110, 115])))) (tV (e2 neD (eJoin (eC (.str [32])) (e2 ixD (eV 10) (eC (.int 1)))) (eV 9))))) (sRet (eC (.bl false))) sSkip)
    (sSeq (sAsg 9 (xD (callM f__law_changed (aCons (eV 0) (aCons (eV 1) (aCons (eV 7) aNil))))))
    (sSeq (sAsg 10 (xD (eRes 9 errN (callM f_parse_stamps (aCons (eV 3) (aCons (eV 4) (aCons (eV 9) aNil)))))))
    (sIf (tAndM (tV (e2 neD (eV 10) (eTup (aCons (eC (.str [116, 101, 120, 116])) aNil)))) (tOrM (tV (e2 neD (e2 ixD (eV 10) (eC (.int 0))) (eC (.str [114, 101, 116, 117, 114, 110, 115])))) (tV (e2 neD (callM f__law_text (aCons (e1 wkD (eV 3)) (aCons (e2 ixD (eV 10) (eC (.int 1))) aNil))) (eV 9))))) (sRet (eC (.bl false))) sSkip)))))))
    (sSeq (sAsg 11 (xL (eLst (aCons (eRes 9 errN (callM f_format_words (aCons (eTup aNil) aNil))) aNil))))
    (sSeq (sApp 11 (eRes 9 errN (callM f_format_stamps (aCons (eTup aNil) (aCons (eC (.int 0)) (aCons (eC .non) aNil))))))
    (sSeq (sApp 11 (eRes 9 errN (callM f_format_stamps (aCons (e1 wkD (eV 3)) (aCons (eC (.int 0)) (aCons (eC .non) aNil))))))
    (sSeq (sApp 11 (eRes 9 errN (callM f_format_stamps (aCons (e1 wkD (eV 3)) (aCons (eV 4) (aCons (eC .non) aNil))))))
    (sIf (tV (e2 neD (eR 11) (eLst (aCons (eTup (aCons (eC (.str [115, 101, 116])) aNil)) (aCons (eTup (aCons (eC (.str [115, 101, 116])) aNil)) (aCons (eTup (aCons (eC (.str [98, 111, 120, 101, 115])) aNil)) (aCons (eTup (aCons (eC (.str [109, 97, 114, 107, 115])) aNil)) aNil))))))) (sRet (eC (.bl false))) sSkip)))))))))))))
    (sRet (callM f__law_by_hand aNil)))
theorem ok_law (T : Txt K mg) (TB : TabsB T base)
    (law : ∀ (inn : Bool) (a : Addr) (ns : List Int) (t q : Addr), ns.length ≤ 63 → ∃ sl' g', (F_law) ((some (.d (.ref a)) :: List.replicate 11 none).set 1 (some (.d (.ref t)))) (lawG () inn a ns t q) = some (.rt (.bl true), sl', g')) :
    FnOk P w K mg base (L2.CX P w) 12 T.f_law (fl_law T) ["script"] (spLawT K (tabs T)) :=
  law_okT (cls := clsT T) (L := (tabs T)) (Vx := W0d) 1 () (fun _ => trivial) (fun _ h => h) T.lk_law T.hcd_law (nP_all T) sc_law (by decide) rfl
    (fun A outer s H Ex hr => ps_set (i := 1) sc_law.nd rfl (Or.inl rfl) (pe_beg (ok__law_begun T) (hr.mono (by decide)) rfl T.d__law_begun.mgx T.d__law_begun.kp T.b__law_begun (takes_of rfl rfl rfl rfl)))
    (fun A outer s H E Ex hr => (dss_cons (ds_for (passes_of rfl) rfl (di_range1 rfl T.n_range de_int) (dg_name sc_law.nd rfl (Or.inl rfl)) (dss_cons (ds_parC (i := 3) (j := 4) rfl sc_law.nd rfl rfl (Or.inr rfl) (Or.inr rfl) (dx_e (de_call (ok__law_words T) (hr.mono (by decide)) rfl T.d__law_words.mgx T.d__law_words.kp T.b__law_words (takes_of rfl rfl rfl rfl) rfl (da_cons (de_name 0) (da_cons (de_name 1) (da_cons de_int (da_cons (de_str [97, 98, 99, 100]) da_nil)))) (len_cons (len_cons (len_cons (len_cons len_nil)))))) (dx_e (de_op od_add (DE.r de_int) (DE.r (de_call (ok__law_draw T) (hr.mono (by decide)) rfl T.d__law_draw.mgx T.d__law_draw.kp T.b__law_draw (takes_of rfl rfl rfl rfl) rfl (da_cons (de_name 0) (da_cons (de_name 1) (da_cons de_int da_nil))) (len_cons (len_cons (len_cons len_nil))))))))
    (dss_cons (ds_set (i := 5) sc_law.nd rfl (Or.inl rfl) (dx_e (de_call (ok__law_stamps T) (hr.mono (by decide)) rfl T.d__law_stamps.mgx T.d__law_stamps.kp T.b__law_stamps (takes_of rfl rfl rfl rfl) rfl (da_cons (de_name 0) (da_cons (de_name 1) (da_cons (de_wk (de_name 3)) (da_cons (de_name 4) (da_cons de_int da_nil))))) (len_cons (len_cons (len_cons (len_cons (len_cons len_nil))))))))
    (dss_cons (ds_par (i := 6) (j := 7) rfl sc_law.nd rfl rfl (by decide) rfl rfl (dx_e (de_join (de_str [32]) (DE.r (de_wk (de_name 3))))) (dx_e (de_call (ok__law_text T) (hr.mono (by decide)) rfl T.d__law_text.mgx T.d__law_text.kp T.b__law_text (takes_of rfl rfl rfl rfl) rfl (da_cons (de_wk (de_name 3)) (da_cons (de_name 5) da_nil)) (len_cons (len_cons len_nil)))) rfl)
    (dss_cons (ds_if (DW.pt (dw_or (dt_cmp (od_ne hr.units) (DE.r (de_callKw (ok_format_words T) (hr.mono (by decide)) rfl T.d_format_words.mgx T.d_format_words.kp T.kb_format_words (takes_of rfl rfl rfl rfl) rfl (dk_cons (de_wk (de_name 3)) dk_nil) (len_cons len_nil))) (DE.r (de_name 6))) (dw_or1 (dt_cmp (od_ne hr.units) (DE.r (de_callKw (ok_parse_words T) (hr.mono (by decide)) rfl T.d_parse_words.mgx T.d_parse_words.kp T.kb_parse_words (takes_of rfl rfl rfl rfl) rfl (dk_cons (de_name 6) dk_nil) (len_cons len_nil))) (DE.r (de_wk (de_name 3))))))) (dss_one (ds_ret de_bl)) dss_nil)
    (dss_cons (ds_if (dt_cmp (od_ne hr.units) (DE.r (de_callKw (ok_format_stamps T) (hr.mono (by decide)) rfl T.d_format_stamps.mgx T.d_format_stamps.kp T.kb_format_stamps (takes_of rfl rfl rfl rfl) rfl (dk_cons (de_wk (de_name 3)) (dk_cons (de_name 4) (dk_cons (de_name 5) dk_nil))) (len_cons (len_cons (len_cons len_nil))))) (DE.r (de_name 7))) (dss_one (ds_ret de_bl)) dss_nil)
    (dss_cons (ds_if (dt_cmp (od_ne hr.units) (DE.r (de_callKw (ok_parse_stamps T) (hr.mono (by decide)) rfl T.d_parse_stamps.mgx T.d_parse_stamps.kp T.kb_parse_stamps (takes_of rfl rfl rfl rfl) rfl (dk_cons (de_name 3) (dk_cons (de_name 4) (dk_cons (de_name 7) dk_nil))) (len_cons (len_cons (len_cons len_nil))))) (DE.r (de_name 5))) (dss_one (ds_ret de_bl)) dss_nil)
    (dss_cons (ds_for (passes_of rfl) rfl (di_range1 rfl T.n_range de_int) (dg_name sc_law.nd rfl (Or.inl rfl)) (dss_cons (ds_set (i := 9) sc_law.nd rfl (Or.inr rfl) (dx_e (de_call (ok__law_changed T) (hr.mono (by decide)) rfl T.d__law_changed.mgx T.d__law_changed.kp T.b__law_changed (takes_of rfl rfl rfl rfl) rfl (da_cons (de_name 0) (da_cons (de_name 1) (da_cons (de_name 6) da_nil))) (len_cons (len_cons (len_cons len_nil))))))
    (dss_cons (ds_set (i := 10) sc_law.nd rfl (Or.inl rfl) (dx_e (de_resF (X := (cxOf (L2.CX P w) P w K mg base ["script", "town", "k", "words_here", "boxes_here", "stamps_here", "one", "two", "j", "odd", "found", "answers"] "law" (defScope s_law) T.f_law (.ref T.c_law) A outer s H Ex)) (k := 9) (OT_law T) T.d__law_result.fn rfl T.d__law_result.mgx T.d__law_result.kp T.b__law_result sc__law_result rfl (Or.inl rfl) (fun cdv => gives__law_result (X := (cxOf (L2.CX P w) P w K mg base ["script", "town", "k", "words_here", "boxes_here", "stamps_here", "one", "two", "j", "odd", "found", "answers"] "law" (defScope s_law) T.f_law (.ref T.c_law) A outer s H Ex)) (Z := TZ K (VwX (tabs T) W0d) (clsT T)) T (fun _ => rfl) _ cdv) TB.b_law rfl (hr.mono (by decide)) (LamX.lamS_by rfl) rfl (by intros; rfl) (fun A outer s H Ex f c' hr => by exact (de_call (ok_parse_words T) (hr.mono (by decide)) rfl T.d_parse_words.mgx T.d_parse_words.kp T.b_parse_words (takes_of rfl rfl rfl rfl) rfl (da_cons (de_name 9) da_nil) (len_cons len_nil))))))
    (dss_cons (ds_if (DW.pt (dw_and (dt_cmp (od_ne hr.units) (DE.r (de_name 10)) (DE.r (de_tup (da_cons (de_str [116, 101, 120, 116]) da_nil)))) (dw_and1 (DW.pt (dw_or (dt_cmp (od_ne hr.units) (DE.r (de_ix (DE.r (de_name 10)) (DE.r de_int))) (DE.r (de_str [114, 101, 116, 117, 114, 110, 115]))) (dw_or1 (dt_cmp (od_ne hr.units) (DE.r (de_join (de_str [32]) (DE.r (de_ix (DE.r (de_name 10)) (DE.r de_int))))) (DE.r (de_name 9))))))))) (dss_one (ds_ret de_bl)) dss_nil)
    (dss_cons (ds_set (i := 9) sc_law.nd rfl (Or.inr rfl) (dx_e (de_call (ok__law_changed T) (hr.mono (by decide)) rfl T.d__law_changed.mgx T.d__law_changed.kp T.b__law_changed (takes_of rfl rfl rfl rfl) rfl (da_cons (de_name 0) (da_cons (de_name 1) (da_cons (de_name 7) da_nil))) (len_cons (len_cons (len_cons len_nil))))))
    (dss_cons (ds_set (i := 10) sc_law.nd rfl (Or.inl rfl) (dx_e (de_resF (X := (cxOf (L2.CX P w) P w K mg base ["script", "town", "k", "words_here", "boxes_here", "stamps_here", "one", "two", "j", "odd", "found", "answers"] "law" (defScope s_law) T.f_law (.ref T.c_law) A outer s H Ex)) (k := 9) (OT_law T) T.d__law_result.fn rfl T.d__law_result.mgx T.d__law_result.kp T.b__law_result sc__law_result rfl (Or.inl rfl) (fun cdv => gives__law_result (X := (cxOf (L2.CX P w) P w K mg base ["script", "town", "k", "words_here", "boxes_here", "stamps_here", "one", "two", "j", "odd", "found", "answers"] "law" (defScope s_law) T.f_law (.ref T.c_law) A outer s H Ex)) (Z := TZ K (VwX (tabs T) W0d) (clsT T)) T (fun _ => rfl) _ cdv) TB.b_law rfl (hr.mono (by decide)) (LamX.lamS_by rfl) rfl (by intros; rfl) (fun A outer s H Ex f c' hr => by exact (de_call (ok_parse_stamps T) (hr.mono (by decide)) rfl T.d_parse_stamps.mgx T.d_parse_stamps.kp T.b_parse_stamps (takes_of rfl rfl rfl rfl) rfl (da_cons (de_name 3) (da_cons (de_name 4) (da_cons (de_name 9) da_nil))) (len_cons (len_cons (len_cons len_nil))))))))
    (dss_one (ds_if (DW.pt (dw_and (dt_cmp (od_ne hr.units) (DE.r (de_name 10)) (DE.r (de_tup (da_cons (de_str [116, 101, 120, 116]) da_nil)))) (dw_and1 (DW.pt (dw_or (dt_cmp (od_ne hr.units) (DE.r (de_ix (DE.r (de_name 10)) (DE.r de_int))) (DE.r (de_str [114, 101, 116, 117, 114, 110, 115]))) (dw_or1 (dt_cmp (od_ne hr.units) (DE.r (de_call (ok__law_text T) (hr.mono (by decide)) rfl T.d__law_text.mgx T.d__law_text.kp T.b__law_text (takes_of rfl rfl rfl rfl) rfl (da_cons (de_wk (de_name 3)) (da_cons (de_ix (DE.r (de_name 10)) (DE.r de_int)) da_nil)) (len_cons (len_cons len_nil)))) (DE.r (de_name 9))))))))) (dss_one (ds_ret de_bl)) dss_nil))))))))
    (dss_cons (ds_set (i := 11) sc_law.nd rfl (Or.inl rfl) (dx_n (dn_lst (da_cons (de_resF (X := (cxOf (L2.CX P w) P w K mg base ["script", "town", "k", "words_here", "boxes_here", "stamps_here", "one", "two", "j", "odd", "found", "answers"] "law" (defScope s_law) T.f_law (.ref T.c_law) A outer s H Ex)) (k := 9) (OT_law T) T.d__law_result.fn rfl T.d__law_result.mgx T.d__law_result.kp T.b__law_result sc__law_result rfl (Or.inl rfl) (fun cdv => gives__law_result (X := (cxOf (L2.CX P w) P w K mg base ["script", "town", "k", "words_here", "boxes_here", "stamps_here", "one", "two", "j", "odd", "found", "answers"] "law" (defScope s_law) T.f_law (.ref T.c_law) A outer s H Ex)) (Z := TZ K (VwX (tabs T) W0d) (clsT T)) T (fun _ => rfl) _ cdv) TB.b_law rfl (hr.mono (by decide)) (LamX.lamS_by rfl) rfl (by intros; rfl) (fun A outer s H Ex f c' hr => by exact (de_call (ok_format_words T) (hr.mono (by decide)) rfl T.d_format_words.mgx T.d_format_words.kp T.b_format_words (takes_of rfl rfl rfl rfl) rfl (da_cons (de_tup da_nil) da_nil) (len_cons len_nil)))) da_nil))))
    (dss_cons (ds_app (i := 11) (de_resF (X := (cxOf (L2.CX P w) P w K mg base ["script", "town", "k", "words_here", "boxes_here", "stamps_here", "one", "two", "j", "odd", "found", "answers"] "law" (defScope s_law) T.f_law (.ref T.c_law) A outer s H Ex)) (k := 9) (OT_law T) T.d__law_result.fn rfl T.d__law_result.mgx T.d__law_result.kp T.b__law_result sc__law_result rfl (Or.inl rfl) (fun cdv => gives__law_result (X := (cxOf (L2.CX P w) P w K mg base ["script", "town", "k", "words_here", "boxes_here", "stamps_here", "one", "two", "j", "odd", "found", "answers"] "law" (defScope s_law) T.f_law (.ref T.c_law) A outer s H Ex)) (Z := TZ K (VwX (tabs T) W0d) (clsT T)) T (fun _ => rfl) _ cdv) TB.b_law rfl (hr.mono (by decide)) (LamX.lamS_by rfl) rfl (by intros; rfl) (fun A outer s H Ex f c' hr => by exact (de_call (ok_format_stamps T) (hr.mono (by decide)) rfl T.d_format_stamps.mgx T.d_format_stamps.kp T.b_format_stamps (takes_of rfl rfl rfl rfl) rfl (da_cons (de_tup da_nil) (da_cons de_int (da_cons de_non da_nil))) (len_cons (len_cons (len_cons len_nil)))))))
    (dss_cons (ds_app (i := 11) (de_resF (X := (cxOf (L2.CX P w) P w K mg base ["script", "town", "k", "words_here", "boxes_here", "stamps_here", "one", "two", "j", "odd", "found", "answers"] "law" (defScope s_law) T.f_law (.ref T.c_law) A outer s H Ex)) (k := 9) (OT_law T) T.d__law_result.fn rfl T.d__law_result.mgx T.d__law_result.kp T.b__law_result sc__law_result rfl (Or.inl rfl) (fun cdv => gives__law_result (X := (cxOf (L2.CX P w) P w K mg base ["script", "town", "k", "words_here", "boxes_here", "stamps_here", "one", "two", "j", "odd", "found", "answers"] "law" (defScope s_law) T.f_law (.ref T.c_law) A outer s H Ex)) (Z := TZ K (VwX (tabs T) W0d) (clsT T)) T (fun _ => rfl) _ cdv) TB.b_law rfl (hr.mono (by decide)) (LamX.lamS_by rfl) rfl (by intros; rfl) (fun A outer s H Ex f c' hr => by exact (de_call (ok_format_stamps T) (hr.mono (by decide)) rfl T.d_format_stamps.mgx T.d_format_stamps.kp T.b_format_stamps (takes_of rfl rfl rfl rfl) rfl (da_cons (de_wk (de_name 3)) (da_cons de_int (da_cons de_non da_nil))) (len_cons (len_cons (len_cons len_nil)))))))
    (dss_cons (ds_app (i := 11) (de_resF (X := (cxOf (L2.CX P w) P w K mg base ["script", "town", "k", "words_here", "boxes_here", "stamps_here", "one", "two", "j", "odd", "found", "answers"] "law" (defScope s_law) T.f_law (.ref T.c_law) A outer s H Ex)) (k := 9) (OT_law T) T.d__law_result.fn rfl T.d__law_result.mgx T.d__law_result.kp T.b__law_result sc__law_result rfl (Or.inl rfl) (fun cdv => gives__law_result (X := (cxOf (L2.CX P w) P w K mg base ["script", "town", "k", "words_here", "boxes_here", "stamps_here", "one", "two", "j", "odd", "found", "answers"] "law" (defScope s_law) T.f_law (.ref T.c_law) A outer s H Ex)) (Z := TZ K (VwX (tabs T) W0d) (clsT T)) T (fun _ => rfl) _ cdv) TB.b_law rfl (hr.mono (by decide)) (LamX.lamS_by rfl) rfl (by intros; rfl) (fun A outer s H Ex f c' hr => by exact (de_call (ok_format_stamps T) (hr.mono (by decide)) rfl T.d_format_stamps.mgx T.d_format_stamps.kp T.b_format_stamps (takes_of rfl rfl rfl rfl) rfl (da_cons (de_wk (de_name 3)) (da_cons (de_name 4) (da_cons de_non da_nil))) (len_cons (len_cons (len_cons len_nil)))))))
    (dss_one (ds_if (dt_cmp (od_ne hr.units) (dr_name 11) (DE.r (de_lst (da_cons (de_tup (da_cons (de_str [115, 101, 116]) da_nil)) (da_cons (de_tup (da_cons (de_str [115, 101, 116]) da_nil)) (da_cons (de_tup (da_cons (de_str [98, 111, 120, 101, 115]) da_nil)) (da_cons (de_tup (da_cons (de_str [109, 97, 114, 107, 115]) da_nil)) da_nil))))))) (dss_one (ds_ret de_bl)) dss_nil))))))))))))))
    (dss_one (ds_ret (de_callZ (ok__law_by_hand T TB) (hr.mono (by decide)) rfl T.d__law_by_hand.mgx T.d__law_by_hand.kp T.bl__law_by_hand (takes_of rfl rfl rfl rfl)))))) law
end
def F_boxes_of {G : Type} : SM G := (sRet (eComp (iEnS (e2 ixD (eV 0) (e2 ixD (eV 1) (eC (.int 0))))) [2, 3] (tg2 2 3) tYesM (eTup (aCons (e2 addD (e2 ixD (eV 1) (eC (.int 1))) (eV 2)) (aCons (eV 3) aNil)))))
def f_boxes_of {G : Type} : Fn G := fnD 4 F_boxes_of
def F_seen_after {G : Type} : SM G := (sSeq (sAsg 3 (xL (e2 repD (eLst (aCons (eC (.str [46])) aNil)) (eV 1))))
    (sSeq (sFor (iTL (eV 2)) (tg1 4) [4, 5, 6] (sFor (iL (callM f_boxes_of (aCons (eV 0) (aCons (eV 4) aNil)))) (tg2 5 6) [5, 6] (sSetI 3 (eV 5) (eV 6))))
    (sRet (eJoin (eC (.str [])) (eR 3)))))
def f_seen_after {G : Type} : Fn G := fnD 7 F_seen_after
def F_seen {G : Type} : SM G := (sSeq (sDrop (callM f_check_stamps (aCons (eV 0) (aCons (eV 1) (aCons (eV 2) aNil)))))
    (sRet (callM f_seen_after (aCons (eV 0) (aCons (eV 1) (aCons (eV 2) aNil))))))
def f_seen {G : Type} : Fn G := fnD 3 F_seen
end Lw
namespace Lw
open PySem L2 DL
structure GOk (a t q : Addr) (g : Tw) : Prop where
  sc : g.sc = a
  tn : g.tn = some (t, q)
  ct : 0 ≤ g.ct
  ns : g.ns.length ≤ 63
  ky : ∀ p ∈ g.rs, 0 ≤ p.1 ∧ p.1 < 64
  nd : (g.rs.map (·.1)).Nodup
section
variable {G : Type} {a t q : Addr}
theorem mTwn_ap {i : Nat} {sl : SL} {g : Tw × G} (h : sl[i]? = some (some (.d (.ref t)))) (ht : g.1.tn = some (t, q)) : mTwn i sl g = some (.ok g.1, g) := by
  unfold mTwn
  rw [h]
  simp [ht]
theorem mScr_ap {i : Nat} {sl : SL} {g : Tw × G} (h : sl[i]? = some (some (.d (.ref a)))) (ht : g.1.sc = a) : mScr i sl g = some (.ok g.1.ns, g) := by
  unfold mScr
  rw [h]
  simp [ht]
theorem nd_len : ∀ (l D : List Nat), l.Nodup → (∀ x ∈ l, x ∈ D) → l.length ≤ D.length
  | [], _, _, _ => Nat.zero_le _
  | x :: l, D, h, hs => by
    obtain ⟨h1, h2⟩ := List.nodup_cons.mp h
    have hx := hs x (by simp)
    have ih := nd_len l (D.erase x) h2 fun y hy => (List.mem_erase_of_ne (fun e => h1 (by rw [← e]; exact hy))).mpr (hs y (by simp [hy]))
    rw [List.length_erase_of_mem hx] at ih
    have := List.length_pos_of_mem hx
    simp only [List.length_cons]
    omega
theorem ky_len {rs : List (Int × Int)} (ky : ∀ p ∈ rs, 0 ≤ p.1 ∧ p.1 < 64) (nd : (rs.map (·.1)).Nodup) : rs.length ≤ 64 := by
  have h1 : ((rs.map (·.1)).map Int.toNat).Nodup := by
    refine List.pairwise_map.mpr (List.Pairwise.imp_of_mem (fun {x y} hx hy hne e => ?_) nd)
    obtain ⟨p, hp, rfl⟩ := List.mem_map.mp hx
    obtain ⟨r, hr, rfl⟩ := List.mem_map.mp hy
    have := ky p hp
    have := ky r hr
    exact hne (by omega)
  have h2 : ∀ x ∈ (rs.map (·.1)).map Int.toNat, x ∈ List.range 64 := by
    intro x hx
    obtain ⟨z, hz, rfl⟩ := List.mem_map.mp hx
    obtain ⟨p, hp, rfl⟩ := List.mem_map.mp hz
    have := ky p hp
    exact List.mem_range.mpr (by omega)
  have h3 := nd_len _ _ h1 h2
  simpa using h3
theorem rsPut_keys {rs : List (Int × Int)} {k v : Int} (hk : 0 ≤ k ∧ k < 64) (ky : ∀ p ∈ rs, 0 ≤ p.1 ∧ p.1 < 64) (nd : (rs.map (·.1)).Nodup) : (∀ p ∈ rsPut rs k v, 0 ≤ p.1 ∧ p.1 < 64) ∧ ((rsPut rs k v).map (·.1)).Nodup := by
  unfold rsPut
  split
  · have e : (rs.map fun p => if p.1 = k then (p.1, v) else p).map (·.1) = rs.map (·.1) := by
      rw [List.map_map]
      congr 1
      funext p
      by_cases h : p.1 = k <;> simp [h]
    refine ⟨fun p hp => ?_, by rw [e]; exact nd⟩
    obtain ⟨r, hr, rfl⟩ := List.mem_map.mp hp
    have := ky r hr
    split
    · exact this
    · exact this
  · rename_i hn
    refine ⟨fun p hp => ?_, ?_⟩
    · rcases List.mem_append.mp hp with h | h
      · exact ky p h
      · rw [List.mem_singleton.mp h]; exact hk
    · rw [List.map_append]
      refine List.nodup_append.mpr ⟨nd, by simp, fun x hx y hy e => ?_⟩
      obtain ⟨p, hp, rfl⟩ := List.mem_map.mp hx
      simp at hy
      subst hy
      exact hn (List.any_eq_true.mpr ⟨p, hp, by simpa using e⟩)
theorem draw_ok {g : Tw × G} (h : GOk a t q g.1) {many : Int} (h0 : 0 < many) (h1 : many < 1073741824) :
    ∃ (n : Int) (g' : Tw × G), 0 ≤ n ∧ n < many ∧ GOk a t q g'.1 ∧ g'.2 = g.2 ∧ f__law_draw [.ref a, .ref t, .int many] g = some (.ok (.int n), g') := by
  obtain ⟨⟨inn, sc, ns, tn, ct, rs⟩, g2⟩ := g
  obtain ⟨rfl, rfl, hct, hns, ky, nd⟩ := h
  have emod : ∀ x : Int, 0 ≤ x % many ∧ x % many < many := fun x => ⟨Int.emod_nonneg _ (by omega), Int.emod_lt_of_pos _ h0⟩
  simp only at hct hns ky nd
  -- the place that is asked
  obtain ⟨at_, hat, eat⟩ : ∃ z : Int, (0 ≤ z ∧ z < 64 ∧ (ns ≠ [] → z < ns.length)) ∧ eIfM (tScr 0) (e2 modD (eCount 1) (eScrLen 0)) (eC (.int 0)) [some (.d (.ref sc)), some (.d (.ref t)), some (.d (.int many)), none, none, none] ((⟨inn, sc, ns, some (t, q), ct + 1, rs⟩, g2) : Tw × G) = some (.ok (.int z), (⟨inn, sc, ns, some (t, q), ct + 1, rs⟩, g2)) := by
    by_cases hs : ns = []
    · subst hs
      refine ⟨0, by simp, ?_⟩
      simp [tScr, mScr]
    · refine ⟨(ct + 1) % (ns.length : Int), ⟨Int.emod_nonneg _ (by have := List.length_pos_iff.mpr hs; omega), ?_⟩, ?_⟩
      · have := List.length_pos_iff.mpr hs
        have := Int.emod_lt_of_pos (ct + 1) (show (0 : Int) < ns.length by omega)
        exact ⟨by omega, fun _ => this⟩
      · have hp := List.length_pos_iff.mpr hs
        have hp2 : (0 : Int) < ns.length := by omega
        simp [tScr, mScr, hs, eCount, mTwn, eScrLen, modD, hp]
  obtain ⟨rest, erest⟩ : ∃ z : Int, eRest 1 (eV 3) (eIfM (tScr 0) (eScrAt 0 (eV 3)) (eC (.int 0))) [some (.d (.ref sc)), some (.d (.ref t)), some (.d (.int many)), some (.d (.int at_)), none, none] ((⟨inn, sc, ns, some (t, q), ct + 1, rs⟩, g2) : Tw × G) = some (.ok (.int z), (⟨inn, sc, ns, some (t, q), ct + 1, rs⟩, g2)) := by
    by_cases hs : ns = []
    · subst hs
      exact ⟨(rsGet rs at_).getD 0, by simp [eRest, mTwn, tScr, mScr]⟩
    · have hlt := hat.2.2 hs
      obtain ⟨v, hv⟩ : ∃ v, atI ns at_ = some v := by
        refine ⟨ns[at_.toNat]'(by omega), atI_iff.mpr ⟨at_.toNat, ?_, List.getElem?_eq_getElem (by omega)⟩⟩
        unfold ixN
        rw [if_pos hat.1, if_pos hlt]
      exact ⟨(rsGet rs at_).getD v, by simp [eRest, mTwn, tScr, mScr, hs, eScrAt, hv]⟩
  have hlen := ky_len ky nd
  have h18 : powD (.int 10) (.int 18) = some (.int 1000000000000000000) := by simp [powD]
  have s1 : sCount 1 (e2 addD (eCount 1) (eC (.int 1))) [some (.d (.ref sc)), some (.d (.ref t)), some (.d (.int many)), none, none, none] ((⟨inn, sc, ns, some (t, q), ct, rs⟩, g2) : Tw × G) = some (.nx, [some (.d (.ref sc)), some (.d (.ref t)), some (.d (.int many)), none, none, none], (⟨inn, sc, ns, some (t, q), ct + 1, rs⟩, g2)) := by
    simp [sCount, eCount, mTwn, addD]
  have s2 : sAsg 3 (xD (eIfM (tScr 0) (e2 modD (eCount 1) (eScrLen 0)) (eC (.int 0)))) [some (.d (.ref sc)), some (.d (.ref t)), some (.d (.int many)), none, none, none] ((⟨inn, sc, ns, some (t, q), ct + 1, rs⟩, g2) : Tw × G) = some (.nx, [some (.d (.ref sc)), some (.d (.ref t)), some (.d (.int many)), some (.d (.int at_)), none, none], (⟨inn, sc, ns, some (t, q), ct + 1, rs⟩, g2)) := by
    rw [asg_ap, xD_ap, eat]; rfl
  have s3 : sAsg 4 (xD (eRest 1 (eV 3) (eIfM (tScr 0) (eScrAt 0 (eV 3)) (eC (.int 0))))) [some (.d (.ref sc)), some (.d (.ref t)), some (.d (.int many)), some (.d (.int at_)), none, none] ((⟨inn, sc, ns, some (t, q), ct + 1, rs⟩, g2) : Tw × G) = some (.nx, [some (.d (.ref sc)), some (.d (.ref t)), some (.d (.int many)), some (.d (.int at_)), some (.d (.int rest)), none], (⟨inn, sc, ns, some (t, q), ct + 1, rs⟩, g2)) := by
    rw [asg_ap, xD_ap, erest]; rfl
  have s0 : f__law_draw [.ref sc, .ref t, .int many] ((⟨inn, sc, ns, some (t, q), ct, rs⟩, g2) : Tw × G) = fnK (F__law_draw [some (.d (.ref sc)), some (.d (.ref t)), some (.d (.int many)), none, none, none] ((⟨inn, sc, ns, some (t, q), ct, rs⟩, g2) : Tw × G)) := rfl
  rw [s0]
  unfold F__law_draw
  rw [seq_ap, s1, seqK_nx, seq_ap, s2, seqK_nx, seq_ap, s3, seqK_nx]
  by_cases hb : 1000000000000000000 ≤ rest
  · obtain ⟨k1, k2⟩ := rsPut_keys (rs := rs) (k := at_) (v := rest / many) ⟨hat.1, hat.2.1⟩ ky nd
    refine ⟨rest % many, (⟨inn, sc, ns, some (t, q), ct + 1, rsPut rs at_ (rest / many)⟩, g2), (emod rest).1, (emod rest).2, ⟨rfl, rfl, by simp only; omega, hns, k1, k2⟩, rfl, ?_⟩
    have hl2 : rs.length < LIM := by unfold LIM; omega
    simp [h18, geD, hb, sRest, fdivD, h0, h1, mTwn, modD, hl2]
  · obtain ⟨n, hn⟩ : ∃ n : Int, n = ((rest + 104729 * (ct + 1)) % 4294967291) ^ 5 % 4294967279 := ⟨_, rfl⟩
    refine ⟨((n / 64 * 69621 + n) % 4294967231 / 8) % many, (⟨inn, sc, ns, some (t, q), ct + 1, rs⟩, g2), (emod _).1, (emod _).2, ⟨rfl, rfl, by simp only; omega, hns, ky, nd⟩, rfl, ?_⟩
    have hp : ((rest + 104729 * (ct + 1)) % 4294967291).natAbs < 18446744073709551616 := by omega
    simp [h18, geD, hb, eCount, mTwn, mulD, addD, modD, powD, fdivD, hp, smallI, h0, ← hn]
end
end Lw
namespace DL
open PySem L2
section
variable {G : Type}
/-- a comprehension that draws -/
theorem compL_run {tg : Tg} {cnd : M G Bool} {elt : M G D} {sl : SL} (Inv : G → Prop) (P : D → Prop) : ∀ (ds : List D) (g : G), Inv g →
    (∀ d ∈ ds, ∀ g, Inv g → ∃ sl1 x g', tg d sl = some sl1 ∧ cnd sl1 g = some (.ok true, g) ∧ elt sl1 g = some (.ok x, g') ∧ P x ∧ Inv g') →
    ∃ xs g', compL tg cnd elt ds sl g = some (.ok xs, g') ∧ xs.length = ds.length ∧ (∀ x ∈ xs, P x) ∧ Inv g'
  | [], g, i, _ => ⟨[], g, rfl, rfl, by simp, i⟩
  | d :: ds, g, i, H => by
    obtain ⟨sl1, x, g1, e1, e2, e3, p, i1⟩ := H d (by simp) g i
    obtain ⟨xs, g2, e4, e5, e6, i2⟩ := compL_run Inv P ds g1 i1 fun d' hd' => H d' (by simp [hd'])
    refine ⟨x :: xs, g2, ?_, by simp [e5], fun y hy => ?_, i2⟩
    · unfold compL
      rw [e1]
      simp only [e2, e3, e4]
    · rcases List.mem_cons.mp hy with rfl | hy
      · exact p
      · exact e6 y hy
theorem iR1_ap {f : M G D} {sl : SL} {g g1 : G} {n : Int} (h : f sl g = some (.ok (.int n), g1)) (h0 : -1000 ≤ n) (h1 : n ≤ 1000) : iR1 f sl g = some (.ok (rgD 0 n), g1) := by
  unfold iR1
  rw [bind_ap, h, bindK_ok, bind_ap]
  have e : rgOk 0 n = true := by
    unfold rgOk
    simp
    omega
  simp [lift_ap, asI, liftK_some, bindK_ok, e]
theorem iR2_ap {f h : M G D} {sl : SL} {g g1 g2 : G} {n m : Int} (h1 : f sl g = some (.ok (.int n), g1)) (h2 : h sl g1 = some (.ok (.int m), g2)) (b1 : -1000 ≤ n ∧ n ≤ 1000) (b2 : -1000 ≤ m ∧ m ≤ 1000) : iR2 f h sl g = some (.ok (rgD n m), g2) := by
  unfold iR2
  rw [bind_ap, h1, bindK_ok, bind_ap, h2, bindK_ok, bind_ap]
  have e : rgOk n m = true := by
    unfold rgOk
    simp
    omega
  simp [lift_ap, asI, liftK_some, bindK_ok, bind_ap, e]
theorem rgD_len (n m : Int) : (rgD n m).length = (m - n).toNat := by simp [rgD]
theorem rgD_mem {n m : Int} {d : D} (h : d ∈ rgD n m) : ∃ z : Int, d = .int z ∧ n ≤ z ∧ z < m := by
  unfold rgD at h
  obtain ⟨i, hi, rfl⟩ := List.mem_map.mp h
  have := List.mem_range.mp hi
  exact ⟨n + i, rfl, by omega, by omega⟩
theorem joinS_nil (ss : List (List Nat)) : joinS [] ss = ss.flatten := by
  induction ss with
  | nil => rfl
  | cons p l ih =>
    cases l with
    | nil => simp [joinS]
    | cons q l => rw [joinS, ih]; simp
theorem asSs_map (ss : List (List Nat)) : asSs (ss.map D.str) = some ss := by
  induction ss with
  | nil => rfl
  | cons p l ih => simp [asSs, ih]
theorem strs_of {xs : List D} {P : List Nat → Prop} (h : ∀ x ∈ xs, ∃ s, x = .str s ∧ P s) : ∃ ss : List (List Nat), xs = ss.map D.str ∧ ∀ s ∈ ss, P s := by
  induction xs with
  | nil => exact ⟨[], rfl, by simp⟩
  | cons x xs ih =>
    obtain ⟨ss, e, hs⟩ := ih fun y hy => h y (by simp [hy])
    obtain ⟨s, rfl, p⟩ := h x (by simp)
    refine ⟨s :: ss, by simp [e], fun y hy => ?_⟩
    rcases List.mem_cons.mp hy with rfl | hy
    · exact p
    · exact hs y hy
theorem atI_nat {α : Type} {xs : List α} {i : Nat} (h : i < xs.length) : atI xs (i : Int) = some xs[i] := by
  refine atI_iff.mpr ⟨i, ?_, List.getElem?_eq_getElem h⟩
  unfold ixN
  rw [if_pos (by omega), if_pos (by omega)]
  simp
theorem atI_int {α : Type} {xs : List α} {z : Int} (h0 : 0 ≤ z) (h : z < xs.length) : atI xs z = some (xs[z.toNat]'(by omega)) := by
  have := atI_nat (xs := xs) (i := z.toNat) (by omega)
  rw [← this]
  congr 1
  omega
theorem flat_len (ss : List (List Nat)) (h : ∀ s ∈ ss, s.length = 1) : ss.flatten.length = ss.length := by
  induction ss with
  | nil => rfl
  | cons p l ih =>
    rw [List.flatten_cons, List.length_append, ih fun s hs => h s (by simp [hs]), h p (by simp)]
    simp; omega
end
end DL
namespace Lw
open PySem L2 DL
section
variable {G : Type} {a t q : Addr}
/-- what a drawn word is -/
def WordOk (letters : List Nat) (most : Nat) (w : List Nat) : Prop := 1 ≤ w.length ∧ w.length ≤ most ∧ ∀ c ∈ w, c ∈ letters
theorem word_ok {g : Tw × G} (h : GOk a t q g.1) {most : Nat} {letters : List Nat} (m0 : 0 < most) (m1 : most ≤ 100) (l0 : 0 < letters.length) (l1 : letters.length ≤ 100) :
    ∃ (w : List Nat) (g' : Tw × G), WordOk letters most w ∧ GOk a t q g'.1 ∧ g'.2 = g.2 ∧ f__law_word [.ref a, .ref t, .int most, .str letters] g = some (.ok (.str w), g') := by
  obtain ⟨n, g1, n0, n1, ok1, s1, dr1⟩ := draw_ok h (many := most) (by omega) (by omega)
  have it : iR1 (e2 addD (eC (.int 1)) (callM f__law_draw (aCons (eV 0) (aCons (eV 1) (aCons (eV 2) aNil))))) [some (.d (.ref a)), some (.d (.ref t)), some (.d (.int most)), some (.d (.str letters)), none] g = some (.ok (rgD 0 (1 + n)), g1) :=
    iR1_ap (by simp [dr1, addD]) (by omega) (by omega)
  obtain ⟨xs, g2, c1, c2, c3, c4, c5⟩ := compL_run (tg := tg1 4) (cnd := tYesM) (elt := e2 ixD (eV 3) (callM f__law_draw (aCons (eV 0) (aCons (eV 1) (aCons (e1 lenD (eV 3)) aNil))))) (sl := [some (.d (.ref a)), some (.d (.ref t)), some (.d (.int most)), some (.d (.str letters)), none])
    (fun g' : Tw × G => GOk a t q g'.1 ∧ g'.2 = g.2) (fun x => ∃ s, x = .str s ∧ s.length = 1 ∧ ∀ c ∈ s, c ∈ letters) (rgD 0 (1 + n)) g1 ⟨ok1, s1⟩ (fun d hd g' ⟨i1, i2⟩ => by
      obtain ⟨z, g'', z0, z1, ok2, s2, dr2⟩ := draw_ok i1 (many := letters.length) (by omega) (by omega)
      have hz : atI letters z = some (letters[z.toNat]'(by omega)) := atI_int z0 z1
      refine ⟨_, .str [letters[z.toNat]'(by omega)], g'', rfl, rfl, ?_, ⟨_, rfl, rfl, ?_⟩, ok2, s2.trans i2⟩
      · simp [tg1, lenD, dr2, ixD, hz]
      · intro c hc
        rw [List.mem_singleton.mp hc]
        exact List.getElem_mem _)
  obtain ⟨ss, rfl, hs⟩ := strs_of c3
  have hl : ss.length = (1 + n).toNat := by
    rw [List.length_map, rgD_len] at c2
    rw [c2]; omega
  have hfl := flat_len ss fun s hs' => (hs s hs').1
  have hx : ss.length ≤ LIM := by unfold LIM; omega
  have hxf : ss.flatten.length ≤ LIM := by rw [hfl]; exact hx
  have hsum : (ss.map List.length).sum ≤ LIM := by rw [← List.length_flatten]; exact hxf
  refine ⟨ss.flatten, g2, ⟨by rw [hfl]; omega, by rw [hfl]; omega, fun c hc => ?_⟩, c4, c5, ?_⟩
  · obtain ⟨s, h1, h2⟩ := List.mem_flatten.mp hc
    exact (hs s h1).2 c h2
  · have e : f__law_word [.ref a, .ref t, .int most, .str letters] g = fnK (F__law_word [some (.d (.ref a)), some (.d (.ref t)), some (.d (.int most)), some (.d (.str letters)), none] g) := rfl
    rw [e]
    unfold F__law_word
    rw [ret_ap]
    unfold eJoin
    rw [bind_ap, eC_ap, bindK_ok, bind_ap, lift_ap]
    show fnK (doK (bindK (liftK (some []) g) _ _) _ _) = _
    rw [liftK_some, bindK_ok, bind_ap, comp_ap, it, bindK_ok]
    have ew : wipeS [some (.d (.ref a)), some (.d (.ref t)), some (.d (.int most)), some (.d (.str letters)), (none : Option Slot)] [4] = [some (.d (.ref a)), some (.d (.ref t)), some (.d (.int most)), some (.d (.str letters)), none] := rfl
    rw [ew]
    simp [c1, hx, joinD, asSs_map, joinS_nil, hxf, hsum]
end
end Lw
namespace DL
open PySem L2
section
variable {G : Type}
@[simp] theorem eqD_int (a b : Int) : eqD (.int a) (.int b) = some (.bl (a == b)) := rfl
@[simp] theorem neD_int (a b : Int) : neD (.int a) (.int b) = some (.bl (!(a == b))) := rfl
@[simp] theorem eqD_str (a b : List Nat) : eqD (.str a) (.str b) = some (.bl (a == b)) := rfl
@[simp] theorem neD_str (a b : List Nat) : neD (.str a) (.str b) = some (.bl (!(a == b))) := rfl
@[simp] theorem eqD_bl (a b : Bool) : eqD (.bl a) (.bl b) = some (.bl (a == b)) := rfl
@[simp] theorem neD_bl (a b : Bool) : neD (.bl a) (.bl b) = some (.bl (!(a == b))) := rfl
@[simp] theorem lenD_str (s : List Nat) : lenD (.str s) = some (.int s.length) := rfl
@[simp] theorem lenD_lst (s : List D) : lenD (.lst s) = some (.int s.length) := rfl
@[simp] theorem lenD_tup (s : List D) : lenD (.tup s) = some (.int s.length) := rfl
@[simp] theorem addD_int (a b : Int) : addD (.int a) (.int b) = some (.int (a + b)) := rfl
@[simp] theorem subD_int (a b : Int) : subD (.int a) (.int b) = some (.int (a - b)) := rfl
@[simp] theorem ltD_int (a b : Int) : ltD (.int a) (.int b) = some (.bl (decide (a < b))) := rfl
@[simp] theorem ltD_str (a b : List Nat) : ltD (.str a) (.str b) = some (.bl (decide (a < b))) := rfl
@[simp] theorem leD_int (a b : Int) : leD (.int a) (.int b) = some (.bl (decide (a ≤ b))) := rfl
@[simp] theorem gtD_int (a b : Int) : gtD (.int a) (.int b) = some (.bl (decide (b < a))) := rfl
@[simp] theorem geD_int (a b : Int) : geD (.int a) (.int b) = some (.bl (decide (b ≤ a))) := rfl
@[simp] theorem negD_int (a : Int) : negD (.int a) = some (.int (-a)) := rfl
@[simp] theorem isN_non : isN .non .non = some (.bl true) := rfl
@[simp] theorem notN_non : notN .non .non = some (.bl false) := rfl
@[simp] theorem notN_int (a : Int) : notN (.int a) .non = some (.bl true) := rfl
@[simp] theorem tupD_lst (s : List D) : tupD (.lst s) = some (.tup s) := rfl
@[simp] theorem tupD_tup (s : List D) : tupD (.tup s) = some (.tup s) := rfl
theorem forL_nx {tg : Tg} {b : SM G} {vs : List Nat} {d : D} {ds : List D} {sl sl1 sl2 : SL} {g g2 : G} (h1 : tg d sl = some sl1) (h2 : b sl1 g = some (.nx, sl2, g2)) : forL tg b vs (d :: ds) sl g = forL tg b vs ds (wipeS sl2 vs) g2 := by
  rw [forL]
  simp only [h1, h2]
@[simp] theorem oS_ap {a : M G D} {sl : SL} {g : G} : oS a sl g = bindK (a sl g) (fun x => M.bind (M.lift (asI x)) fun i => M.pure (some i)) sl := rfl
@[simp] theorem asI_int {i : Int} : asI (.int i) = some i := rfl
theorem cut_to {α : Type} (xs : List α) (n : Nat) : cut xs none (some (n : Int)) = xs.take n := by
  unfold cut
  rw [HT.sIx_nat, HT.sIx_none]
  simp only [List.drop_zero, Nat.sub_zero]
  rcases Nat.le_total n xs.length with h | h
  · rw [Nat.min_eq_left h]
  · rw [Nat.min_eq_right h, List.take_of_length_le h, List.take_of_length_le (Nat.le_refl _)]
theorem cut_from {α : Type} (xs : List α) (n : Nat) : cut xs (some (n : Int)) none = xs.drop n := by
  unfold cut
  rw [HT.sIx_nat, HT.sIx_none]
  rcases Nat.le_total n xs.length with h | h
  · rw [Nat.min_eq_left h]
    exact List.take_of_length_le (by rw [List.length_drop]; omega)
  · rw [Nat.min_eq_right h, List.drop_of_length_le (Nat.le_refl _), List.drop_of_length_le h]
    simp
theorem cut_last {α : Type} (xs : List α) : cut xs (some (-1 : Int)) none = xs.drop (xs.length - 1) := by
  unfold cut
  rw [HT.sIx_none]
  have e : HT.sIx xs.length 0 (some (-1)) = xs.length - 1 := by
    show (if (-1 : Int) < 0 then ((-1 : Int) + (xs.length : Int)).toNat else min (-1 : Int).toNat xs.length) = xs.length - 1
    rw [if_pos (by decide)]
    omega
  rw [e]
  exact List.take_of_length_le (by rw [List.length_drop]; omega)
theorem sortU_len (l : List (List Nat)) : (sortU l).length ≤ l.length := by
  induction l with
  | nil => exact Nat.le_refl _
  | cons x l ih =>
    have h : ∀ (r : List (List Nat)), (insU x r).length ≤ r.length + 1 := by
      intro r
      induction r with
      | nil => simp [insU]
      | cons y r ih2 =>
        unfold insU
        split
        · simp
        · split
          · simp
          · simp only [List.length_cons]; omega
    show (insU x (sortU l)).length ≤ _
    have := h (sortU l)
    simp only [List.length_cons]
    omega
theorem sortU_pos (l : List (List Nat)) (h : l ≠ []) : 0 < (sortU l).length := by
  obtain ⟨x, l, rfl⟩ := List.exists_cons_of_ne_nil h
  have : x ∈ sortU (x :: l) := (sortU_mem _ _).mpr (by simp)
  exact List.length_pos_of_mem this
theorem take_pw {α : Type} {R : α → α → Prop} {l : List α} (n : Nat) (h : l.Pairwise R) : (l.take n).Pairwise R := h.sublist (List.take_sublist n l)
end
end DL
namespace Lw
open PySem L2 DL
section
variable {G : Type} {a t q : Addr}
/-- what drawn words are -/
structure WordsOk (letters : List Nat) (ws : List (List Nat)) : Prop where
  l0 : 1 ≤ ws.length
  l1 : ws.length ≤ 4
  each : ∀ w ∈ ws, WordOk letters 4 w
  ord : ws.Pairwise (· < ·)
def Ww (ws : List (List Nat)) : D := .tup (ws.map D.str)
def WwF (ws : List (List Nat)) : D := .tupF (ws.map D.str)
theorem words_ok {g : Tw × G} (h : GOk a t q g.1) {most : Nat} {letters : List Nat} (m0 : 0 < most) (m1 : most ≤ 30) (l0 : 0 < letters.length) (l1 : letters.length ≤ 100) :
    ∃ (ws : List (List Nat)) (g' : Tw × G), WordsOk letters ws ∧ GOk a t q g'.1 ∧ g'.2 = g.2 ∧ f__law_words [.ref a, .ref t, .int most, .str letters] g = some (.ok (WwF ws), g') := by
  obtain ⟨n, g1, n0, n1, ok1, s1, dr1⟩ := draw_ok h (many := most) (by omega) (by omega)
  have it : iR1 (e2 addD (eC (.int 1)) (callM f__law_draw (aCons (eV 0) (aCons (eV 1) (aCons (eV 2) aNil))))) [some (.d (.ref a)), some (.d (.ref t)), some (.d (.int most)), some (.d (.str letters)), none, none] g = some (.ok (rgD 0 (1 + n)), g1) :=
    iR1_ap (by simp [dr1, addD]) (by omega) (by omega)
  obtain ⟨xs, g2, c1, c2, c3, c4, c5⟩ := compL_run (tg := tg1 5) (cnd := tYesM) (elt := callM f__law_word (aCons (eV 0) (aCons (eV 1) (aCons (eC (.int 3)) (aCons (eV 3) aNil))))) (sl := [some (.d (.ref a)), some (.d (.ref t)), some (.d (.int most)), some (.d (.str letters)), none, none])
    (fun g' : Tw × G => GOk a t q g'.1 ∧ g'.2 = g.2) (fun x => ∃ s, x = .str s ∧ WordOk letters 4 s) (rgD 0 (1 + n)) g1 ⟨ok1, s1⟩ (fun d hd g' ⟨i1, i2⟩ => by
      obtain ⟨w, g'', w1, ok2, s2, dr2⟩ := word_ok i1 (most := 3) (letters := letters) (by omega) (by omega) l0 l1
      refine ⟨_, .str w, g'', rfl, rfl, ?_, ⟨_, rfl, w1.1, Nat.le_trans w1.2.1 (by decide), w1.2.2⟩, ok2, s2.trans i2⟩
      have dr3 : f__law_word [.ref a, .ref t, .int 3, .str letters] g' = some (.ok (.str w), g'') := dr2
      simp [tg1, dr3])
  obtain ⟨ss, rfl, hs⟩ := strs_of c3
  have hl : ss.length = (1 + n).toNat := by
    rw [List.length_map, rgD_len] at c2
    rw [c2]; omega
  have hx : ss.length ≤ LIM := by unfold LIM; omega
  have ew : wipeS [some (.d (.ref a)), some (.d (.ref t)), some (.d (.int most)), some (.d (.str letters)), (none : Option Slot), none] [5] = [some (.d (.ref a)), some (.d (.ref t)), some (.d (.int most)), some (.d (.str letters)), none, none] := rfl
  have S1 : sAsg 4 (xL (eComp (iR1 (e2 addD (eC (.int 1)) (callM f__law_draw (aCons (eV 0) (aCons (eV 1) (aCons (eV 2) aNil)))))) [5] (tg1 5) tYesM (callM f__law_word (aCons (eV 0) (aCons (eV 1) (aCons (eC (.int 3)) (aCons (eV 3) aNil))))))) [some (.d (.ref a)), some (.d (.ref t)), some (.d (.int most)), some (.d (.str letters)), none, none] g
      = some (.nx, [some (.d (.ref a)), some (.d (.ref t)), some (.d (.int most)), some (.d (.str letters)), some (.oL (ss.map D.str)), none], g2) := by
    rw [asg_ap, xL_ap, comp_ap, it, bindK_ok, ew]
    simp [c1, hx]
  obtain ⟨m, g3, k0, k1, ok3, s3, dr3⟩ := draw_ok c4 (many := 5) (by omega) (by omega)
  obtain ⟨ss', g4, hs', hl0, hl1, ok4, s4, S2⟩ : ∃ (ss' : List (List Nat)) (g4 : Tw × G), (∀ s ∈ ss', WordOk letters 4 s) ∧ ss' ≠ [] ∧ ss'.length ≤ 31 ∧ GOk a t q g4.1 ∧ g4.2 = g.2 ∧
      sIf (tV (e2 eqD (callM f__law_draw (aCons (eV 0) (aCons (eV 1) (aCons (eC (.int 5)) aNil)))) (eC (.int 0)))) (sApp 4 (callM f__law_word (aCons (eV 0) (aCons (eV 1) (aCons (eC (.int 4)) (aCons (eV 3) aNil)))))) sSkip [some (.d (.ref a)), some (.d (.ref t)), some (.d (.int most)), some (.d (.str letters)), some (.oL (ss.map D.str)), none] g2
      = some (.nx, [some (.d (.ref a)), some (.d (.ref t)), some (.d (.int most)), some (.d (.str letters)), some (.oL (ss'.map D.str)), none], g4) := by
    by_cases hm : m = 0
    · subst hm
      obtain ⟨w, g5, w1, ok5, s5, dr5⟩ := word_ok ok3 (most := 4) (letters := letters) (by omega) (by omega) l0 l1
      have dr6 : f__law_word [.ref a, .ref t, .int 4, .str letters] g3 = some (.ok (.str w), g5) := dr5
      refine ⟨ss ++ [w], g5, fun s h => ?_, by simp, by rw [List.length_append, hl]; simp; omega, ok5, (s5.trans s3).trans c5, ?_⟩
      · rcases List.mem_append.mp h with h | h
        · exact hs s h
        · rw [List.mem_singleton.mp h]; exact w1
      · have hlt : ss.length < LIM := by unfold LIM; omega
        simp [dr3]
        rw [sApp_ap (xs := ss.map D.str) rfl]
        simp [dr6]
        rw [mutL_ap (xs := ss.map D.str) (ys := ss.map D.str ++ [.str w]) rfl (by simp [hlt])]
        rfl
    · refine ⟨ss, g3, hs, fun e => ?_, by omega, ok3, s3.trans c5, by simp [dr3, hm]⟩
      rw [e] at hl; simp at hl; omega
  have h64 : ss'.length < 1000 := by omega
  refine ⟨(sortU ss').take 4, g4, ⟨?_, ?_, fun w hw => hs' w ((sortU_mem _ _).mp (List.mem_of_mem_take hw)), take_pw 4 (sortU_ord ss')⟩, ok4, s4, ?_⟩
  · rw [List.length_take]
    have := sortU_pos ss' hl0
    omega
  · rw [List.length_take]; omega
  · have e : f__law_words [.ref a, .ref t, .int most, .str letters] g = fnK (F__law_words [some (.d (.ref a)), some (.d (.ref t)), some (.d (.int most)), some (.d (.str letters)), none, none] g) := rfl
    rw [e]
    unfold F__law_words
    rw [seq_ap, S1, seqK_nx, seq_ap, S2, seqK_nx]
    have ec : cut ((sortU ss').map D.str) none (some (4 : Int)) = _ := cut_to ((sortU ss').map D.str) 4
    simp [sortSetD, asSs_map, h64, slD, ec, tupFD, WwF, List.map_take]

/-- stamps: the word's number, its place -/
abbrev Sts := List (Nat × Nat)
def Sd (s : Nat × Nat) : D := .tup [.int s.1, .int s.2]
def Ss (ss : Sts) : D := .tup (ss.map Sd)
def wordAt (ws : List (List Nat)) (n : Nat) : List Nat := ws.getD n []
def StOk (ws : List (List Nat)) (B : Nat) (s : Nat × Nat) : Prop := s.1 < ws.length ∧ s.2 + (wordAt ws s.1).length ≤ B
theorem ix_words {ws : List (List Nat)} {z : Int} (h0 : 0 ≤ z) (h1 : z < ws.length) : ixD (Ww ws) (.int z) = some (.str (wordAt ws z.toNat)) := by
  show atI (ws.map D.str) z = _
  rw [atI_int h0 (by simpa using h1)]
  simp [wordAt, List.getD]
  rw [List.getElem?_eq_getElem (by omega)]
  rfl
theorem len_words (ws : List (List Nat)) : lenD (Ww ws) = some (.int ws.length) := by simp [lenD, Ww]
theorem stamps_ok {g : Tw × G} (h : GOk a t q g.1) {ws : List (List Nat)} {letters : List Nat} {B most : Nat} (hw : WordsOk letters ws) (hB : B ≤ 100) (hm : most ≤ 20) :
    ∃ (ss : Sts) (g' : Tw × G), (ss.length ≤ most ∧ ∀ s ∈ ss, StOk ws B s) ∧ GOk a t q g'.1 ∧ g'.2 = g.2 ∧ f__law_stamps [.ref a, .ref t, Ww ws, .int B, .int most] g = some (.ok (Ss ss), g') := by
  obtain ⟨n, g1, n0, n1, ok1, s1, dr1⟩ := draw_ok h (many := most + 1) (by omega) (by omega)
  have e : f__law_stamps [.ref a, .ref t, Ww ws, .int B, .int most] g = fnK (F__law_stamps [some (.d (.ref a)), some (.d (.ref t)), some (.d (Ww ws)), some (.d (.int B)), some (.d (.int most)), none, none, none, none] g) := rfl
  rw [e]
  unfold F__law_stamps
  have S1 : sAsg 5 (xD (eTup aNil)) [some (.d (.ref a)), some (.d (.ref t)), some (.d (Ww ws)), some (.d (.int B)), some (.d (.int most)), none, none, none, none] g = some (.nx, [some (.d (.ref a)), some (.d (.ref t)), some (.d (Ww ws)), some (.d (.int B)), some (.d (.int most)), some (.d (.tup [])), none, none, none], g) := by
    simp
  have it : iR1 (callM f__law_draw (aCons (eV 0) (aCons (eV 1) (aCons (e2 addD (eV 4) (eC (.int 1))) aNil)))) [some (.d (.ref a)), some (.d (.ref t)), some (.d (Ww ws)), some (.d (.int B)), some (.d (.int most)), some (.d (.tup [])), none, none, none] g = some (.ok (rgD 0 n), g1) :=
    iR1_ap (by simp [addD, dr1]) (by omega) (by omega)
  rw [seq_ap, S1, seqK_nx, seq_ap, for_ap, it, doK_ok]
  -- the turns
  have turns : ∀ (ds : List D) (ss : Sts) (g1 : Tw × G), (∀ s ∈ ss, StOk ws B s) → ss.length + ds.length ≤ 20 → GOk a t q g1.1 → ∃ (ss' : Sts) (g2 : Tw × G), (∀ s ∈ ss', StOk ws B s) ∧ ss'.length ≤ ss.length + ds.length ∧ GOk a t q g2.1 ∧ g2.2 = g1.2 ∧
      forL (tg1 6) (sSeq (sAsg 7 (xD (callM f__law_draw (aCons (eV 0) (aCons (eV 1) (aCons (e1 lenD (eV 2)) aNil))))))
        (sSeq (sAsg 8 (xD (e2 subD (eV 3) (e1 lenD (e2 ixD (eV 2) (eV 7))))))
        (sIf (tV (e2 geD (eV 8) (eC (.int 0)))) (sAsg 5 (xD (e2 addD (eV 5) (eTup (aCons (eTup (aCons (eV 7) (aCons (callM f__law_draw (aCons (eV 0) (aCons (eV 1) (aCons (e2 addD (eV 8) (eC (.int 1))) aNil)))) aNil))) aNil))))) sSkip))) [6, 7, 8] ds
        [some (.d (.ref a)), some (.d (.ref t)), some (.d (Ww ws)), some (.d (.int B)), some (.d (.int most)), some (.d (Ss ss)), none, none, none] g1
      = some (.nx, [some (.d (.ref a)), some (.d (.ref t)), some (.d (Ww ws)), some (.d (.int B)), some (.d (.int most)), some (.d (Ss ss')), none, none, none], g2) := by
    intro ds
    induction ds with
    | nil => exact fun ss g1 hs _ ok => ⟨ss, g1, hs, by simp, ok, rfl, rfl⟩
    | cons d ds ih =>
      intro ss g1 hs hl ok
      simp only [List.length_cons] at hl
      obtain ⟨m, g2, m0, m1, ok2, s2, dr2⟩ := draw_ok ok (many := ws.length) (by have := hw.l0; omega) (by have := hw.l1; omega)
      have hix := ix_words (ws := ws) m0 m1
      have hwm : WordOk letters 4 (wordAt ws m.toNat) := by
        unfold wordAt
        rw [List.getD_eq_getElem?_getD, List.getElem?_eq_getElem (by omega)]
        exact hw.each _ (List.getElem_mem _)
      by_cases hsp : (wordAt ws m.toNat).length ≤ B
      · obtain ⟨p, g3, p0, p1, ok3, s3, dr3⟩ := draw_ok ok2 (many := (B : Int) - ((wordAt ws m.toNat).length : Nat) + 1) (by omega) (by omega)
        obtain ⟨ss', g4, r1, r2, r3, r4, r5⟩ := ih (ss ++ [(m.toNat, p.toNat)]) g3 (fun s hm => by
          rcases List.mem_append.mp hm with z | z
          · exact hs s z
          · rw [List.mem_singleton.mp z]; exact ⟨by show m.toNat < ws.length; omega, by show p.toNat + (wordAt ws m.toNat).length ≤ B; omega⟩) (by rw [List.length_append]; simp; omega) ok3
        refine ⟨ss', g4, r1, by rw [List.length_append] at r2; simp at r2 ⊢; omega, r3, r4.trans (s3.trans s2), ?_⟩
        have e1 : addD (Ss ss) (.tup [.tup [.int m, .int p]]) = some (Ss (ss ++ [(m.toNat, p.toNat)])) := by
          have : ss.length + 1 ≤ LIM := by unfold LIM; omega
          simp [addD, Ss, Sd, this]
          omega
        have l1 : (1 : Nat) ≤ LIM := by unfold LIM; decide
        have l2 : (2 : Nat) ≤ LIM := by unfold LIM; decide
        rw [forL_nx (sl2 := [some (.d (.ref a)), some (.d (.ref t)), some (.d (Ww ws)), some (.d (.int B)), some (.d (.int most)), some (.d (Ss (ss ++ [(m.toNat, p.toNat)]))), some (.d d), some (.d (.int m)), some (.d (.int ((B : Int) - ((wordAt ws m.toNat).length : Nat))))]) (g2 := g3) rfl (by simp [dr2, len_words, hix, hsp, dr3, l1, l2, e1])]
        exact r5
      · obtain ⟨ss', g4, r1, r2, r3, r4, r5⟩ := ih ss g2 hs (by omega) ok2
        refine ⟨ss', g4, r1, by simp; omega, r3, r4.trans s2, ?_⟩
        rw [forL_nx (sl2 := [some (.d (.ref a)), some (.d (.ref t)), some (.d (Ww ws)), some (.d (.int B)), some (.d (.int most)), some (.d (Ss ss)), some (.d d), some (.d (.int m)), some (.d (.int ((B : Int) - ((wordAt ws m.toNat).length : Nat))))]) (g2 := g2) rfl (by simp [dr2, len_words, hix, hsp])]
        exact r5
  obtain ⟨ss', g2, r1, r2, r3, r4, r5⟩ := turns (rgD 0 n) [] g1 (by simp) (by rw [rgD_len]; simp; omega) ok1
  refine ⟨ss', g2, ⟨by rw [rgD_len] at r2; simp at r2; omega, r1⟩, r3, r4.trans s1, ?_⟩
  have r6 : forL (tg1 6) _ [6, 7, 8] (rgD 0 n) [some (.d (.ref a)), some (.d (.ref t)), some (.d (Ww ws)), some (.d (.int B)), some (.d (.int most)), some (.d (.tup [])), none, none, none] g1 = _ := r5
  rw [r6, seqK_nx]
  rfl
end
end Lw
namespace DL
open PySem L2
section
variable {G : Type}
theorem comp_pure {it : M G (List D)} {vs : List Nat} {tg : Tg} {cnd : M G Bool} {elt : M G D} {sl : SL} {g g1 : G} {ds : List D} (p : D → Bool) (h : D → D) (hi : it sl g = some (.ok ds, g1)) (hl : ds.length ≤ LIM)
    (H : ∀ d ∈ ds, ∃ sl1, tg d (wipeS sl vs) = some sl1 ∧ cnd sl1 g1 = some (.ok (p d), g1) ∧ (p d = true → elt sl1 g1 = some (.ok (h d), g1))) : eComp it vs tg cnd elt sl g = some (.ok (.lst ((ds.filter p).map h)), g1) := by
  rw [comp_ap, hi, bindK_ok]
  simp only [compL_pure p h ds H]
  rw [if_pos]
  rw [List.length_map]
  exact Nat.le_trans (List.length_filter_le p ds) hl
theorem comp_map {it : M G (List D)} {vs : List Nat} {tg : Tg} {elt : M G D} {sl : SL} {g g1 : G} {ds : List D} (h : D → D) (hi : it sl g = some (.ok ds, g1)) (hl : ds.length ≤ LIM)
    (H : ∀ d ∈ ds, ∃ sl1, tg d (wipeS sl vs) = some sl1 ∧ elt sl1 g1 = some (.ok (h d), g1)) : eComp it vs tg tYesM elt sl g = some (.ok (.lst (ds.map h)), g1) := by
  rw [comp_pure (fun _ => true) h hi hl fun d hd => let ⟨sl1, e1, e2⟩ := H d hd; ⟨sl1, e1, rfl, fun _ => e2⟩]
  rw [List.filter_eq_self.mpr (by simp)]
theorem asBs_true : ∀ (xs : List D), (∀ x ∈ xs, x = .bl true) → asBs xs = some (xs.map fun _ => true)
  | [], _ => rfl
  | x :: xs, h => by
    rw [h x (by simp)]
    simp [asBs, asBs_true xs fun y hy => h y (by simp [hy])]
theorem allD_true {xs : List D} (h : ∀ x ∈ xs, x = .bl true) : allD (.lst xs) = some (.bl true) := by
  simp [allD, asBs_true xs h]
@[simp] theorem isi_si (i : Int) : isiD .int (.int i) = some (.bl true) := rfl
@[simp] theorem isi_bi (i : Int) : isiD .bool (.int i) = some (.bl false) := rfl
@[simp] theorem isi_ss (i : List Nat) : isiD .str (.str i) = some (.bl true) := rfl
@[simp] theorem isi_tt (i : List D) : isiD .tuple (.tup i) = some (.bl true) := rfl
@[simp] theorem iT_ap {f : M G D} {sl : SL} {g : G} : iT f sl g = bindK (f sl g) (fun d => M.lift (asT d)) sl := rfl
@[simp] theorem iL_ap {f : M G D} {sl : SL} {g : G} : iL f sl g = bindK (f sl g) (fun d => M.lift (asL d)) sl := rfl
@[simp] theorem iS_ap {f : M G D} {sl : SL} {g : G} : iS f sl g = bindK (f sl g) (fun d => M.bind (M.lift (asS d)) fun s => M.pure (s.map fun c => .str [c])) sl := rfl
@[simp] theorem iEnT_ap {f : M G D} {sl : SL} {g : G} : iEnT f sl g = bindK (f sl g) (fun d => M.bind (M.lift (asT d)) fun xs => M.pure (enumD 0 xs)) sl := rfl
@[simp] theorem iEnS_ap {f : M G D} {sl : SL} {g : G} : iEnS f sl g = bindK (f sl g) (fun d => M.bind (M.lift (asS d)) fun xs => M.pure (enumD 0 (xs.map fun c => .str [c]))) sl := rfl
@[simp] theorem iEnL_ap {f : M G D} {sl : SL} {g : G} : iEnL f sl g = bindK (f sl g) (fun d => M.bind (M.lift (asL d)) fun xs => M.pure (enumD 0 xs)) sl := rfl
@[simp] theorem iZpT_ap {f h : M G D} {sl : SL} {g : G} : iZpT f h sl g = bindK (f sl g) (fun d => M.bind h fun e => M.bind (M.lift (asT d)) fun xs => M.bind (M.lift (asT e)) fun ys => M.pure (zipD xs ys)) sl := rfl
@[simp] theorem iZpS_ap {f h : M G D} {sl : SL} {g : G} : iZpS f h sl g = bindK (f sl g) (fun d => M.bind h fun e => M.bind (M.lift (asS d)) fun xs => M.bind (M.lift (asS e)) fun ys => M.pure (zipD (xs.map fun c => .str [c]) (ys.map fun c => .str [c]))) sl := rfl
@[simp] theorem asT_t {xs : List D} : asT (.tup xs) = some xs := rfl
@[simp] theorem asS_s {xs : List Nat} : asS (.str xs) = some xs := rfl
@[simp] theorem wipe_nil {sl : SL} : wipeS sl [] = sl := rfl
@[simp] theorem wipe_cons {sl : SL} {v : Nat} {vs : List Nat} : wipeS sl (v :: vs) = (wipeS sl vs).set v none := rfl
theorem enumD_mem : ∀ {k : Nat} {xs : List D} {d : D}, d ∈ enumD k xs → ∃ i x, d = .tup [.int ((k + i : Nat) : Int), x] ∧ xs[i]? = some x
  | k, x :: xs, d, h => by
    rcases List.mem_cons.mp h with rfl | h
    · exact ⟨0, x, rfl, rfl⟩
    · obtain ⟨i, y, e1, e2⟩ := enumD_mem h
      exact ⟨i + 1, y, by rw [e1, Nat.add_right_comm, Nat.add_assoc], by simpa using e2⟩
theorem zipD_mem : ∀ {xs ys : List D} {d : D}, d ∈ zipD xs ys → ∃ (i : Nat) (x y : D), d = .tup [x, y] ∧ xs[i]? = some x ∧ ys[i]? = some y
  | x :: xs, y :: ys, d, h => by
    rcases List.mem_cons.mp h with rfl | h
    · exact ⟨0, x, y, rfl, rfl, rfl⟩
    · obtain ⟨i, a, b, e1, e2, e3⟩ := zipD_mem h
      exact ⟨i + 1, a, b, e1, by simpa using e2, by simpa using e3⟩
theorem zipD_le : ∀ (xs ys : List D), (zipD xs ys).length ≤ xs.length
  | [], _ => by simp [zipD]
  | _ :: _, [] => by simp [zipD]
  | x :: xs, y :: ys => by simp [zipD]; exact zipD_le xs ys
/-- consecutive places are given anew -/
def setOn {α : Type} (acc : List α) : List α → Nat → List α
  | [], _ => acc
  | x :: xs, p => setOn (acc.set p x) xs (p + 1)
theorem setOn_len {α : Type} : ∀ (acc xs : List α) (p : Nat), (setOn acc xs p).length = acc.length
  | _, [], _ => rfl
  | acc, x :: xs, p => by rw [setOn, setOn_len, List.length_set]
theorem setOn_get {α : Type} : ∀ (acc xs : List α) (p b : Nat), p + xs.length ≤ acc.length → (setOn acc xs p)[b]? = if p ≤ b ∧ b < p + xs.length then xs[b - p]? else acc[b]?
  | acc, [], p, b, _ => by rw [setOn, if_neg (by simp only [List.length_nil]; omega)]
  | acc, x :: xs, p, b, h => by
    simp only [List.length_cons] at h
    rw [setOn, setOn_get (acc.set p x) xs (p + 1) b (by rw [List.length_set]; omega)]
    by_cases h1 : p + 1 ≤ b ∧ b < p + 1 + xs.length
    · rw [if_pos h1, if_pos (by simp only [List.length_cons]; omega)]
      obtain ⟨k, rfl⟩ : ∃ k, b = p + 1 + k := ⟨b - (p + 1), by omega⟩
      rw [show p + 1 + k - (p + 1) = k by omega, show p + 1 + k - p = k + 1 by omega]
      simp
    · rw [if_neg h1]
      by_cases h2 : b = p
      · subst h2
        rw [if_pos (by simp only [List.length_cons]; omega), List.getElem?_set_self (by omega)]
        simp
      · rw [if_neg (by simp only [List.length_cons]; omega), List.getElem?_set_ne (by omega)]
theorem setOn_map {α β : Type} (f : α → β) : ∀ (acc xs : List α) (p : Nat), (setOn acc xs p).map f = setOn (acc.map f) (xs.map f) p
  | _, [], _ => rfl
  | acc, x :: xs, p => by rw [setOn, setOn_map f, List.map_set]; rfl
theorem sSetI_ap {i j : Nat} {fk fv : M G D} {sl : SL} {g : G} {xs : List D} {z : Int} {d : D} (h : sl[i]? = some (some (.oL xs))) (hv : fv sl g = some (.ok d, g)) (hk : fk sl g = some (.ok (.int z), g)) (hz : ixN xs.length z = some j) :
    sSetI i fk fv sl g = some (.nx, sl.set i (some (.oL (xs.set j d))), g) := by
  unfold sSetI sOwnL
  rw [h]
  simp only
  rw [do_ap, hv, doK_ok, do_ap, hk, doK_ok]
  exact mutL_ap h (by simp only [hz])
theorem ixN_nat {n i : Nat} (h : i < n) : ixN n (i : Int) = some i := by
  unfold ixN
  rw [if_pos (by omega), if_pos (by omega)]
  simp
end
end DL
namespace Lw
open PySem L2 DL
section
variable {G : Type} {g : G}
/-- letters that are ones -/
def LetsOk (letters : List Nat) : Prop := ∀ c ∈ letters, 97 ≤ c ∧ c ≤ 100
theorem in_letters {c : Nat} (h : 97 ≤ c ∧ c ≤ 100) : inD (.str [c]) (.str [97, 98, 99, 100]) = some (.bl true) := by
  have : c = 97 ∨ c = 98 ∨ c = 99 ∨ c = 100 := by omega
  rcases this with rfl | rfl | rfl | rfl <;> rfl
theorem string_ok {s : List Nat} {most : Nat} (h1 : 1 ≤ s.length) (h2 : s.length ≤ most) (h3 : most ≤ 100) (h4 : ∀ c ∈ s, 97 ≤ c ∧ c ≤ 100) : f_is_string_of [.str s, .int most] g = some (.ok (.bl true), g) := by
  have e : f_is_string_of [.str s, .int most] g = fnK (F_is_string_of [some (.d (.str s)), some (.d (.int most)), none] g) := rfl
  rw [e]
  unfold F_is_string_of
  have c : eComp (iS (eV 0)) [2] (tg1 2) tYesM (e2 inD (eV 2) (eC (.str [97, 98, 99, 100]))) [some (.d (.str s)), some (.d (.int most)), none] g = some (.ok (.lst ((s.map fun c => D.str [c]).map fun _ => .bl true)), g) := by
    refine comp_map (fun _ => .bl true) (by simp) (by rw [List.length_map]; unfold LIM; omega) fun d hd => ⟨_, rfl, ?_⟩
    obtain ⟨x, hx, rfl⟩ := List.mem_map.mp hd
    simp [in_letters (h4 x hx)]
  have c2 : allD (.lst ((s.map fun c => D.str [c]).map fun _ => .bl true)) = some (.bl true) := allD_true (by simp)
  have h1' : 1 ≤ (s.length : Int) := by omega
  have h2' : (s.length : Int) ≤ most := by omega
  simp only [List.map_map] at c c2
  simp [c, c2, h1', h2, h1]
theorem between_eq (i lo hi : Int) : f_is_between [.int i, .int lo, .int hi] g = some (.ok (.bl (decide (lo ≤ i) && decide (i ≤ hi))), g) := by
  have e : f_is_between [.int i, .int lo, .int hi] g = fnK (F_is_between [some (.d (.int i)), some (.d (.int lo)), some (.d (.int hi))] g) := rfl
  rw [e]
  unfold F_is_between
  by_cases h : lo ≤ i <;> simp [h]
theorem are_words_ok {letters : List Nat} {ws : List (List Nat)} (hL : LetsOk letters) (h : WordsOk letters ws) : f_are_words [Ww ws] g = some (.ok (.bl true), g) := by
  have e : f_are_words [Ww ws] g = fnK (F_are_words [some (.d (Ww ws)), none, none] g) := rfl
  rw [e]
  unfold F_are_words
  have h0 := h.l0
  have h1 := h.l1
  have c : eComp (iT (eV 0)) [1] (tg1 1) tYesM (callM f_is_string_of (aCons (eV 1) (aCons (eC (.int 4)) aNil))) [some (.d (Ww ws)), none, none] g = some (.ok (.lst ((ws.map D.str).map fun _ => .bl true)), g) := by
    refine comp_map (fun _ => .bl true) (by simp [Ww]) (by rw [List.length_map]; unfold LIM; omega) fun d hd => ⟨_, rfl, ?_⟩
    obtain ⟨x, hx, rfl⟩ := List.mem_map.mp hd
    obtain ⟨w1, w2, w3⟩ := h.each x hx
    have : f_is_string_of [.str x, .int 4] g = some (.ok (.bl true), g) := string_ok (most := 4) w1 w2 (by omega) fun c hc => hL c (w3 c hc)
    simp [this]
  have c2 : allD (.lst ((ws.map D.str).map fun _ => .bl true)) = some (.bl true) := allD_true (by simp)
  have es : slD (Ww ws) (some 1) none = some (.tup ((ws.map D.str).drop 1)) := by
    show some (D.tup (cut (ws.map D.str) (some (1 : Int)) none)) = _
    rw [show cut (ws.map D.str) (some (1 : Int)) none = _ from cut_from (ws.map D.str) 1]
  have c3 : eComp (iZpT (eV 0) (eSl (eV 0) (oS (eC (.int 1))) oN)) [1, 2] (tg2 1 2) tYesM (e2 ltD (eV 1) (eV 2)) [some (.d (Ww ws)), none, none] g = some (.ok (.lst ((zipD (ws.map D.str) ((ws.map D.str).drop 1)).map fun _ => .bl true)), g) := by
    refine comp_map (fun _ => .bl true) ?_ ?_ fun d hd => ?_
    · simp only [iZpT_ap, eV_ap, eSl_ap, oS_ap, eC_ap, oN_ap, bind_ap, bindK_ok, lift_ap, asI_int, liftK_some, pure_ap, List.getElem?_cons_zero, slotK_d, es]
      rfl
    · exact Nat.le_trans (zipD_le _ _) (by rw [List.length_map]; unfold LIM; omega)
    · obtain ⟨i, x, y, rfl, hx, hy⟩ := zipD_mem hd
      refine ⟨_, rfl, ?_⟩
      rw [List.getElem?_map] at hx
      rw [List.getElem?_drop, List.getElem?_map] at hy
      obtain ⟨x', hx', rfl⟩ := Option.map_eq_some_iff.mp hx
      obtain ⟨y', hy', rfl⟩ := Option.map_eq_some_iff.mp hy
      obtain ⟨hi, ei⟩ := List.getElem?_eq_some_iff.mp hx'
      obtain ⟨hj, ej⟩ := List.getElem?_eq_some_iff.mp hy'
      have := List.pairwise_iff_getElem.mp h.ord i (1 + i) hi hj (by omega)
      rw [ei, ej] at this
      simp [this]
  have c4 : allD (.lst ((zipD (ws.map D.str) ((ws.map D.str).drop 1)).map fun _ => .bl true)) = some (.bl true) := allD_true (by simp)
  have i1 : isiD .tuple (Ww ws) = some (.bl true) := rfl
  have h0' : 1 ≤ (ws.length : Int) := by omega
  have h1' : (ws.length : Int) ≤ 4 := by omega
  simp only [List.map_map] at c c2
  rw [seq_ap, if_ap]
  have t1 : tOrM (tNotM (tV (e1 (isiD .tuple) (eV 0)))) (tOrM (tNotM (tV (e3 leD leD (eC (.int 1)) (e1 lenD (eV 0)) (eC (.int 4))))) (tNotM (tV (e1 allD (eComp (iT (eV 0)) [1] (tg1 1) tYesM (callM f_is_string_of (aCons (eV 1) (aCons (eC (.int 4)) aNil)))))))) [some (.d (Ww ws)), none, none] g = some (.ok false, g) := by
    simp [i1, len_words, h0, h0', h1', c, c2]
  rw [t1, ifK_ok]
  simp only [Bool.false_eq_true, if_false, skip_ap, seqK_nx, ret_ap]
  rw [e1_ap, c3, bindK_ok, lift_ap, c4]
  rfl
end
end Lw
namespace Lw
open PySem L2 DL
section
variable {G : Type} {g : G} {letters : List Nat} {ws : List (List Nat)} {B : Nat}
theorem check_words_ok (hL : LetsOk letters) (h : WordsOk letters ws) : f_check_words [Ww ws] g = some (.ok .non, g) := by
  have e : f_check_words [Ww ws] g = fnK (F_check_words [some (.d (Ww ws))] g) := rfl
  rw [e]
  unfold F_check_words
  simp [are_words_ok hL h]
theorem check_boxes_ok (h1 : 1 ≤ B) (h2 : B ≤ 8) : f_check_boxes [.int B] g = some (.ok .non, g) := by
  have e : f_check_boxes [.int B] g = fnK (F_check_boxes [some (.d (.int B))] g) := rfl
  rw [e]
  unfold F_check_boxes
  have h1' : 1 ≤ (B : Int) := by omega
  have h2' : (B : Int) ≤ 8 := by omega
  simp [between_eq, h1', h2']
theorem check_both_ok (hL : LetsOk letters) (h : WordsOk letters ws) (h1 : 1 ≤ B) (h2 : B ≤ 8) : f_check_both [Ww ws, .int B] g = some (.ok .non, g) := by
  have e : f_check_both [Ww ws, .int B] g = fnK (F_check_both [some (.d (Ww ws)), some (.d (.int B))] g) := rfl
  rw [e]
  unfold F_check_both
  simp [check_words_ok hL h, check_boxes_ok h1 h2]
theorem is_stamp_ok {s : Nat × Nat} (h : StOk ws B s) : f_is_stamp [Ww ws, .int B, Sd s] g = some (.ok (.bl true), g) := by
  have e : f_is_stamp [Ww ws, .int B, Sd s] g = fnK (F_is_stamp [some (.d (Ww ws)), some (.d (.int B)), some (.d (Sd s))] g) := rfl
  rw [e]
  unfold F_is_stamp
  obtain ⟨h1, h2⟩ := h
  have i1 : isiD .tuple (Sd s) = some (.bl true) := rfl
  have i2 : lenD (Sd s) = some (.int 2) := rfl
  have i3 : ixD (Sd s) (.int 0) = some (.int s.1) := rfl
  have i4 : ixD (Sd s) (.int 1) = some (.int s.2) := rfl
  have i5 : ixD (Ww ws) (.int s.1) = some (.str (wordAt ws s.1)) := by
    rw [ix_words (by omega) (by omega)]
    simp
  have h1' : (s.1 : Int) ≤ (ws.length : Int) - 1 := by omega
  have h2' : (s.2 : Int) ≤ (B : Int) - ((wordAt ws s.1).length : Int) := by omega
  simp [i1, i2, i3, i4, i5, between_eq, len_words, h1', h2']
/-- stamps that are ones -/
structure StsOk (ws : List (List Nat)) (B : Nat) (ss : Sts) : Prop where
  few : ss.length ≤ 12
  each : ∀ s ∈ ss, StOk ws B s
theorem stamps_on_ok {ss : Sts} (h : StsOk ws B ss) : f_are_stamps_on [Ww ws, .int B, Ss ss] g = some (.ok (.bl true), g) := by
  have e : f_are_stamps_on [Ww ws, .int B, Ss ss] g = fnK (F_are_stamps_on [some (.d (Ww ws)), some (.d (.int B)), some (.d (Ss ss)), none] g) := rfl
  rw [e]
  unfold F_are_stamps_on
  have hf := h.few
  have c : eComp (iT (eV 2)) [3] (tg1 3) tYesM (callM f_is_stamp (aCons (eV 0) (aCons (eV 1) (aCons (eV 3) aNil)))) [some (.d (Ww ws)), some (.d (.int B)), some (.d (Ss ss)), none] g = some (.ok (.lst ((ss.map Sd).map fun _ => .bl true)), g) := by
    refine comp_map (fun _ => .bl true) (by simp [Ss]) (by rw [List.length_map]; unfold LIM; omega) fun d hd => ⟨_, rfl, ?_⟩
    obtain ⟨x, hx, rfl⟩ := List.mem_map.mp hd
    simp [is_stamp_ok (h.each x hx)]
  have c2 : allD (.lst ((ss.map Sd).map fun _ => .bl true)) = some (.bl true) := allD_true (fun x hx => by obtain ⟨_, _, rfl⟩ := List.mem_map.mp hx; rfl)
  have i1 : isiD .tuple (Ss ss) = some (.bl true) := rfl
  have i2 : lenD (Ss ss) = some (.int ss.length) := by simp [Ss]
  have hf' : ¬ (12 : Int) < ss.length := by omega
  simp only [List.map_map] at c c2
  simp [i1, i2, hf', c, c2]
theorem check_stamps_ok {ss : Sts} (hL : LetsOk letters) (h : WordsOk letters ws) (h1 : 1 ≤ B) (h2 : B ≤ 8) (hs : StsOk ws B ss) : f_check_stamps [Ww ws, .int B, Ss ss] g = some (.ok .non, g) := by
  have e : f_check_stamps [Ww ws, .int B, Ss ss] g = fnK (F_check_stamps [some (.d (Ww ws)), some (.d (.int B)), some (.d (Ss ss))] g) := rfl
  rw [e]
  unfold F_check_stamps
  simp [check_both_ok hL h h1 h2, stamps_on_ok hs]
/-- the boxes of a stamp -/
def bxs : List Nat → Nat → List D
  | [], _ => []
  | c :: w, p => .tup [.int p, .str [c]] :: bxs w (p + 1)
theorem bxs_len : ∀ (w : List Nat) (p : Nat), (bxs w p).length = w.length
  | [], _ => rfl
  | c :: w, p => by simp [bxs, bxs_len w (p + 1)]
def shiftD (p : Nat) : D → D
  | .tup [.int i, x] => .tup [.int (p + i), x]
  | _ => .non
theorem shift_bxs (p : Nat) : ∀ (w : List Nat) (k : Nat), (enumD k (w.map fun c => D.str [c])).map (shiftD p) = bxs w (p + k)
  | [], _ => rfl
  | c :: w, k => by
    show shiftD p (.tup [.int (k : Nat), .str [c]]) :: (enumD (k + 1) (w.map fun c => D.str [c])).map (shiftD p) = .tup [.int ((p + k : Nat) : Int), .str [c]] :: bxs w (p + k + 1)
    rw [shift_bxs p w (k + 1)]
    rfl
theorem boxes_ok {s : Nat × Nat} (h : s.1 < ws.length) (hw : (wordAt ws s.1).length ≤ 100) : f_boxes_of [Ww ws, Sd s] g = some (.ok (.lst (bxs (wordAt ws s.1) s.2)), g) := by
  have e : f_boxes_of [Ww ws, Sd s] g = fnK (F_boxes_of [some (.d (Ww ws)), some (.d (Sd s)), none, none] g) := rfl
  rw [e]
  unfold F_boxes_of
  have i3 : ixD (Sd s) (.int 0) = some (.int s.1) := rfl
  have i4 : ixD (Sd s) (.int 1) = some (.int s.2) := rfl
  have i5 : ixD (Ww ws) (.int s.1) = some (.str (wordAt ws s.1)) := by
    rw [ix_words (by omega) (by omega)]
    simp
  have l2 : (2 : Nat) ≤ LIM := by unfold LIM; decide
  have c : eComp (iEnS (e2 ixD (eV 0) (e2 ixD (eV 1) (eC (.int 0))))) [2, 3] (tg2 2 3) tYesM (eTup (aCons (e2 addD (e2 ixD (eV 1) (eC (.int 1))) (eV 2)) (aCons (eV 3) aNil))) [some (.d (Ww ws)), some (.d (Sd s)), none, none] g = some (.ok (.lst ((enumD 0 ((wordAt ws s.1).map fun c => D.str [c])).map (shiftD s.2))), g) := by
    refine comp_map (shiftD s.2) (by simp [i3, i5]) (by rw [enumD_len, List.length_map]; unfold LIM; omega) fun d hd => ?_
    obtain ⟨i, x, rfl, _⟩ := enumD_mem hd
    refine ⟨_, rfl, ?_⟩
    simp [i4, l2, shiftD]
  rw [ret_ap, c, shift_bxs]
  rfl
/-- what is seen: signs by boxes -/
def seenL (ws : List (List Nat)) (B : Nat) (ss : Sts) : List Nat := ss.foldl (fun acc s => setOn acc (wordAt ws s.1) s.2) (List.replicate B 46)
theorem seenL_len (ws : List (List Nat)) (B : Nat) (ss : Sts) : (seenL ws B ss).length = B := by
  unfold seenL
  have : ∀ (ss : Sts) (acc : List Nat), (ss.foldl (fun acc s => setOn acc (wordAt ws s.1) s.2) acc).length = acc.length := by
    intro ss
    induction ss with
    | nil => intro acc; rfl
    | cons s ss ih => intro acc; rw [List.foldl_cons, ih, setOn_len]
  rw [this, List.length_replicate]
def ltD1 (c : Nat) : D := .str [c]
theorem lt_flat (l : List Nat) : (l.map fun c => [c]).flatten = l := by
  induction l with
  | nil => rfl
  | cons c l ih => simp [ih]
/-- the inner loop -/
theorem inner_ok (sl0 : List (Option Slot)) (x4 : Option Slot) : ∀ (w : List Nat) (p : Nat) (acc : List Nat), sl0.length = 3 → p + w.length ≤ acc.length →
    forL (tg2 5 6) (sSetI 3 (eV 5) (eV 6)) [5, 6] (bxs w p) (sl0 ++ [some (.oL (acc.map ltD1)), x4, none, none]) g = some (.nx, sl0 ++ [some (.oL ((setOn acc w p).map ltD1)), x4, none, none], g)
  | [], p, acc, h0, h => rfl
  | c :: w, p, acc, h0, h => by
    match sl0, h0 with
    | [y0, y1, y2], _ =>
      simp only [List.length_cons] at h
      have ih := inner_ok [y0, y1, y2] x4 w (p + 1) (acc.set p c) rfl (by rw [List.length_set]; omega)
      show forL _ _ _ (.tup [.int p, .str [c]] :: bxs w (p + 1)) _ _ = _
      rw [forL_nx (sl1 := [y0, y1, y2, some (.oL (acc.map ltD1)), x4, some (.d (.int p)), some (.d (.str [c]))]) (sl2 := [y0, y1, y2, some (.oL ((acc.set p c).map ltD1)), x4, some (.d (.int p)), some (.d (.str [c]))]) (g2 := g) rfl ?_]
      · exact ih
      · rw [sSetI_ap (xs := acc.map ltD1) (j := p) (z := p) (d := .str [c]) rfl rfl rfl (ixN_nat (by rw [List.length_map]; omega))]
        rw [List.map_set]
        rfl
theorem seen_after_gen {ss : Sts} {x : D} (hx : asTL x = some (ss.map Sd)) (hB : B ≤ 100) (hs : ∀ s ∈ ss, StOk ws B s) (hss : ss.length ≤ 1000) : f_seen_after [Ww ws, .int B, x] g = some (.ok (.str (seenL ws B ss)), g) := by
  have e : f_seen_after [Ww ws, .int B, x] g = fnK (F_seen_after [some (.d (Ww ws)), some (.d (.int B)), some (.d (x)), none, none, none, none] g) := rfl
  rw [e]
  unfold F_seen_after
  have l1 : (1 : Nat) ≤ LIM := by unfold LIM; decide
  have er : repD (.lst [.str [46]]) (.int B) = some (.lst ((List.replicate B 46).map ltD1)) := by
    have : (0 : Int) ≤ B ∧ (B : Int) ≤ 1000 := by omega
    simp [repD, this]
    exact .inr rfl
  have S1 : sAsg 3 (xL (e2 repD (eLst (aCons (eC (.str [46])) aNil)) (eV 1))) [some (.d (Ww ws)), some (.d (.int B)), some (.d (x)), none, none, none, none] g = some (.nx, [some (.d (Ww ws)), some (.d (.int B)), some (.d (x)), some (.oL ((List.replicate B 46).map ltD1)), none, none, none], g) := by
    simp [l1, er]
  have turns : ∀ (ss' : Sts) (acc : List Nat), (∀ s ∈ ss', StOk ws B s) → acc.length = B →
      forL (tg1 4) (sFor (iL (callM f_boxes_of (aCons (eV 0) (aCons (eV 4) aNil)))) (tg2 5 6) [5, 6] (sSetI 3 (eV 5) (eV 6))) [4, 5, 6] (ss'.map Sd) [some (.d (Ww ws)), some (.d (.int B)), some (.d (x)), some (.oL (acc.map ltD1)), none, none, none] g
      = some (.nx, [some (.d (Ww ws)), some (.d (.int B)), some (.d (x)), some (.oL ((ss'.foldl (fun acc s => setOn acc (wordAt ws s.1) s.2) acc).map ltD1)), none, none, none], g) := by
    intro ss'
    induction ss' with
    | nil => intro acc _ _; rfl
    | cons s ss' ih =>
      intro acc h hl
      have hst := h s (by simp)
      have ih' := ih (setOn acc (wordAt ws s.1) s.2) (fun s' h' => h s' (by simp [h'])) (by rw [setOn_len, hl])
      rw [List.map_cons]
      rw [forL_nx (sl1 := [some (.d (Ww ws)), some (.d (.int B)), some (.d (x)), some (.oL (acc.map ltD1)), some (.d (Sd s)), none, none]) (sl2 := [some (.d (Ww ws)), some (.d (.int B)), some (.d (x)), some (.oL ((setOn acc (wordAt ws s.1) s.2).map ltD1)), some (.d (Sd s)), none, none]) (g2 := g) rfl ?_]
      · exact ih'
      · rw [for_ap]
        have it : iL (callM f_boxes_of (aCons (eV 0) (aCons (eV 4) aNil))) [some (.d (Ww ws)), some (.d (.int B)), some (.d (x)), some (.oL (acc.map ltD1)), some (.d (Sd s)), none, none] g = some (.ok (bxs (wordAt ws s.1) s.2), g) := by
          simp [boxes_ok hst.1 (by have := hst.2; omega)]
        rw [it, doK_ok]
        exact inner_ok [some (.d (Ww ws)), some (.d (.int B)), some (.d (x))] (some (.d (Sd s))) _ _ _ rfl (by rw [hl]; exact hst.2)
  rw [seq_ap, S1, seqK_nx, seq_ap, for_ap]
  have it : iTL (eV 2) [some (.d (Ww ws)), some (.d (.int B)), some (.d (x)), some (.oL ((List.replicate B 46).map ltD1)), none, none, none] g = some (.ok (ss.map Sd), g) := by simp [hx]
  rw [it, doK_ok, turns ss (List.replicate B 46) hs (List.length_replicate), seqK_nx]
  have hlen := seenL_len ws B ss
  have ej : joinD [] (.lst ((seenL ws B ss).map ltD1)) = some (.str (seenL ws B ss)) := by
    have e1 : (seenL ws B ss).map ltD1 = ((seenL ws B ss).map fun c => [c]).map D.str := by rw [List.map_map]; rfl
    rw [e1]
    have h1 : (joinS [] ((seenL ws B ss).map fun c => [c])).length ≤ LIM := by rw [joinS_nil, lt_flat, hlen]; unfold LIM; omega
    have h2 : (((seenL ws B ss).map fun c => [c]).map List.length).sum + ((seenL ws B ss).map fun c => [c]).length * 0 ≤ LIM := by
      rw [← List.length_flatten, lt_flat, hlen]; unfold LIM; omega
    simp only [joinD, asSs_map, Option.bind_some]
    rw [if_pos ⟨h1, h2⟩, joinS_nil, lt_flat]
  show fnK (sRet (eJoin (eC (.str [])) (eR 3)) [some (.d (Ww ws)), some (.d (.int B)), some (.d (x)), some (.oL ((seenL ws B ss).map ltD1)), none, none, none] g) = _
  unfold eJoin
  simp [ej]
theorem seen_after_ok {ss : Sts} (hB : B ≤ 100) (hs : ∀ s ∈ ss, StOk ws B s) (hss : ss.length ≤ 1000) : f_seen_after [Ww ws, .int B, Ss ss] g = some (.ok (.str (seenL ws B ss)), g) := seen_after_gen rfl hB hs hss
theorem seen_ok {ss : Sts} (hL : LetsOk letters) (h : WordsOk letters ws) (h1 : 1 ≤ B) (h2 : B ≤ 8) (hs : StsOk ws B ss) : f_seen [Ww ws, .int B, Ss ss] g = some (.ok (.str (seenL ws B ss)), g) := by
  have e : f_seen [Ww ws, .int B, Ss ss] g = fnK (F_seen [some (.d (Ww ws)), some (.d (.int B)), some (.d (Ss ss))] g) := rfl
  rw [e]
  unfold F_seen
  simp [check_stamps_ok hL h h1 h2 hs, seen_after_ok (by omega) hs.each (by have := hs.few; omega)]
end
end Lw
namespace DL
open PySem L2
/-! ### stepping through a denotation, statement by statement -/
section
variable {G : Type} {sl : SL} {g g1 g2 g3 : G} {Q : Fl → SL → G → Prop}
def WP (f : SM G) (sl : SL) (g : G) (Q : Fl → SL → G → Prop) : Prop := ∃ fl sl' g', f sl g = some (fl, sl', g') ∧ Q fl sl' g'
theorem WP.mono {f : SM G} {Q' : Fl → SL → G → Prop} (h : WP f sl g Q) (k : ∀ fl sl' g', Q fl sl' g' → Q' fl sl' g') : WP f sl g Q' :=
  let ⟨a, b, c, e, q⟩ := h; ⟨a, b, c, e, k _ _ _ q⟩
theorem wp_seq {f1 f2 : SM G} (h : WP f1 sl g fun fl sl1 g1 => fl = .nx ∧ WP f2 sl1 g1 Q) : WP (sSeq f1 f2) sl g Q := by
  obtain ⟨fl, sl1, g1, e, rfl, a, b, c, e2, q⟩ := h
  refine ⟨a, b, c, ?_, q⟩
  rw [seq_ap, e, seqK_nx, e2]
theorem wp_seq2 {f1 f2 : SM G} (h : WP f1 sl g fun fl sl1 g1 => (fl = .nx ∧ WP f2 sl1 g1 Q) ∨ (∃ d, fl = .rt d ∧ Q (.rt d) sl1 g1)) : WP (sSeq f1 f2) sl g Q := by
  obtain ⟨fl, sl1, g1, e, h⟩ := h
  rcases h with ⟨rfl, a, b, c, e2, q⟩ | ⟨d, rfl, q⟩
  · refine ⟨a, b, c, ?_, q⟩
    rw [seq_ap, e, seqK_nx, e2]
  · exact ⟨_, _, _, by rw [seq_ap, e, seqK_rt], q⟩
theorem wp_skip (h : Q .nx sl g) : WP sSkip sl g Q := ⟨_, _, _, rfl, h⟩
theorem wp_asg {i : Nat} {f : M G D} {d : D} (e : f sl g = some (.ok d, g1)) (h : Q .nx (sl.set i (some (.d d))) g1) : WP (sAsg i (xD f)) sl g Q :=
  ⟨_, _, _, by rw [asg_ap, xD_ap, e]; rfl, h⟩
theorem wp_asgL {i : Nat} {f : M G D} {xs : List D} (e : f sl g = some (.ok (.lst xs), g1)) (h : Q .nx (sl.set i (some (.oL xs))) g1) : WP (sAsg i (xL f)) sl g Q :=
  ⟨_, _, _, by rw [asg_ap, xL_ap, e]; rfl, h⟩
theorem wp_ret {f : M G D} {d : D} (e : f sl g = some (.ok d, g1)) (h : Q (.rt d) sl g1) : WP (sRet f) sl g Q :=
  ⟨_, _, _, by rw [ret_ap, e, doK_ok], h⟩
theorem wp_if {c : M G Bool} {a b : SM G} {k : Bool} (e : c sl g = some (.ok k, g1)) (ht : k = true → WP a sl g1 Q) (hf : k = false → WP b sl g1 Q) : WP (sIf c a b) sl g Q := by
  cases k with
  | true => obtain ⟨x, y, z, e2, q⟩ := ht rfl; exact ⟨x, y, z, by rw [if_ap, e, ifK_ok, if_pos rfl, e2], q⟩
  | false => obtain ⟨x, y, z, e2, q⟩ := hf rfl; exact ⟨x, y, z, by rw [if_ap, e, ifK_ok, if_neg (by decide), e2], q⟩
theorem st_asg {i : Nat} {f : M G D} {f2 : SM G} {d : D} (e : f sl g = some (.ok d, g1)) (h : WP f2 (sl.set i (some (.d d))) g1 Q) : WP (sSeq (sAsg i (xD f)) f2) sl g Q := wp_seq (wp_asg e ⟨rfl, h⟩)
theorem st_asgL {i : Nat} {f : M G D} {f2 : SM G} {xs : List D} (e : f sl g = some (.ok (.lst xs), g1)) (h : WP f2 (sl.set i (some (.oL xs))) g1 Q) : WP (sSeq (sAsg i (xL f)) f2) sl g Q := wp_seq (wp_asgL e ⟨rfl, h⟩)
theorem st_par {i j : Nat} {f h : M G D} {f2 : SM G} {d d2 : D} (e : f sl g = some (.ok d, g1)) (e2 : h sl g1 = some (.ok d2, g2)) (k : WP f2 ((sl.set i (some (.d d))).set j (some (.d d2))) g2 Q) : WP (sSeq (sPar i j (xD f) (xD h)) f2) sl g Q := by
  refine wp_seq ⟨.nx, _, _, ?_, rfl, k⟩
  rw [par_ap, xD_ap, e, bindK_ok, pure_ap, doK_ok, do_ap, xD_ap, e2]
  rfl
theorem st_parL {i j : Nat} {f h : M G D} {f2 : SM G} {d : D} {xs : List D} (e : f sl g = some (.ok d, g1)) (e2 : h sl g1 = some (.ok (.lst xs), g2)) (k : WP f2 ((sl.set i (some (.d d))).set j (some (.oL xs))) g2 Q) : WP (sSeq (sPar i j (xD f) (xL h)) f2) sl g Q := by
  refine wp_seq ⟨.nx, _, _, ?_, rfl, k⟩
  rw [par_ap, xD_ap, e, bindK_ok, pure_ap, doK_ok, do_ap, xL_ap, e2]
  rfl
theorem st_par3 {i j l : Nat} {f h m : M G D} {f2 : SM G} {d d2 d3 : D} (e : f sl g = some (.ok d, g1)) (e2 : h sl g1 = some (.ok d2, g2)) (e3 : m sl g2 = some (.ok d3, g3)) (k : WP f2 (((sl.set i (some (.d d))).set j (some (.d d2))).set l (some (.d d3))) g3 Q) : WP (sSeq (sPar3 i j l (xD f) (xD h) (xD m)) f2) sl g Q := by
  refine wp_seq ⟨.nx, _, _, ?_, rfl, k⟩
  rw [par3_ap, xD_ap, e, bindK_ok, pure_ap, doK_ok, do_ap, xD_ap, e2, bindK_ok, pure_ap, doK_ok, do_ap, xD_ap, e3]
  rfl
theorem st_not {c : M G Bool} {a f2 : SM G} (e : c sl g = some (.ok false, g1)) (k : WP f2 sl g1 Q) : WP (sSeq (sIf c a sSkip) f2) sl g Q :=
  wp_seq (wp_if e (by intro h; cases h) fun _ => wp_skip ⟨rfl, k⟩)
theorem wp_not {c : M G Bool} {a : SM G} (e : c sl g = some (.ok false, g1)) (k : Q .nx sl g1) : WP (sIf c a sSkip) sl g Q :=
  wp_if e (by intro h; cases h) fun _ => wp_skip k
theorem st_drop {f : M G D} {f2 : SM G} {d : D} (e : f sl g = some (.ok d, g1)) (k : WP f2 sl g1 Q) : WP (sSeq (sDrop f) f2) sl g Q :=
  wp_seq ⟨.nx, _, _, by rw [drop_ap, e, doK_ok]; rfl, rfl, k⟩
theorem wp_frz {i : Nat} {f : SM G} (h : WP f (frz1 i sl) g Q) : WP (sFrz i f) sl g Q := h
theorem wp_app {i : Nat} {f : M G D} {d : D} {xs : List D} (h : sl[i]? = some (some (.oL xs))) (e : f sl g = some (.ok d, g1)) (hl : xs.length < LIM) (k : Q .nx (sl.set i (some (.oL (xs ++ [d])))) g1) : WP (sApp i f) sl g Q :=
  ⟨_, _, _, by rw [sApp_ap h, e, doK_ok, mutL_ap (ys := xs ++ [d]) h (by simp only [hl, if_true])], k⟩
theorem wp_ext {i : Nat} {f : M G D} {xs ys : List D} (h : sl[i]? = some (some (.oL xs))) (e : f sl g = some (.ok (.lst ys), g1)) (hl : xs.length + ys.length ≤ LIM) (k : Q .nx (sl.set i (some (.oL (xs ++ ys)))) g1) : WP (sExt i f) sl g Q := by
  refine ⟨.nx, _, _, ?_, k⟩
  unfold sExt sOwnL
  rw [h]
  simp only
  rw [do_ap, e, doK_ok]
  exact mutL_ap h (by simp only [hl, if_true])
/-- a loop that leaves all as it was -/
theorem wp_for {it : M G (List D)} {tg : Tg} {vs : List Nat} {b : SM G} {ds : List D} (e : it sl g = some (.ok ds, g1))
    (H : ∀ d ∈ ds, ∃ sl1, tg d sl = some sl1 ∧ WP b sl1 g1 fun fl sl2 g2 => (fl = .nx ∨ fl = .ct) ∧ wipeS sl2 vs = sl ∧ g2 = g1) (k : Q .nx sl g1) : WP (sFor it tg vs b) sl g Q := by
  refine ⟨.nx, sl, g1, ?_, k⟩
  rw [for_ap, e, doK_ok]
  clear e k
  induction ds with
  | nil => rfl
  | cons d ds ih =>
    obtain ⟨sl1, h1, fl, sl2, g2, h2, h3, h4, rfl⟩ := H d (by simp)
    have ih := ih fun d' hd' => H d' (by simp [hd'])
    unfold forL
    rw [h1]
    simp only [h2]
    rcases h3 with rfl | rfl
    · simp only [h4]; exact ih
    · simp only [h4]; exact ih
theorem st_for {it : M G (List D)} {tg : Tg} {vs : List Nat} {b f2 : SM G} {ds : List D} (e : it sl g = some (.ok ds, g1))
    (H : ∀ d ∈ ds, ∃ sl1, tg d sl = some sl1 ∧ WP b sl1 g1 fun fl sl2 g2 => (fl = .nx ∨ fl = .ct) ∧ wipeS sl2 vs = sl ∧ g2 = g1) (k : WP f2 sl g1 Q) : WP (sSeq (sFor it tg vs b) f2) sl g Q :=
  wp_seq (wp_for e H ⟨rfl, k⟩)
/-- a loop that keeps what Inv tells of the turns done -/
theorem wp_forI {it : M G (List D)} {tg : Tg} {vs : List Nat} {b : SM G} {ds : List D} (Inv : List D → SL → G → Prop) (e : it sl g = some (.ok ds, g1)) (h0 : Inv [] sl g1)
    (H : ∀ pre d post sl g, ds = pre ++ d :: post → Inv pre sl g → ∃ sl1, tg d sl = some sl1 ∧ WP b sl1 g fun fl sl2 g2 => (fl = .nx ∨ fl = .ct) ∧ Inv (pre ++ [d]) (wipeS sl2 vs) g2)
    (k : ∀ sl g, Inv ds sl g → Q .nx sl g) : WP (sFor it tg vs b) sl g Q := by
  have main : ∀ (post pre : List D) (sl : SL) (g : G), ds = pre ++ post → Inv pre sl g → ∃ sl' g', forL tg b vs post sl g = some (.nx, sl', g') ∧ Inv ds sl' g' := by
    intro post
    induction post with
    | nil => intro pre sl g e i; rw [List.append_nil] at e; subst e; exact ⟨sl, g, rfl, i⟩
    | cons d post ih =>
      intro pre sl g e i
      obtain ⟨sl1, h1, fl, sl2, g2, h2, h3, h4⟩ := H pre d post sl g e i
      obtain ⟨sl', g', h5, h6⟩ := ih (pre ++ [d]) _ _ (by rw [e]; simp) h4
      refine ⟨sl', g', ?_, h6⟩
      unfold forL
      rw [h1]
      simp only [h2]
      rcases h3 with rfl | rfl
      · exact h5
      · exact h5
  obtain ⟨sl', g', h1, h2⟩ := main ds [] sl g1 rfl h0
  exact ⟨.nx, sl', g', by rw [for_ap, e, doK_ok, h1], k _ _ h2⟩
/-- a loop over data of one kind: what is done is a fold -/
theorem wp_forF {α A : Type} {it : M G (List D)} {tg : Tg} {vs : List Nat} {b : SM G} (f : α → D) {xs : List α} (mk : A → SL) (step : A → α → A) (P : A → Prop) (a0 : A) (e : it sl g = some (.ok (xs.map f), g1)) (h0 : mk a0 = sl) (p0 : P a0)
    (H : ∀ a x, x ∈ xs → P a → ∃ sl1, tg (f x) (mk a) = some sl1 ∧ WP b sl1 g1 fun fl sl2 g2 => (fl = .nx ∨ fl = .ct) ∧ g2 = g1 ∧ wipeS sl2 vs = mk (step a x) ∧ P (step a x))
    (k : P (xs.foldl step a0) → Q .nx (mk (xs.foldl step a0)) g1) : WP (sFor it tg vs b) sl g Q := by
  subst h0
  have main : ∀ (ys : List α) (a : A), (∀ y ∈ ys, y ∈ xs) → P a → forL tg b vs (ys.map f) (mk a) g1 = some (.nx, mk (ys.foldl step a), g1) ∧ P (ys.foldl step a) := by
    intro ys
    induction ys with
    | nil => intro a _ p; exact ⟨rfl, p⟩
    | cons y ys ih =>
      intro a hy p
      obtain ⟨sl1, h1, fl, sl2, g2, h2, h3, rfl, h4, h5⟩ := H a y (hy y (by simp)) p
      have ih := ih (step a y) (fun z hz => hy z (by simp [hz])) h5
      refine ⟨?_, ih.2⟩
      rw [List.map_cons]
      unfold forL
      rw [h1]
      simp only [h2]
      rcases h3 with rfl | rfl
      · simp only [h4]; exact ih.1
      · simp only [h4]; exact ih.1
  obtain ⟨h1, h2⟩ := main xs a0 (fun _ h => h) p0
  exact ⟨.nx, _, _, by rw [for_ap, e, doK_ok, h1], k h2⟩
theorem st_forF {α A : Type} {it : M G (List D)} {tg : Tg} {vs : List Nat} {b f2 : SM G} (f : α → D) {xs : List α} (mk : A → SL) (step : A → α → A) (P : A → Prop) (a0 : A) (e : it sl g = some (.ok (xs.map f), g1)) (h0 : mk a0 = sl) (p0 : P a0)
    (H : ∀ a x, x ∈ xs → P a → ∃ sl1, tg (f x) (mk a) = some sl1 ∧ WP b sl1 g1 fun fl sl2 g2 => (fl = .nx ∨ fl = .ct) ∧ g2 = g1 ∧ wipeS sl2 vs = mk (step a x) ∧ P (step a x))
    (k : P (xs.foldl step a0) → WP f2 (mk (xs.foldl step a0)) g1 Q) : WP (sSeq (sFor it tg vs b) f2) sl g Q :=
  wp_seq (wp_forF f mk step P a0 e h0 p0 H fun p => ⟨rfl, k p⟩)
/-- a loop that is left by a return at the first x of which p tells -/
theorem wp_find {α : Type} {it : M G (List D)} {tg : Tg} {vs : List Nat} {b : SM G} (f : α → D) {xs : List α} (p : α → Bool) (r : α → D) (e : it sl g = some (.ok (xs.map f), g1))
    (H : ∀ x ∈ xs, ∃ sl1, tg (f x) sl = some sl1 ∧ WP b sl1 g1 fun fl sl2 g2 => g2 = g1 ∧ if p x = true then fl = .rt (r x) else fl = .nx ∧ wipeS sl2 vs = sl)
    (k : match xs.find? p with | some x => ∀ sl', Q (.rt (r x)) sl' g1 | none => Q .nx sl g1) : WP (sFor it tg vs b) sl g Q := by
  have main : ∀ (ys : List α), (∀ y ∈ ys, y ∈ xs) → match ys.find? p with
      | some x => ∃ sl', forL tg b vs (ys.map f) sl g1 = some (.rt (r x), sl', g1)
      | none => forL tg b vs (ys.map f) sl g1 = some (.nx, sl, g1) := by
    intro ys
    induction ys with
    | nil => intro _; rfl
    | cons y ys ih =>
      intro hy
      obtain ⟨sl1, h1, fl, sl2, g2, h2, rfl, h3⟩ := H y (hy y (by simp))
      have ih := ih fun z hz => hy z (by simp [hz])
      rw [List.find?_cons]
      cases hp : p y with
      | true =>
        rw [if_pos hp] at h3
        subst h3
        refine ⟨sl2, ?_⟩
        rw [List.map_cons]
        unfold forL
        rw [h1]
        simp only [h2]
      | false =>
        rw [if_neg (by rw [hp]; decide)] at h3
        obtain ⟨rfl, h4⟩ := h3
        have e2 : forL tg b vs ((y :: ys).map f) sl g2 = forL tg b vs (ys.map f) sl g2 := by
          rw [List.map_cons]
          conv => lhs; unfold forL
          rw [h1]
          simp only [h2, h4]
        simp only [e2]
        exact ih
  have hm := main xs fun _ h => h
  cases hf : xs.find? p with
  | some x =>
    rw [hf] at k hm
    obtain ⟨sl', h⟩ := hm
    exact ⟨_, _, _, by rw [for_ap, e, doK_ok, h], k sl'⟩
  | none =>
    rw [hf] at k hm
    exact ⟨_, _, _, by rw [for_ap, e, doK_ok]; exact hm, k⟩
/-- a function's answer -/
theorem fn_rt {m : Nat} {F : SM G} {ds : List D} {d : D} (e : ds.map (fun d => some (Slot.d d)) ++ List.replicate (m - ds.length) none = sl) (h : WP F sl g fun fl _ g' => (fl = .rt d ∨ (fl = .nx ∧ d = .non)) ∧ g' = g2) : fnD m F ds g = some (.ok d, g2) := by
  obtain ⟨fl, sl', g', h1, h2, rfl⟩ := h
  rw [fn_ap, e, h1]
  rcases h2 with rfl | ⟨rfl, rfl⟩
  · rfl
  · rfl
theorem wp_while0 {c : M G Bool} {vs : List Nat} {b : SM G} {n : Nat} (e : c sl g = some (.ok false, g1)) (k : Q .nx sl g1) : WP (sWhile c vs b (n + 1)) sl g Q :=
  ⟨_, _, _, by unfold sWhile; rw [do_ap, e, doK_ok, if_neg (by decide)]; rfl, k⟩
theorem wp_while1 {c : M G Bool} {vs : List Nat} {b : SM G} {n : Nat} (e : c sl g = some (.ok true, g1)) (k : WP b sl g1 fun fl sl2 g2 => fl = .nx ∧ WP (sWhile c vs b n) (wipeS sl2 vs) g2 Q) : WP (sWhile c vs b (n + 1)) sl g Q := by
  obtain ⟨fl, sl2, g2, h1, rfl, x, y, z, h2, q⟩ := k
  refine ⟨x, y, z, ?_, q⟩
  unfold sWhile
  rw [do_ap, e, doK_ok, if_pos rfl]
  simp only [h1]
  exact h2

theorem wp_forE {it : M G (List D)} {tg : Tg} {vs : List Nat} {b : SM G} {ds : List D} {fl : Fl} {sl' : SL} (e : it sl g = some (.ok ds, g1)) (e2 : forL tg b vs ds sl g1 = some (fl, sl', g2)) (k : Q fl sl' g2) : WP (sFor it tg vs b) sl g Q :=
  ⟨_, _, _, by rw [for_ap, e, doK_ok, e2], k⟩
theorem wp_seqE {it : M G (List D)} {tg : Tg} {vs : List Nat} {b f2 : SM G} {ds : List D} {fl : Fl} {sl' : SL} (e : it sl g = some (.ok ds, g1)) (e2 : seqK (forL tg b vs ds sl g1) f2 = some (fl, sl', g2)) (k : Q fl sl' g2) : WP (sSeq (sFor it tg vs b) f2) sl g Q :=
  ⟨_, _, _, by rw [seq_ap, for_ap, e, doK_ok, e2], k⟩
/-! the same, where nothing is drawn -/
theorem p_asg {i : Nat} {f : M G D} {f2 : SM G} {d : D} (e : f sl g = some (.ok d, g)) (h : WP f2 (sl.set i (some (.d d))) g Q) : WP (sSeq (sAsg i (xD f)) f2) sl g Q := st_asg e h
theorem p_asgL {i : Nat} {f : M G D} {f2 : SM G} {xs : List D} (e : f sl g = some (.ok (.lst xs), g)) (h : WP f2 (sl.set i (some (.oL xs))) g Q) : WP (sSeq (sAsg i (xL f)) f2) sl g Q := st_asgL e h
theorem p_par {i j : Nat} {f h : M G D} {f2 : SM G} {d d2 : D} (e : f sl g = some (.ok d, g)) (e2 : h sl g = some (.ok d2, g)) (k : WP f2 ((sl.set i (some (.d d))).set j (some (.d d2))) g Q) : WP (sSeq (sPar i j (xD f) (xD h)) f2) sl g Q := st_par e e2 k
theorem p_parL {i j : Nat} {f h : M G D} {f2 : SM G} {d : D} {xs : List D} (e : f sl g = some (.ok d, g)) (e2 : h sl g = some (.ok (.lst xs), g)) (k : WP f2 ((sl.set i (some (.d d))).set j (some (.oL xs))) g Q) : WP (sSeq (sPar i j (xD f) (xL h)) f2) sl g Q := st_parL e e2 k
theorem p_not {c : M G Bool} {a f2 : SM G} (e : c sl g = some (.ok false, g)) (k : WP f2 sl g Q) : WP (sSeq (sIf c a sSkip) f2) sl g Q := st_not e k
theorem p_not1 {c : M G Bool} {a : SM G} (e : c sl g = some (.ok false, g)) (k : Q .nx sl g) : WP (sIf c a sSkip) sl g Q := wp_not e k
theorem p_drop {f : M G D} {f2 : SM G} {d : D} (e : f sl g = some (.ok d, g)) (k : WP f2 sl g Q) : WP (sSeq (sDrop f) f2) sl g Q := st_drop e k
theorem p_ret {f : M G D} {d : D} (e : f sl g = some (.ok d, g)) (h : Q (.rt d) sl g) : WP (sRet f) sl g Q := wp_ret e h
theorem p_if {c : M G Bool} {a b : SM G} {k : Bool} (e : c sl g = some (.ok k, g)) (ht : k = true → WP a sl g Q) (hf : k = false → WP b sl g Q) : WP (sIf c a b) sl g Q := wp_if e ht hf
theorem p_app {i : Nat} {f : M G D} {d : D} {xs : List D} (h : sl[i]? = some (some (.oL xs))) (e : f sl g = some (.ok d, g)) (hl : xs.length < LIM) (k : Q .nx (sl.set i (some (.oL (xs ++ [d])))) g) : WP (sApp i f) sl g Q := wp_app h e hl k
theorem p_ext {i : Nat} {f : M G D} {xs ys : List D} (h : sl[i]? = some (some (.oL xs))) (e : f sl g = some (.ok (.lst ys), g)) (hl : xs.length + ys.length ≤ LIM) (k : Q .nx (sl.set i (some (.oL (xs ++ ys)))) g) : WP (sExt i f) sl g Q := wp_ext h e hl k
end
section
variable {G : Type}
theorem comp_none {it : M G (List D)} {vs : List Nat} {tg : Tg} {cnd : M G Bool} {elt : M G D} {sl : SL} {g g1 : G} {ds : List D} (hi : it sl g = some (.ok ds, g1)) (hl : ds.length ≤ LIM)
    (H : ∀ d ∈ ds, ∃ sl1, tg d (wipeS sl vs) = some sl1 ∧ cnd sl1 g1 = some (.ok false, g1)) : eComp it vs tg cnd elt sl g = some (.ok (.lst []), g1) := by
  have := comp_pure (elt := elt) (fun _ => false) id hi hl fun d hd => let ⟨sl1, h1, h2⟩ := H d hd; ⟨sl1, h1, h2, fun h => by cases h⟩
  rw [this, List.filter_eq_nil_iff.mpr (by simp)]
  rfl
end
/-! ### data of one kind -/
theorem flats_all2 {n : Nat} : ∀ {xs : List D}, (∀ x ∈ xs, flat n x = true) → flats n xs = true
  | [], _ => rfl
  | x :: xs, h => by
    show (flat n x && flats n xs) = true
    rw [h x (by simp), flats_all2 fun y hy => h y (by simp [hy])]
    rfl
theorem eqBs_map {α : Type} [DecidableEq α] (f : α → D) (hf : ∀ x y, eqB (f x) (f y) = decide (x = y)) : ∀ xs ys : List α, eqBs (xs.map f) (ys.map f) = decide (xs = ys)
  | [], [] => by simp [eqBs]
  | [], _ :: _ => by simp [eqBs]
  | _ :: _, [] => by simp [eqBs]
  | x :: xs, y :: ys => by
    show (eqB (f x) (f y) && eqBs (xs.map f) (ys.map f)) = _
    rw [hf, eqBs_map f hf xs ys]
    by_cases h : x = y <;> by_cases h2 : xs = ys <;> simp [h, h2]
theorem eqB_str (a b : List Nat) : eqB (.str a) (.str b) = decide (a = b) := by
  show (a == b) = _
  rw [Bool.eq_iff_iff]; simp
theorem eqB_int (a b : Int) : eqB (.int a) (.int b) = decide (a = b) := by
  show (a == b) = _
  rw [Bool.eq_iff_iff]; simp
theorem eqB_nat (a b : Nat) : eqB (.int a) (.int b) = decide (a = b) := by
  rw [eqB_int]
  by_cases h : a = b
  · simp [h]
  · simp [h]; omega
theorem flats_str {n : Nat} (l : List (List Nat)) : flats n (l.map D.str) = true := flats_all2 fun x hx => by obtain ⟨_, _, rfl⟩ := List.mem_map.mp hx; rfl
theorem flats_nat {n : Nat} (l : List Nat) : flats n (l.map fun i => D.int (i : Nat)) = true := flats_all2 fun x hx => by obtain ⟨_, _, rfl⟩ := List.mem_map.mp hx; rfl
theorem eqD_tS (a b : List (List Nat)) : eqD (.tup (a.map D.str)) (.tup (b.map D.str)) = some (.bl (decide (a = b))) := by
  show (if (flats 7 _ && flats 7 _) = true then some (D.bl (eqBs _ _)) else none) = _
  rw [flats_str, flats_str, eqBs_map D.str eqB_str]; rfl
theorem neD_tS (a b : List (List Nat)) : neD (.tup (a.map D.str)) (.tup (b.map D.str)) = some (.bl (!decide (a = b))) := by
  show (if (flats 7 _ && flats 7 _) = true then some (D.bl (!eqBs _ _)) else none) = _
  rw [flats_str, flats_str, eqBs_map D.str eqB_str]; rfl
theorem neD_lS (a b : List (List Nat)) : neD (.lst (a.map D.str)) (.lst (b.map D.str)) = some (.bl (!decide (a = b))) := by
  show (if (flats 7 _ && flats 7 _) = true then some (D.bl (!eqBs _ _)) else none) = _
  rw [flats_str, flats_str, eqBs_map D.str eqB_str]; rfl
theorem eqD_lS (a b : List (List Nat)) : eqD (.lst (a.map D.str)) (.lst (b.map D.str)) = some (.bl (decide (a = b))) := by
  show (if (flats 7 _ && flats 7 _) = true then some (D.bl (eqBs _ _)) else none) = _
  rw [flats_str, flats_str, eqBs_map D.str eqB_str]; rfl
theorem eqD_tN (a b : List Nat) : eqD (.tup (a.map fun i => D.int (i : Nat))) (.tup (b.map fun i => D.int (i : Nat))) = some (.bl (decide (a = b))) := by
  show (if (flats 7 _ && flats 7 _) = true then some (D.bl (eqBs _ _)) else none) = _
  rw [flats_nat, flats_nat, eqBs_map (fun i : Nat => D.int i) eqB_nat]; rfl
theorem neD_tN (a b : List Nat) : neD (.tup (a.map fun i => D.int (i : Nat))) (.tup (b.map fun i => D.int (i : Nat))) = some (.bl (!decide (a = b))) := by
  show (if (flats 7 _ && flats 7 _) = true then some (D.bl (!eqBs _ _)) else none) = _
  rw [flats_nat, flats_nat, eqBs_map (fun i : Nat => D.int i) eqB_nat]; rfl
theorem neD_lN (a b : List Nat) : neD (.lst (a.map fun i => D.int (i : Nat))) (.lst (b.map fun i => D.int (i : Nat))) = some (.bl (!decide (a = b))) := by
  show (if (flats 7 _ && flats 7 _) = true then some (D.bl (!eqBs _ _)) else none) = _
  rw [flats_nat, flats_nat, eqBs_map (fun i : Nat => D.int i) eqB_nat]; rfl
theorem inB_tup2 {a : D} {xs : List D} (h : flat0 a = true) (h2 : ∀ x ∈ xs, flat0 x = true) : inB a (.tup xs) = some (xs.any fun y => eqB y a) := by
  show (if _ then _ else _) = _
  rw [if_pos]
  rw [h, List.all_eq_true.mpr h2]
  rfl
theorem any_map_eq {α : Type} [DecidableEq α] (f : α → D) (hf : ∀ x y, eqB (f x) (f y) = decide (x = y)) (xs : List α) (a : α) [Decidable (a ∈ xs)] : ((xs.map f).any fun y => eqB y (f a)) = decide (a ∈ xs) := by
  rw [Bool.eq_iff_iff, List.any_eq_true, decide_eq_true_eq]
  constructor
  · rintro ⟨y, hy, e⟩
    obtain ⟨x, hx, rfl⟩ := List.mem_map.mp hy
    rw [hf, decide_eq_true_eq] at e
    exact e ▸ hx
  · intro h
    exact ⟨f a, List.mem_map.mpr ⟨a, h, rfl⟩, by rw [hf]; simp⟩
theorem inD_tS (s : List Nat) (l : List (List Nat)) : inD (.str s) (.tup (l.map D.str)) = some (.bl (decide (s ∈ l))) := by
  unfold inD
  rw [inB_tup2 rfl fun x hx => by obtain ⟨_, _, rfl⟩ := List.mem_map.mp hx; rfl, any_map_eq D.str eqB_str]; rfl
theorem ninD_tS (s : List Nat) (l : List (List Nat)) : ninD (.str s) (.tup (l.map D.str)) = some (.bl (!decide (s ∈ l))) := by
  unfold ninD
  rw [inB_tup2 rfl fun x hx => by obtain ⟨_, _, rfl⟩ := List.mem_map.mp hx; rfl, any_map_eq D.str eqB_str]; rfl
theorem inB_lst2 {a : D} {xs : List D} (h : flat0 a = true) (h2 : ∀ x ∈ xs, flat0 x = true) : inB a (.lst xs) = some (xs.any fun y => eqB y a) := inB_tup2 h h2
theorem inD_lS (s : List Nat) (l : List (List Nat)) : inD (.str s) (.lst (l.map D.str)) = some (.bl (decide (s ∈ l))) := inD_tS s l
theorem ninD_lS (s : List Nat) (l : List (List Nat)) : ninD (.str s) (.lst (l.map D.str)) = some (.bl (!decide (s ∈ l))) := ninD_tS s l
theorem inD_tN (s : Nat) (l : List Nat) : inD (.int s) (.tup (l.map fun i => D.int (i : Nat))) = some (.bl (decide (s ∈ l))) := by
  unfold inD
  rw [inB_tup2 rfl fun x hx => by obtain ⟨_, _, rfl⟩ := List.mem_map.mp hx; rfl, any_map_eq (fun i : Nat => D.int i) eqB_nat]; rfl
theorem ninD_tN (s : Nat) (l : List Nat) : ninD (.int s) (.tup (l.map fun i => D.int (i : Nat))) = some (.bl (!decide (s ∈ l))) := by
  unfold ninD
  rw [inB_tup2 rfl fun x hx => by obtain ⟨_, _, rfl⟩ := List.mem_map.mp hx; rfl, any_map_eq (fun i : Nat => D.int i) eqB_nat]; rfl
theorem inD_lN (s : Nat) (l : List Nat) : inD (.int s) (.lst (l.map fun i => D.int (i : Nat))) = some (.bl (decide (s ∈ l))) := inD_tN s l
theorem ninD_lN (s : Nat) (l : List Nat) : ninD (.int s) (.lst (l.map fun i => D.int (i : Nat))) = some (.bl (!decide (s ∈ l))) := ninD_tN s l
theorem slD_to (xs : List D) (n : Nat) : slD (.tup xs) none (some (n : Int)) = some (.tup (xs.take n)) := by
  show some (D.tup (cut xs none (some (n : Int)))) = _
  rw [cut_to]
theorem slD_from (xs : List D) (n : Nat) : slD (.tup xs) (some (n : Int)) none = some (.tup (xs.drop n)) := by
  show some (D.tup (cut xs (some (n : Int)) none)) = _
  rw [cut_from]
theorem slS_to (xs : List Nat) (n : Nat) : slD (.str xs) none (some (n : Int)) = some (.str (xs.take n)) := by
  show some (D.str (cut xs none (some (n : Int)))) = _
  rw [cut_to]
theorem slS_from (xs : List Nat) (n : Nat) : slD (.str xs) (some (n : Int)) none = some (.str (xs.drop n)) := by
  show some (D.str (cut xs (some (n : Int)) none)) = _
  rw [cut_from]
@[simp] theorem neD_nilL : neD (.lst []) (.lst []) = some (.bl false) := rfl
@[simp] theorem neD_nilT : neD (.tup []) (.tup []) = some (.bl false) := rfl
@[simp] theorem eqD_nilL : eqD (.lst []) (.lst []) = some (.bl true) := rfl
@[simp] theorem eqD_nilT : eqD (.tup []) (.tup []) = some (.bl true) := rfl
theorem mulD_int {a b : Int} (h : smallI b = true) : mulD (.int a) (.int b) = some (.int (a * b)) := by
  simp only [mulD, h, Bool.or_true, if_true]
theorem small_of {b : Int} (h1 : -1000000 < b) (h2 : b < 1000000) : smallI b = true := by
  unfold smallI
  rw [Bool.and_eq_true, decide_eq_true_eq, decide_eq_true_eq]
  omega
theorem atI_neg1 {α : Type} {xs : List α} (h : xs ≠ []) : atI xs (-1) = some (xs.getLast h) := by
  have hp := List.length_pos_iff.mpr h
  refine atI_iff.mpr ⟨xs.length - 1, ?_, ?_⟩
  · unfold ixN
    rw [if_neg (by omega), if_pos (by omega)]
    congr 1
    omega
  · rw [List.getLast_eq_getElem, List.getElem?_eq_getElem (by omega)]
end DL
namespace Lw
open PySem L2 DL
theorem by_hand (g : Tw × Unit) : f__law_by_hand [] g = some (.ok (.bl true), g) := by kernel_rfl
end Lw
namespace DL
open PySem L2
/-! ### cut and joined -/
theorem spl_ne (s : Nat) : ∀ (r acc : List Nat), splN s acc r ≠ []
  | [], acc => by simp [splN]
  | c :: r, acc => by
    show (if c = s then acc :: splN s [] r else splN s (acc ++ [c]) r) ≠ []
    split
    · simp
    · exact spl_ne s r _
theorem join_spl (s : Nat) : ∀ (r acc : List Nat), joinS [s] (splN s acc r) = acc ++ r
  | [], acc => by simp [splN, joinS]
  | c :: r, acc => by
    show joinS [s] (if c = s then acc :: splN s [] r else splN s (acc ++ [c]) r) = _
    split
    · rename_i h
      subst h
      have ih := join_spl c r []
      match hq : splN c [] r with
      | [] => exact absurd hq (spl_ne c r [])
      | p :: q =>
        rw [hq] at ih
        show acc ++ ([c] ++ joinS [c] (p :: q)) = _
        rw [ih]
        simp
    · rw [join_spl s r (acc ++ [c])]
      simp
theorem spl_app (s : Nat) : ∀ (w acc r : List Nat), s ∉ w → splN s acc (w ++ r) = splN s (acc ++ w) r
  | [], acc, r, _ => by simp
  | c :: w, acc, r, h => by
    have hc : ¬ c = s := fun e => h (by simp [e])
    show (if c = s then acc :: splN s [] (w ++ r) else splN s (acc ++ [c]) (w ++ r)) = _
    rw [if_neg hc, spl_app s w (acc ++ [c]) r (fun hm => h (by simp [hm]))]
    simp
theorem spl_hit (s : Nat) (acc r : List Nat) : splN s acc (s :: r) = acc :: splN s [] r := by
  show (if s = s then acc :: splN s [] r else splN s (acc ++ [s]) r) = _
  rw [if_pos rfl]
theorem spl_join (s : Nat) : ∀ (ws : List (List Nat)) (w : List Nat), (∀ x ∈ w :: ws, s ∉ x) → splN s [] (joinS [s] (w :: ws)) = w :: ws
  | [], w, h => by
    have := spl_app s w [] [] (h w (by simp))
    rw [List.append_nil, List.nil_append] at this
    show splN s [] w = _
    rw [this]
    rfl
  | v :: ws, w, h => by
    have ih := spl_join s ws v fun x hx => h x (by simp [List.mem_cons.mp hx])
    show splN s [] (w ++ ([s] ++ joinS [s] (v :: ws))) = _
    rw [spl_app s w [] _ (h w (by simp)), List.nil_append]
    show splN s w (s :: joinS [s] (v :: ws)) = _
    rw [spl_hit, ih]
theorem joinS_len (s : Nat) : ∀ (ps : List (List Nat)), (joinS [s] ps).length ≤ (ps.map List.length).sum + ps.length
  | [] => by simp [joinS]
  | [p] => by simp [joinS]
  | p :: q :: r => by
    have ih := joinS_len s (q :: r)
    show (p ++ ([s] ++ joinS [s] (q :: r))).length ≤ _
    simp only [List.length_append, List.length_cons, List.length_nil, List.map_cons, List.sum_cons] at ih ⊢
    omega
theorem sum_le {ps : List (List Nat)} {m : Nat} (h : ∀ p ∈ ps, p.length ≤ m) : (ps.map List.length).sum ≤ ps.length * m := by
  induction ps with
  | nil => simp
  | cons p ps ih =>
    have := h p (by simp)
    have ih := ih fun q hq => h q (by simp [hq])
    simp only [List.map_cons, List.sum_cons, List.length_cons, Nat.add_mul, Nat.one_mul]
    omega
theorem joinD_t {s : Nat} {ps : List (List Nat)} {m : Nat} (h : ∀ p ∈ ps, p.length ≤ m) (hl : ps.length * (m + 1) ≤ 50000) : joinD [s] (.tup (ps.map D.str)) = some (.str (joinS [s] ps)) := by
  have h1 := joinS_len s ps
  have h2 := sum_le h
  rw [Nat.mul_add, Nat.mul_one] at hl
  have e : (joinS [s] ps).length ≤ LIM ∧ (ps.map List.length).sum + ps.length * [s].length ≤ LIM := by
    simp only [List.length_cons, List.length_nil]
    unfold LIM
    omega
  simp only [joinD, asSs_map, Option.bind_some]
  rw [if_pos e]
theorem joinD_l {s : Nat} {ps : List (List Nat)} {m : Nat} (h : ∀ p ∈ ps, p.length ≤ m) (hl : ps.length * (m + 1) ≤ 50000) : joinD [s] (.lst (ps.map D.str)) = some (.str (joinS [s] ps)) := joinD_t h hl
section
variable {G : Type} {sl : SL} {g g1 g2 : G} {Q : Fl → SL → G → Prop} {c : Nat}
theorem y_dropS {f : M G D} {f2 : SM G} (e : f sl g = some (.exc c, g1)) (k : Q (.ex c) sl g1) : WP (sSeq (sDrop f) f2) sl g Q :=
  ⟨_, _, _, by rw [seq_ap, drop_ap, e]; rfl, k⟩
theorem y_drop {f : M G D} (e : f sl g = some (.exc c, g1)) (k : Q (.ex c) sl g1) : WP (sDrop f) sl g Q :=
  ⟨_, _, _, by rw [drop_ap, e]; rfl, k⟩
theorem y_raise (k : Q (.ex c) sl g) : WP (sRaise c) sl g Q := ⟨_, _, _, rfl, k⟩
theorem y_if {t : M G Bool} {b : SM G} (e : t sl g = some (.ok true, g)) (k : Q (.ex c) sl g) : WP (sIf t (sRaise c) b) sl g Q :=
  wp_if e (fun _ => y_raise k) (by intro h; cases h)
theorem y_ifS {t : M G Bool} {b f2 : SM G} (e : t sl g = some (.ok true, g)) (k : Q (.ex c) sl g) : WP (sSeq (sIf t (sRaise c) b) f2) sl g Q :=
  ⟨_, _, _, by rw [seq_ap, if_ap, e]; rfl, k⟩
theorem y_asgS {i : Nat} {f : M G D} {f2 : SM G} (e : f sl g = some (.exc c, g1)) (k : Q (.ex c) sl g1) : WP (sSeq (sAsg i (xD f)) f2) sl g Q :=
  ⟨_, _, _, by rw [seq_ap, asg_ap, xD_ap, e]; rfl, k⟩
theorem y_fn {m : Nat} {F : SM G} {ds : List D} (e : ds.map (fun d => some (Slot.d d)) ++ List.replicate (m - ds.length) none = sl) (h : WP F sl g fun fl _ g' => fl = .ex c ∧ g' = g2) : fnD m F ds g = some (.exc c, g2) := by
  obtain ⟨fl, sl', g', h1, rfl, rfl⟩ := h
  rw [fn_ap, e, h1]
  rfl
theorem y_res {n : Nat} {errs : Nat → List Nat} {f : M G D} (h : f sl g = some (.exc c, g1)) (hc : c < n) : eRes n errs f sl g = some (.ok (.tup [.str (errs c)]), g1) := by
  unfold eRes
  rw [h]
  simp only
  rw [if_pos hc]; rfl
theorem y_resO {n : Nat} {errs : Nat → List Nat} {f : M G D} {d : D} (h : f sl g = some (.ok d, g1)) : eRes n errs f sl g = some (.ok (.tup [.str sReturns, d]), g1) := by
  unfold eRes
  rw [h]
  rfl
theorem y_isSub1 (c : Nat) : ∀ l : List Nat, isSub [c] l = decide (c ∈ l)
  | [] => by simp [isSub]
  | d :: l => by
    show (isPre [c] (d :: l) || isSub [c] l) = _
    rw [y_isSub1 c l, Bool.eq_iff_iff]
    simp [isPre]
theorem y_in (c : Nat) (l : List Nat) : inD (.str [c]) (.str l) = some (.bl (decide (c ∈ l))) := by
  show some (D.bl (isSub [c] l)) = _
  rw [y_isSub1]
theorem y_nin (c : Nat) (l : List Nat) : ninD (.str [c]) (.str l) = some (.bl (!decide (c ∈ l))) := by
  show some (D.bl (!isSub [c] l)) = _
  rw [y_isSub1]
/-- a comprehension of answers -/
theorem compL_tot {tg : Tg} {elt : M G D} : ∀ ds : List D, (∀ d ∈ ds, ∃ sl1 b, tg d sl = some sl1 ∧ elt sl1 g = some (.ok (.bl b), g)) → ∃ bs : List Bool, compL tg tYesM elt ds sl g = some (.ok (bs.map D.bl), g) ∧ bs.length = ds.length
  | [], _ => ⟨[], rfl, rfl⟩
  | d :: ds, h => by
    obtain ⟨sl1, b, e1, e2⟩ := h d (by simp)
    obtain ⟨bs, e3, e4⟩ := compL_tot ds fun d' h' => h d' (by simp [h'])
    refine ⟨b :: bs, ?_, by simp [e4]⟩
    unfold compL
    rw [e1]
    show (match elt sl1 g with | some (.ok x, g2) => _ | _ => _) = _
    rw [e2]
    simp only
    rw [e3]
    rfl
theorem asBs_bl : ∀ bs : List Bool, asBs (bs.map D.bl) = some bs
  | [] => rfl
  | b :: bs => by simp [asBs, asBs_bl bs]
theorem all_tot {it : M G (List D)} {vs : List Nat} {tg : Tg} {elt : M G D} {ds : List D} (hi : it sl g = some (.ok ds, g)) (hl : ds.length ≤ LIM) (h : ∀ d ∈ ds, ∃ sl1 b, tg d (wipeS sl vs) = some sl1 ∧ elt sl1 g = some (.ok (.bl b), g)) : ∃ b xs, eComp it vs tg tYesM elt sl g = some (.ok (.lst xs), g) ∧ allD (.lst xs) = some (.bl b) := by
  obtain ⟨bs, e1, e2⟩ := compL_tot ds h
  refine ⟨bs.all id, bs.map D.bl, ?_, by simp [allD, asBs_bl]⟩
  rw [comp_ap, hi, bindK_ok]
  show (match compL tg tYesM elt ds (wipeS sl vs) g with | some (.ok xs, g') => _ | _ => _) = _
  rw [e1]
  simp only
  rw [if_pos (by rw [List.length_map, e2]; exact hl)]
end
end DL
namespace Lw
open PySem L2 DL
section
variable {G : Type} {g : G} {ws : List (List Nat)} {B : Nat} {ss : Sts} {letters : List Nat}
theorem wk_ww : wkD (WwF ws) = some (Ww ws) := rfl
theorem wix {n : Nat} (h : n < ws.length) : ixD (Ww ws) (.int n) = some (.str (wordAt ws n)) := by
  have := ix_words (ws := ws) (z := (n : Nat)) (by omega) (by omega)
  rw [Int.toNat_natCast] at this
  exact this
theorem wat {n : Nat} (h : n < ws.length) : wordAt ws n = ws[n] := by
  unfold wordAt
  rw [List.getD_eq_getElem?_getD, List.getElem?_eq_getElem h]
  rfl
theorem limN {n : Nat} (h : n ≤ 50000) : n ≤ LIM := by unfold LIM; omega
/-! ### words from a text -/
theorem string_tot {s : List Nat} (hs : s.length ≤ 1000) : ∃ b, f_is_string_of [.str s, .int 4] g = some (.ok (.bl b), g) := by
  obtain ⟨b, xs, hb, hx⟩ := all_tot (sl := [some (.d (.str s)), some (.d (.int 4)), none]) (g := g) (it := iS (eV 0)) (vs := [2]) (tg := tg1 2) (elt := e2 inD (eV 2) (eC (.str [97, 98, 99, 100]))) (ds := s.map fun c => D.str [c]) (by simp) (by rw [List.length_map]; exact limN (by omega)) fun d hd => by
    obtain ⟨c, _, rfl⟩ := List.mem_map.mp hd
    exact ⟨_, _, rfl, by simp [y_in]; rfl⟩
  by_cases h : (1 : Int) ≤ s.length ∧ (s.length : Int) ≤ 4
  · refine ⟨b, fn_rt (sl := [some (.d (.str s)), some (.d (.int 4)), none]) rfl (p_ret (d := .bl b) ?_ ⟨.inl rfl, rfl⟩)⟩
    rw [eAnd_ap]
    simp -implicitDefEqProofs [h.1, h.2, hb, hx]
  · refine ⟨false, fn_rt (sl := [some (.d (.str s)), some (.d (.int 4)), none]) rfl (p_ret (d := .bl false) ?_ ⟨.inl rfl, rfl⟩)⟩
    by_cases h1 : (1 : Int) ≤ s.length
    · have h2 : ¬ (s.length : Int) ≤ 4 := fun z => h ⟨h1, z⟩
      simp -implicitDefEqProofs [h1, h2]
    · simp -implicitDefEqProofs [h1]
theorem words_tot {ps : List (List Nat)} (hp : ∀ p ∈ ps, p.length ≤ 1000) : ∃ b, f_are_words [Ww ps] g = some (.ok (.bl b), g) := by
  have lw : lenD (Ww ps) = some (.int ps.length) := by simp [Ww]
  have it : isiD .tuple (Ww ps) = some (.bl true) := rfl
  by_cases h : (1 : Int) ≤ ps.length ∧ (ps.length : Int) ≤ 4
  · have hl : ps.length ≤ 4 := by omega
    obtain ⟨b1, xs1, hb1, hx1⟩ := all_tot (sl := [some (.d (Ww ps)), none, none]) (g := g) (it := iT (eV 0)) (vs := [1]) (tg := tg1 1) (elt := callM f_is_string_of (aCons (eV 1) (aCons (eC (.int 4)) aNil))) (ds := ps.map D.str) (by simp [Ww]) (by rw [List.length_map]; exact limN (by omega)) fun d hd => by
      obtain ⟨p, hp', rfl⟩ := List.mem_map.mp hd
      obtain ⟨b, e⟩ := string_tot (g := g) (hp p hp')
      exact ⟨_, b, rfl, by simp [e]⟩
    have es : slD (Ww ps) (some 1) none = some (.tup ((ps.map D.str).drop 1)) := by
      show some (D.tup (cut (ps.map D.str) (some (1 : Int)) none)) = _
      rw [show cut (ps.map D.str) (some (1 : Int)) none = _ from cut_from (ps.map D.str) 1]
    obtain ⟨b2, xs2, hb2, hx2⟩ := all_tot (sl := [some (.d (Ww ps)), none, none]) (g := g) (it := iZpT (eV 0) (eSl (eV 0) (oS (eC (.int 1))) oN)) (vs := [1, 2]) (tg := tg2 1 2) (elt := e2 ltD (eV 1) (eV 2)) (ds := zipD (ps.map D.str) ((ps.map D.str).drop 1)) (by
        simp only [iZpT_ap, eV_ap, eSl_ap, oS_ap, eC_ap, oN_ap, bind_ap, bindK_ok, lift_ap, asI_int, liftK_some, pure_ap, List.getElem?_cons_zero, slotK_d, es]
        rfl) (Nat.le_trans (zipD_le _ _) (by rw [List.length_map]; exact limN (by omega))) fun d hd => by
      obtain ⟨i, x, y, rfl, hx, hy⟩ := zipD_mem hd
      rw [List.getElem?_map] at hx
      rw [List.getElem?_drop, List.getElem?_map] at hy
      obtain ⟨x', _, rfl⟩ := Option.map_eq_some_iff.mp hx
      obtain ⟨y', _, rfl⟩ := Option.map_eq_some_iff.mp hy
      exact ⟨_, decide (x' < y'), rfl, by simp⟩
    cases b1 with
    | true =>
      refine ⟨b2, fn_rt (sl := [some (.d (Ww ps)), none, none]) rfl ?_⟩
      unfold F_are_words
      refine p_not (by simp -implicitDefEqProofs [it, lw, h.1, h.2, hb1, hx1]) (p_ret (d := .bl b2) (by rw [e1_ap, hb2, bindK_ok, lift_ap, hx2]; rfl) ⟨.inl rfl, rfl⟩)
    | false =>
      refine ⟨false, fn_rt (sl := [some (.d (Ww ps)), none, none]) rfl ?_⟩
      unfold F_are_words
      refine wp_seq2 (wp_if (k := true) (g1 := g) (by simp -implicitDefEqProofs [it, lw, h.1, h.2, hb1, hx1]) (fun _ => ?_) (fun h => by cases h))
      exact p_ret (d := .bl false) (by simp) (.inr ⟨_, rfl, .inl rfl, rfl⟩)
  · refine ⟨false, fn_rt (sl := [some (.d (Ww ps)), none, none]) rfl ?_⟩
    unfold F_are_words
    refine wp_seq2 (wp_if (k := true) (g1 := g) ?_ (fun _ => ?_) (fun h => by cases h))
    · by_cases h1 : (1 : Int) ≤ ps.length
      · have h2 : ¬ (ps.length : Int) ≤ 4 := fun z => h ⟨h1, z⟩
        simp -implicitDefEqProofs [it, lw, h1, h2]
      · simp -implicitDefEqProofs [it, lw, h1]
    · exact p_ret (d := .bl false) (by simp) (.inr ⟨_, rfl, .inl rfl, rfl⟩)
theorem split_ev {sl : SL} {a : M G D} {t : List Nat} {s : Nat} (e : a sl g = some (.ok (.str t), g)) (h : t.length ≤ 1000) (hs : s < 256) : eSplit a (eC (.str [s])) sl g = some (.ok (.lst ((splN s [] t).map D.str)), g) := by
  unfold eSplit
  rw [bind_ap, e, bindK_ok, bind_ap, lift_ap]
  simp [splD, h, hs]
theorem spl_short {s : Nat} {t p : List Nat} (h : t.length ≤ 1000) (hp : p ∈ splN s [] t) : p.length ≤ 1000 := by
  have := (splN_mem hp).1
  simp at this
  omega
theorem words_cases {t : List Nat} (h : t.length ≤ 1000) : f_parse_words [.str t] g = some (.exc 6, g) ∨ f_parse_words [.str t] g = some (.ok (Ww (splN 32 [] t)), g) := by
  obtain ⟨b, hb⟩ := words_tot (g := g) (ps := splN 32 [] t) fun p hp => spl_short h hp
  have e1 : e1 tupD (eSplit (eV 0) (eC (.str [32]))) [some (.d (.str t)), none] g = some (.ok (Ww (splN 32 [] t)), g) := by
    rw [e1_ap, split_ev (g := g) (t := t) rfl h (by decide)]
    rfl
  cases b with
  | false =>
    refine .inl (y_fn (sl := [some (.d (.str t)), none]) rfl (p_not (by simp) (p_asg (d := Ww (splN 32 [] t)) e1 ?_)))
    simp only [List.set_cons_succ, List.set_cons_zero]
    exact y_ifS (by simp [hb]) ⟨rfl, rfl⟩
  | true =>
    refine .inr (fn_rt (sl := [some (.d (.str t)), none]) rfl (p_not (by simp) (p_asg (d := Ww (splN 32 [] t)) e1 ?_)))
    simp only [List.set_cons_succ, List.set_cons_zero]
    exact p_not (by simp [hb]) (p_ret (d := Ww (splN 32 [] t)) (by simp) ⟨.inl rfl, rfl⟩)
theorem words_parsed (hL : LetsOk letters) (W : WordsOk letters ws) : f_parse_words [.str (joinS [32] ws)] g = some (.ok (Ww ws), g) := by
  have hl : (joinS [32] ws).length ≤ 1000 := by
    have h1 := joinS_len 32 ws
    have h2 := sum_le (ps := ws) (m := 4) fun p hp => (W.each p hp).2.1
    have := W.l1
    omega
  have hsp : splN 32 [] (joinS [32] ws) = ws := by
    match ws, W with
    | [], W => have := W.l0; simp at this
    | w :: r, W => exact spl_join 32 r w fun x hx hm => by have := hL 32 ((W.each x hx).2.2 32 hm); omega
  have e1 : e1 tupD (eSplit (eV 0) (eC (.str [32]))) [some (.d (.str (joinS [32] ws))), none] g = some (.ok (Ww ws), g) := by
    rw [e1_ap, split_ev (g := g) (t := joinS [32] ws) rfl hl (by decide), hsp]
    rfl
  refine fn_rt (sl := [some (.d (.str (joinS [32] ws))), none]) rfl (p_not (by simp) (p_asg (d := Ww ws) e1 ?_))
  simp only [List.set_cons_succ, List.set_cons_zero]
  exact p_not (by simp [are_words_ok hL W]) (p_ret (d := Ww ws) (by simp) ⟨.inl rfl, rfl⟩)
/-! ### stamps from a text -/
def stT (ws : List (List Nat)) (s : Nat × Nat) : List Nat := wordAt ws s.1 ++ [64, 48 + s.2]
def txt (ws : List (List Nat)) (ss : Sts) : List Nat := if ss = [] then [45] else joinS [32] (ss.map (stT ws))
theorem idx_ev {sl : SL} {w : List Nat} {a : M G D} (h0 : sl[0]? = some (some (.d (WwF ws)))) (e : a sl g = some (.ok (.str w), g)) (hw : w ∈ ws) : eIdxF 0 a sl g = some (.ok (.int (ws.idxOf w : Nat)), g) := by
  unfold eIdxF
  rw [h0]
  show M.bind a (fun y => M.lift (idxD (ws.map D.str) y)) sl g = _
  rw [bind_ap, e, bindK_ok, lift_ap]
  simp [idxD, asSs_map, hw]
theorem read_cases {p : List Nat} (hp : p.length ≤ 1000) : f_read_stamp [WwF ws, .str p] g = some (.exc 6, g) ∨ ∃ s : Nat × Nat, s.1 < ws.length ∧ s.2 ≤ 7 ∧ p = stT ws s ∧ f_read_stamp [WwF ws, .str p] g = some (.ok (Sd s), g) := by
  have l2 : 2 ≤ LIM := limN (by omega)
  have asg : ∀ {F : SM G} {Q : Fl → SL → G → Prop}, WP F [some (.d (WwF ws)), some (.d (.str p)), some (.d (.lst ((splN 64 [] p).map D.str)))] g Q → WP (sSeq (sAsg 2 (xD (eSplit (eV 1) (eC (.str [64]))))) F) [some (.d (WwF ws)), some (.d (.str p)), none] g Q := fun k =>
    p_asg (d := .lst ((splN 64 [] p).map D.str)) (split_ev rfl hp (by decide)) k
  have jn := join_spl 64 p []
  match hq : splN 64 [] p with
  | [] => exact absurd hq (spl_ne 64 p [])
  | [a] =>
    refine .inl (y_fn (sl := [some (.d (WwF ws)), some (.d (.str p)), none]) rfl (asg (y_ifS ?_ ⟨rfl, rfl⟩)))
    rw [hq]
    simp
  | a :: b :: c :: r =>
    refine .inl (y_fn (sl := [some (.d (WwF ws)), some (.d (.str p)), none]) rfl (asg (y_ifS ?_ ⟨rfl, rfl⟩)))
    rw [hq]
    have n2 : ¬ ((r.length : Int) + 1 + 1 + 1 = 2) := by omega
    simp [n2]
  | [a, b] =>
    have i0 : ixD (.lst [.str a, .str b]) (.int 0) = some (.str a) := rfl
    have i1 : ixD (.lst [.str a, .str b]) (.int 1) = some (.str b) := rfl
    have nin := ninD_tS a ws
    have nin : ninD (.str a) (Ww ws) = some (.bl (!decide (a ∈ ws))) := nin
    by_cases ha : a ∈ ws
    · match b with
      | [] =>
        refine .inl (y_fn (sl := [some (.d (WwF ws)), some (.d (.str p)), none]) rfl (asg (y_ifS ?_ ⟨rfl, rfl⟩)))
        rw [hq]
        simp [i0, i1, nin, ha, wk_ww]
      | c :: d :: r =>
        refine .inl (y_fn (sl := [some (.d (WwF ws)), some (.d (.str p)), none]) rfl (asg (y_ifS ?_ ⟨rfl, rfl⟩)))
        rw [hq]
        have n2 : ¬ ((r.length : Int) + 1 + 1 = 1) := by omega
        simp [i0, i1, nin, ha, wk_ww, n2]
      | [c] =>
        have nd := y_nin c [48, 49, 50, 51, 52, 53, 54, 55]
        by_cases hc : c ∈ [48, 49, 50, 51, 52, 53, 54, 55]
        · have hc' : 48 ≤ c ∧ c ≤ 55 := by simp at hc; omega
          have hlt : ws.idxOf a < ws.length := List.idxOf_lt_length_of_mem ha
          refine .inr ⟨(ws.idxOf a, c - 48), hlt, by show c - 48 ≤ 7; omega, ?_, ?_⟩
          · rw [hq] at jn
            unfold stT
            rw [wat hlt, List.getElem_idxOf hlt]
            have : 48 + (c - 48) = c := by omega
            rw [this]
            have jn : a ++ ([64] ++ [c]) = [] ++ p := jn
            rw [List.nil_append] at jn
            exact jn.symm
          · refine fn_rt (sl := [some (.d (WwF ws)), some (.d (.str p)), none]) rfl (asg (p_not ?_ ?_))
            · rw [hq]
              rw [decide_eq_true hc] at nd
              simp [i0, i1, nin, ha, wk_ww, nd]
            · rw [hq]
              have ei := idx_ev (ws := ws) (g := g) (w := a) (sl := [some (.d (WwF ws)), some (.d (.str p)), some (.d (.lst ([a, [c]].map D.str)))]) (a := e2 ixD (eV 2) (eC (.int 0))) rfl (by simp [i0]) ha
              have en : intSD (.str [c]) = some (.int ((c - 48 : Nat) : Int)) := by
                show (if 48 ≤ c ∧ c ≤ 57 then _ else _) = _
                rw [if_pos (by omega)]
              refine p_ret (d := Sd (ws.idxOf a, c - 48)) ?_ ⟨.inl rfl, rfl⟩
              rw [eTup_ap, aCons_ap, ei, bindK_ok]
              simp [i1, en, l2, Sd]
        · refine .inl (y_fn (sl := [some (.d (WwF ws)), some (.d (.str p)), none]) rfl (asg (y_ifS ?_ ⟨rfl, rfl⟩)))
          rw [hq]
          rw [decide_eq_false hc] at nd
          simp [i0, i1, nin, ha, wk_ww, nd]
    · refine .inl (y_fn (sl := [some (.d (WwF ws)), some (.d (.str p)), none]) rfl (asg (y_ifS ?_ ⟨rfl, rfl⟩)))
      rw [hq]
      simp [i0, nin, ha, wk_ww]
end
end Lw
namespace Lw
open PySem L2 DL
section
variable {G : Type} {g : G} {ws : List (List Nat)} {B : Nat} {ss : Sts} {letters : List Nat}
theorem stT_len (hL : LetsOk letters) (W : WordsOk letters ws) {s : Nat × Nat} (h : s.1 < ws.length) : (stT ws s).length ≤ 6 ∧ 3 ≤ (stT ws s).length := by
  have hw := W.each _ (List.getElem_mem h)
  unfold stT
  rw [wat h, List.length_append]
  have h1 := hw.1
  have h2 := hw.2.1
  simp only [List.length_cons, List.length_nil]
  omega
theorem stT_no (hL : LetsOk letters) (W : WordsOk letters ws) {s : Nat × Nat} (h : s.1 < ws.length) : 32 ∉ stT ws s := by
  have hw := W.each _ (List.getElem_mem h)
  unfold stT
  rw [wat h]
  intro hm
  rcases List.mem_append.mp hm with z | z
  · have := hL 32 (hw.2.2 32 z); omega
  · simp at z; omega
abbrev rdE {G : Type} : M G D := callM f_read_stamp (aCons (eV 0) (aCons (eV 4) aNil))
theorem comp_cases {t : List Nat} {x y : Option Slot} : ∀ (ps : List (List Nat)), (∀ p ∈ ps, p.length ≤ 1000) →
    compX (tg1 4) rdE (ps.map D.str) [some (.d (WwF ws)), x, y, none, none] g = some (.exc 6, g) ∨
    ∃ ss : Sts, (∀ s ∈ ss, s.1 < ws.length ∧ s.2 ≤ 7) ∧ ps = ss.map (stT ws) ∧ compX (tg1 4) rdE (ps.map D.str) [some (.d (WwF ws)), x, y, none, none] g = some (.ok (ss.map Sd), g)
  | [], _ => .inr ⟨[], by simp, rfl, rfl⟩
  | p :: ps, h => by
    have ev : rdE [some (.d (WwF ws)), x, y, none, some (.d (.str p))] g = f_read_stamp [WwF ws, .str p] g := by simp
    have un : compX (tg1 4) rdE ((p :: ps).map D.str) [some (.d (WwF ws)), x, y, none, none] g = (match rdE [some (.d (WwF ws)), x, y, none, some (.d (.str p))] g with
      | some (.ok d, g2) => (match compX (tg1 4) rdE (ps.map D.str) [some (.d (WwF ws)), x, y, none, none] g2 with
        | some (.ok xs, g3) => some (.ok (d :: xs), g3)
        | some (.exc c, g3) => some (.exc c, g3)
        | none => none)
      | some (.exc c, g2) => some (.exc c, g2)
      | none => none) := rfl
    rw [un, ev]
    rcases read_cases (g := g) (ws := ws) (h p (by simp)) with e | ⟨s, s1, s2, rfl, e⟩
    · rw [e]; exact .inl rfl
    · rw [e]
      simp only
      rcases comp_cases (t := t) ps (fun q hq => h q (by simp [hq])) with e2 | ⟨ss, h1, rfl, e2⟩
      · rw [e2]; exact .inl rfl
      · rw [e2]
        refine .inr ⟨s :: ss, fun s' hs' => ?_, rfl, rfl⟩
        rcases List.mem_cons.mp hs' with rfl | z
        · exact ⟨s1, s2⟩
        · exact h1 s' z
theorem is_stamp_tot {s : Nat × Nat} (h : s.1 < ws.length) : ∃ b, f_is_stamp [Ww ws, .int B, Sd s] g = some (.ok (.bl b), g) := by
  have i0 : ixD (Sd s) (.int 0) = some (.int s.1) := rfl
  have i1 : ixD (Sd s) (.int 1) = some (.int s.2) := rfl
  have it : isiD .tuple (Sd s) = some (.bl true) := rfl
  have ln : lenD (Sd s) = some (.int 2) := rfl
  have lw : lenD (Ww ws) = some (.int ws.length) := by simp [Ww]
  have c1 : (0 : Int) ≤ s.1 := by omega
  have c2 : (s.1 : Int) ≤ (ws.length : Int) - 1 := by omega
  refine ⟨_, fn_rt (sl := [some (.d (Ww ws)), some (.d (.int B)), some (.d (Sd s))]) rfl (p_not (by simp [i0, it, ln, lw, between_eq, c1, c2]) (p_ret (d := .bl (decide ((0 : Int) ≤ s.2) && decide ((s.2 : Int) ≤ (B : Int) - ((wordAt ws s.1).length : Nat)))) (by simp -implicitDefEqProofs [i0, i1, wix h, between_eq]) ⟨.inl rfl, rfl⟩))⟩
theorem on_tot (h : ∀ s ∈ ss, s.1 < ws.length) (hl : ss.length ≤ 1001) : ∃ b, f_are_stamps_on [Ww ws, .int B, Ss ss] g = some (.ok (.bl b), g) ∧ (b = true → ss.length ≤ 12) := by
  have it : isiD .tuple (Ss ss) = some (.bl true) := rfl
  have ln : lenD (Ss ss) = some (.int ss.length) := by simp [Ss]
  by_cases h12 : ss.length ≤ 12
  · obtain ⟨b, xs, hb, hx⟩ := all_tot (sl := [some (.d (Ww ws)), some (.d (.int B)), some (.d (Ss ss)), none]) (g := g) (it := iT (eV 2)) (vs := [3]) (tg := tg1 3) (elt := callM f_is_stamp (aCons (eV 0) (aCons (eV 1) (aCons (eV 3) aNil)))) (ds := ss.map Sd) (by simp [Ss]) (by rw [List.length_map]; exact limN (by omega)) fun d hd => by
      obtain ⟨s, hs, rfl⟩ := List.mem_map.mp hd
      obtain ⟨b, e⟩ := is_stamp_tot (g := g) (B := B) (h s hs)
      exact ⟨_, b, rfl, by simp [e]⟩
    have c : ¬ (12 : Int) < ss.length := by omega
    refine ⟨b, fn_rt (sl := [some (.d (Ww ws)), some (.d (.int B)), some (.d (Ss ss)), none]) rfl (p_not (by simp [it, ln, c]) (p_ret (d := .bl b) (by rw [e1_ap, hb, bindK_ok, lift_ap, hx]; rfl) ⟨.inl rfl, rfl⟩)), fun _ => h12⟩
  · have c : (12 : Int) < ss.length := by omega
    refine ⟨false, fn_rt (sl := [some (.d (Ww ws)), some (.d (.int B)), some (.d (Ss ss)), none]) rfl (wp_seq2 (wp_if (k := true) (g1 := g) (by simp [it, ln, c]) (fun _ => ?_) (fun h => by cases h))), fun h => by cases h⟩
    exact p_ret (d := .bl false) (by simp) (.inr ⟨_, rfl, .inl rfl, rfl⟩)
def resV {G : Type} (f : List D → D) (r : Res (List D)) (g : G) : Out G D := match r with
  | .ok xs => some (.ok (f xs), g)
  | .exc c => some (.exc c, g)
/-- the row that parse_stamps makes of a text -/
theorem tup_ev {t : List Nat} (ht : t.length ≤ 1000) (r : Res (List D)) (h : compX (tg1 4) rdE ((splN 32 [] t).map D.str) [some (.d (WwF ws)), some (.d (.int B)), some (.d (.str t)), none, none] g = some (r, g)) :
    e1 tupD (eCompX (iL (eSplit (eV 2) (eC (.str [32])))) [4] (tg1 4) rdE) [some (.d (WwF ws)), some (.d (.int B)), some (.d (.str t)), none, none] g = resV D.tup r g := by
  have it : iL (eSplit (eV 2) (eC (.str [32]))) [some (.d (WwF ws)), some (.d (.int B)), some (.d (.str t)), none, none] g = some (.ok ((splN 32 [] t).map D.str), g) := by
    rw [iL_ap, split_ev (t := t) rfl ht (by decide)]
    rfl
  have hl : ((splN 32 [] t).map D.str).length ≤ LIM := by
    rw [List.length_map]
    have := splN_num 32 t []
    exact limN (by omega)
  have c : eCompX (iL (eSplit (eV 2) (eC (.str [32])))) [4] (tg1 4) rdE [some (.d (WwF ws)), some (.d (.int B)), some (.d (.str t)), none, none] g = resV D.lst r g := by
    unfold eCompX
    rw [bind_ap, it, bindK_ok]
    show (if ((splN 32 [] t).map D.str).length ≤ LIM then (match compX (tg1 4) rdE ((splN 32 [] t).map D.str) [some (.d (WwF ws)), some (.d (.int B)), some (.d (.str t)), none, none] g with
      | some (.ok xs, g') => some (Res.ok (D.lst xs), g')
      | some (.exc c, g') => some (Res.exc c, g')
      | none => none) else none) = _
    rw [if_pos hl, h]
    cases r <;> rfl
  rw [e1_ap, c]
  cases r <;> rfl
theorem txt_le (hL : LetsOk letters) (W : WordsOk letters ws) (h : ∀ s ∈ ss, s.1 < ws.length) (hl : ss.length ≤ 12) : (txt ws ss).length ≤ 90 := by
  unfold txt
  split
  · simp
  · have h1 := joinS_len 32 (ss.map (stT ws))
    have h2 := sum_le (ps := ss.map (stT ws)) (m := 6) fun p hp => by
      obtain ⟨s, hs, rfl⟩ := List.mem_map.mp hp
      exact (stT_len hL W (h s hs)).1
    rw [List.length_map] at h1 h2
    omega
theorem parse_cases (hL : LetsOk letters) (W : WordsOk letters ws) (b1 : 1 ≤ B) (b8 : B ≤ 8) {t : List Nat} (ht : t.length ≤ 1000) : f_parse_stamps [WwF ws, .int B, .str t] g = some (.exc 6, g) ∨
    ∃ ss : Sts, ss.length ≤ 12 ∧ (∀ s ∈ ss, s.1 < ws.length ∧ s.2 ≤ 7) ∧ txt ws ss = t ∧ f_parse_stamps [WwF ws, .int B, .str t] g = some (.ok (Ss ss), g) := by
  have cb : f_check_both [Ww ws, .int B] g = some (.ok .non, g) := check_both_ok hL W b1 b8
  have l0 : 0 ≤ LIM := limN (by omega)
  -- the asked value
  by_cases hd : t = [45]
  · subst hd
    obtain ⟨b, hb, _⟩ := on_tot (g := g) (ws := ws) (B := B) (ss := []) (by simp) (by simp)
    have hb : f_are_stamps_on [Ww ws, .int B, .tup []] g = some (.ok (.bl b), g) := hb
    have okt := stamps_on_ok (g := g) (ws := ws) (B := B) (ss := []) ⟨by simp, by simp⟩
    have okt : f_are_stamps_on [Ww ws, .int B, .tup []] g = some (.ok (.bl true), g) := okt
    refine .inr ⟨[], by simp, by simp, rfl, fn_rt (sl := [some (.d (WwF ws)), some (.d (.int B)), some (.d (.str [45])), none, none]) rfl (p_drop (d := .non) (by simp [wk_ww, cb]) (p_not (by simp) (p_asg (d := .tup []) (by simp [l0]) ?_)))⟩
    simp only [List.set_cons_succ, List.set_cons_zero]
    exact p_not (by simp [wk_ww, okt]) (p_ret (d := .tup []) (by simp) ⟨.inl rfl, rfl⟩)
  · have tst : tV (e2 neD (eV 2) (eC (.str [45]))) [some (.d (WwF ws)), some (.d (.int B)), some (.d (.str t)), none, none] g = some (.ok true, g) := by
      simp [hd]
    rcases comp_cases (g := g) (ws := ws) (t := t) (x := some (.d (.int B))) (y := some (.d (.str t))) (splN 32 [] t) (fun p hp => spl_short ht hp) with e | ⟨ss, h1, h2, e⟩
    · refine .inl (y_fn (sl := [some (.d (WwF ws)), some (.d (.int B)), some (.d (.str t)), none, none]) rfl (p_drop (d := .non) (by simp [wk_ww, cb]) (p_not (by simp) (y_asgS (c := 6) (g1 := g) ?_ ⟨rfl, rfl⟩))))
      rw [eIf_ap, tst, itK_ok, if_pos rfl]
      exact tup_ev ht (.exc 6) e
    · have asg : eIfM (tV (e2 neD (eV 2) (eC (.str [45])))) (e1 tupD (eCompX (iL (eSplit (eV 2) (eC (.str [32])))) [4] (tg1 4) rdE)) (eTup aNil) [some (.d (WwF ws)), some (.d (.int B)), some (.d (.str t)), none, none] g = some (.ok (Ss ss), g) := by
        rw [eIf_ap, tst, itK_ok, if_pos rfl]
        exact tup_ev ht (.ok (ss.map Sd)) e
      have hlen : ss.length ≤ 1001 := by
        have := splN_num 32 t []
        rw [h2, List.length_map] at this
        omega
      obtain ⟨b, hb, hb12⟩ := on_tot (g := g) (ws := ws) (B := B) (ss := ss) (fun s hs => (h1 s hs).1) hlen
      have hne : ss ≠ [] := fun z => by
        rw [z] at h2
        exact spl_ne 32 t [] h2
      cases b with
      | true =>
        refine .inr ⟨ss, hb12 rfl, h1, ?_, fn_rt (sl := [some (.d (WwF ws)), some (.d (.int B)), some (.d (.str t)), none, none]) rfl (p_drop (d := .non) (by simp [wk_ww, cb]) (p_not (by simp) (p_asg (d := Ss ss) asg ?_)))⟩
        · unfold txt
          rw [if_neg hne, ← h2, join_spl, List.nil_append]
        · simp only [List.set_cons_succ, List.set_cons_zero]
          exact p_not (by simp [wk_ww, hb]) (p_ret (d := Ss ss) (by simp) ⟨.inl rfl, rfl⟩)
      | false =>
        refine .inl (y_fn (sl := [some (.d (WwF ws)), some (.d (.int B)), some (.d (.str t)), none, none]) rfl (p_drop (d := .non) (by simp [wk_ww, cb]) (p_not (by simp) (p_asg (d := Ss ss) asg ?_))))
        simp only [List.set_cons_succ, List.set_cons_zero]
        exact y_ifS (by simp [wk_ww, hb]) ⟨rfl, rfl⟩
end
end Lw
namespace Lw
open PySem L2 DL
section
variable {G : Type} {g : G} {ws : List (List Nat)} {B : Nat} {ss : Sts} {letters : List Nat}
theorem idx_at (W : WordsOk letters ws) {n : Nat} (h : n < ws.length) : ws.idxOf ws[n] = n := by
  have hm : ws[n] ∈ ws := List.getElem_mem h
  have hlt : ws.idxOf ws[n] < ws.length := List.idxOf_lt_length_of_mem hm
  have he : ws[ws.idxOf ws[n]] = ws[n] := List.getElem_idxOf hlt
  rcases Nat.lt_trichotomy (ws.idxOf ws[n]) n with z | z | z
  · have := List.pairwise_iff_getElem.mp W.ord _ _ hlt h z
    rw [he] at this
    exact absurd this (lt_irr _)
  · exact z
  · exact absurd (List.getElem?_eq_getElem h) (idx_first ws ws[n] n z)
theorem read_ok (hL : LetsOk letters) (W : WordsOk letters ws) {s : Nat × Nat} (h : s.1 < ws.length) (h7 : s.2 ≤ 7) : f_read_stamp [WwF ws, .str (stT ws s)] g = some (.ok (Sd s), g) := by
  rcases read_cases (g := g) (ws := ws) (p := stT ws s) (by have := (stT_len hL W h).1; omega) with e | ⟨s', s1, s2, ep, e⟩
  · exfalso
    -- it is none that is refused
    have hw := W.each _ (List.getElem_mem h)
    have n64 : 64 ∉ ws[s.1] := fun hm => by have := hL 64 (hw.2.2 64 hm); omega
    have hq : splN 64 [] (stT ws s) = [ws[s.1], [48 + s.2]] := by
      unfold stT
      rw [wat h, spl_app 64 _ [] _ n64, List.nil_append]
      show splN 64 ws[s.1] (64 :: [48 + s.2]) = _
      rw [spl_hit]
      have : ¬ (48 + s.2 = 64) := by omega
      show ws[s.1] :: (if 48 + s.2 = 64 then _ else _) = _
      rw [if_neg this]
      rfl
    have l2 : 2 ≤ LIM := limN (by omega)
    have ha : ws[s.1] ∈ ws := List.getElem_mem h
    have i0 : ixD (.lst [.str ws[s.1], .str [48 + s.2]]) (.int 0) = some (.str ws[s.1]) := rfl
    have i1 : ixD (.lst [.str ws[s.1], .str [48 + s.2]]) (.int 1) = some (.str [48 + s.2]) := rfl
    have nin : ninD (.str ws[s.1]) (Ww ws) = some (.bl (!decide (ws[s.1] ∈ ws))) := ninD_tS ws[s.1] ws
    have nd := y_nin (48 + s.2) [48, 49, 50, 51, 52, 53, 54, 55]
    have hc : 48 + s.2 ∈ [48, 49, 50, 51, 52, 53, 54, 55] := by simp; omega
    rw [decide_eq_true hc] at nd
    have ei := idx_ev (ws := ws) (g := g) (w := ws[s.1]) (sl := [some (.d (WwF ws)), some (.d (.str (stT ws s))), some (.d (.lst ([ws[s.1], [48 + s.2]].map D.str)))]) (a := e2 ixD (eV 2) (eC (.int 0))) rfl (by simp [i0]) ha
    have en : intSD (.str [48 + s.2]) = some (.int ((48 + s.2 - 48 : Nat) : Int)) := by
      show (if 48 ≤ 48 + s.2 ∧ 48 + s.2 ≤ 57 then _ else _) = _
      rw [if_pos (by omega)]
    have : f_read_stamp [WwF ws, .str (stT ws s)] g = some (.ok (.tup [.int (ws.idxOf ws[s.1] : Nat), .int ((48 + s.2 - 48 : Nat) : Int)]), g) := by
      refine fn_rt (sl := [some (.d (WwF ws)), some (.d (.str (stT ws s))), none]) rfl (p_asg (d := .lst ((splN 64 [] (stT ws s)).map D.str)) (split_ev rfl (by have := (stT_len hL W h).1; omega) (by decide)) ?_)
      simp only [List.set_cons_succ, List.set_cons_zero]
      rw [hq]
      refine p_not (by simp [i0, i1, nin, ha, wk_ww, nd]) (p_ret (d := .tup [.int (ws.idxOf ws[s.1] : Nat), .int ((48 + s.2 - 48 : Nat) : Int)]) ?_ ⟨.inl rfl, rfl⟩)
      rw [eTup_ap, aCons_ap, ei, bindK_ok]
      simp [i1, en, l2]
    rw [e] at this
    cases this
  · rw [e]
    have hl := congrArg List.length ep
    unfold stT at ep hl
    simp only [List.length_append, List.length_cons, List.length_nil] at hl
    have := List.append_inj ep (by omega)
    have e1 : wordAt ws s.1 = wordAt ws s'.1 := this.1
    have e2 : s'.2 = s.2 := by have := this.2; simp at this; omega
    rw [wat h, wat s1] at e1
    have i1 := idx_at W h
    rw [e1, idx_at W s1] at i1
    obtain ⟨x, y⟩ := s
    obtain ⟨x', y'⟩ := s'
    simp only at i1 e2
    subst i1 e2
    rfl
theorem comp_ok (hL : LetsOk letters) (W : WordsOk letters ws) {x y : Option Slot} : ∀ (ss : Sts), (∀ s ∈ ss, s.1 < ws.length ∧ s.2 ≤ 7) →
    compX (tg1 4) rdE ((ss.map (stT ws)).map D.str) [some (.d (WwF ws)), x, y, none, none] g = some (.ok (ss.map Sd), g)
  | [], _ => rfl
  | s :: ss, h => by
    have ev : rdE [some (.d (WwF ws)), x, y, none, some (.d (.str (stT ws s)))] g = f_read_stamp [WwF ws, .str (stT ws s)] g := by simp
    have un : compX (tg1 4) rdE (((s :: ss).map (stT ws)).map D.str) [some (.d (WwF ws)), x, y, none, none] g = (match rdE [some (.d (WwF ws)), x, y, none, some (.d (.str (stT ws s)))] g with
      | some (.ok d, g2) => (match compX (tg1 4) rdE ((ss.map (stT ws)).map D.str) [some (.d (WwF ws)), x, y, none, none] g2 with
        | some (.ok xs, g3) => some (.ok (d :: xs), g3)
        | some (.exc c, g3) => some (.exc c, g3)
        | none => none)
      | some (.exc c, g2) => some (.exc c, g2)
      | none => none) := rfl
    rw [un, ev, read_ok hL W (h s (by simp)).1 (h s (by simp)).2]
    simp only
    rw [comp_ok hL W ss fun s' h' => h s' (by simp [h'])]
    rfl
theorem st7 (W : WordsOk letters ws) (b8 : B ≤ 8) {s : Nat × Nat} (h : StOk ws B s) : s.1 < ws.length ∧ s.2 ≤ 7 := by
  have hw := W.each _ (List.getElem_mem h.1)
  have h2 := h.2
  rw [wat h.1] at h2
  have := hw.1
  exact ⟨h.1, by omega⟩
theorem parse_ok (hL : LetsOk letters) (W : WordsOk letters ws) (b1 : 1 ≤ B) (b8 : B ≤ 8) (h : StsOk ws B ss) : f_parse_stamps [WwF ws, .int B, .str (txt ws ss)] g = some (.ok (Ss ss), g) := by
  have cb : f_check_both [Ww ws, .int B] g = some (.ok .non, g) := check_both_ok hL W b1 b8
  have l0 : 0 ≤ LIM := limN (by omega)
  have okt := stamps_on_ok (g := g) h
  have hs7 : ∀ s ∈ ss, s.1 < ws.length ∧ s.2 ≤ 7 := fun s hs => st7 W b8 (h.each s hs)
  have ht : (txt ws ss).length ≤ 1000 := by have := txt_le hL W (fun s hs => (hs7 s hs).1) h.few; omega
  by_cases hn : ss = []
  · subst hn
    have okt : f_are_stamps_on [Ww ws, .int B, .tup []] g = some (.ok (.bl true), g) := okt
    refine fn_rt (sl := [some (.d (WwF ws)), some (.d (.int B)), some (.d (.str [45])), none, none]) rfl (p_drop (d := .non) (by simp [wk_ww, cb]) (p_not (by simp) (p_asg (d := .tup []) (by simp [l0]) ?_)))
    simp only [List.set_cons_succ, List.set_cons_zero]
    exact p_not (by simp [wk_ww, okt]) (p_ret (d := .tup []) (by simp) ⟨.inl rfl, rfl⟩)
  · have hsp : splN 32 [] (txt ws ss) = ss.map (stT ws) := by
      unfold txt
      rw [if_neg hn]
      match ss, hn, hs7 with
      | s :: r, _, hs7 =>
        refine spl_join 32 _ _ fun p hp => ?_
        obtain ⟨s', hs', rfl⟩ := List.mem_map.mp (show p ∈ (s :: r).map (stT ws) from hp)
        exact stT_no hL W (hs7 s' hs').1
    have hd : txt ws ss ≠ [45] := fun z => by
      rw [z] at hsp
      have hsp : [[45]] = ss.map (stT ws) := hsp
      match ss, hsp, hs7 with
      | s :: r, hsp, hs7 =>
        have : stT ws s = [45] := by simp at hsp; exact hsp.1.symm
        have h3 := (stT_len hL W (hs7 s (by simp)).1).2
        rw [this] at h3
        simp at h3
    have e := comp_ok (g := g) hL W (x := some (.d (.int B))) (y := some (.d (.str (txt ws ss)))) ss hs7
    rw [← hsp] at e
    generalize txt ws ss = t at ht hsp hd e
    have tst : tV (e2 neD (eV 2) (eC (.str [45]))) [some (.d (WwF ws)), some (.d (.int B)), some (.d (.str t)), none, none] g = some (.ok true, g) := by simp [hd]
    have asg : eIfM (tV (e2 neD (eV 2) (eC (.str [45])))) (e1 tupD (eCompX (iL (eSplit (eV 2) (eC (.str [32])))) [4] (tg1 4) rdE)) (eTup aNil) [some (.d (WwF ws)), some (.d (.int B)), some (.d (.str t)), none, none] g = some (.ok (Ss ss), g) := by
      rw [eIf_ap, tst, itK_ok, if_pos rfl]
      exact tup_ev ht (.ok (ss.map Sd)) e
    refine fn_rt (sl := [some (.d (WwF ws)), some (.d (.int B)), some (.d (.str t)), none, none]) rfl (p_drop (d := .non) (by simp [wk_ww, cb]) (p_not (by simp) (p_asg (d := Ss ss) asg ?_)))
    simp only [List.set_cons_succ, List.set_cons_zero]
    exact p_not (by simp [wk_ww, okt]) (p_ret (d := Ss ss) (by simp) ⟨.inl rfl, rfl⟩)
/-! ### texts of stamps -/
def stDD (ws : List (List Nat)) : D → D
  | .tup [.int n, .int p] => .str (stT ws (n.toNat, p.toNat))
  | _ => .non
theorem stDD_map : ∀ ss : Sts, (ss.map Sd).map (stDD ws) = (ss.map (stT ws)).map D.str
  | [] => rfl
  | s :: ss => by
    rw [List.map_cons, List.map_cons, stDD_map ss]
    rfl
theorem flat_St (ss : Sts) : flat 8 (Ss ss) = true := by
  show flats 7 (ss.map Sd) = true
  refine flats_all2 fun x hx => ?_
  obtain ⟨s, _, rfl⟩ := List.mem_map.mp hx
  rfl
theorem ne_none (ss : Sts) : neD (Ss ss) (.tup []) = some (.bl (!decide (ss = []))) := by
  show (if (flat 8 (Ss ss) && flat 8 (.tup [])) = true then some (D.bl (!eqBs (ss.map Sd) [])) else none) = _
  have f0 : flat 8 (.tup []) = true := rfl
  rw [flat_St, f0]
  cases ss <;> rfl
theorem text_join (hL : LetsOk letters) (W : WordsOk letters ws) (h : ∀ s ∈ ss, s.1 < ws.length) (hl : ss.length ≤ 12) : joinD [32] (.lst ((ss.map Sd).map (stDD ws))) = some (.str (joinS [32] (ss.map (stT ws)))) := by
  rw [stDD_map]
  refine joinD_l (m := 6) (fun p hp => ?_) (by rw [List.length_map]; omega)
  obtain ⟨s, hs, rfl⟩ := List.mem_map.mp hp
  exact (stT_len hL W (h s hs)).1
theorem law_text (hL : LetsOk letters) (W : WordsOk letters ws) (h : ∀ s ∈ ss, s.1 < ws.length ∧ s.2 ≤ 7) (hl : ss.length ≤ 12) : f__law_text [Ww ws, Ss ss] g = some (.ok (.str (txt ws ss)), g) := by
  have l0 : 0 ≤ LIM := limN (by omega)
  refine fn_rt (sl := [some (.d (Ww ws)), some (.d (Ss ss)), none, none]) rfl (p_ret (d := .str (txt ws ss)) ?_ ⟨.inl rfl, rfl⟩)
  have c : eComp (iT (eV 1)) [2, 3] (tg2 2 3) tYesM (e2 addD (e2 addD (e2 ixD (eV 0) (eV 2)) (eC (.str [64]))) (e1 strID (eV 3))) [some (.d (Ww ws)), some (.d (Ss ss)), none, none] g = some (.ok (.lst ((ss.map Sd).map (stDD ws))), g) := by
    refine comp_map (stDD ws) (by simp [Ss]) (by rw [List.length_map]; exact limN (by omega)) fun d hd => ?_
    obtain ⟨s, hs, rfl⟩ := List.mem_map.mp hd
    obtain ⟨h1, h2⟩ := h s hs
    have hw := W.each _ (List.getElem_mem h1)
    have hlw : (wordAt ws s.1).length ≤ 4 := by rw [wat h1]; exact hw.2.1
    have a1 : addD (.str (wordAt ws s.1)) (.str [64]) = some (.str (wordAt ws s.1 ++ [64])) := by
      show (if _ then _ else _) = _
      rw [if_pos (by simp only [List.length_cons, List.length_nil]; unfold LIM; omega)]
    have a2 : addD (.str (wordAt ws s.1 ++ [64])) (.str [48 + s.2]) = some (.str (wordAt ws s.1 ++ [64] ++ [48 + s.2])) := by
      show (if _ then _ else _) = _
      rw [if_pos (by simp only [List.length_append, List.length_cons, List.length_nil]; unfold LIM; omega)]
    have e3 : strID (.int s.2) = some (.str [48 + s.2]) := by
      show (if (0 : Int) ≤ s.2 ∧ (s.2 : Int) ≤ 9 then some (D.str (figS s.2)) else none) = _
      rw [if_pos (by omega)]
      rfl
    refine ⟨[some (.d (Ww ws)), some (.d (Ss ss)), some (.d (.int s.1)), some (.d (.int s.2))], rfl, ?_⟩
    have e4 : stDD ws (Sd s) = .str (wordAt ws s.1 ++ [64] ++ [48 + s.2]) := by
      show D.str (stT ws ((s.1 : Int).toNat, (s.2 : Int).toNat)) = _
      unfold stT
      simp
    rw [e4]
    simp -implicitDefEqProofs [wix h1, a1, a2, e3, -List.append_assoc]
  have jn := text_join hL W (fun s hs => (h s hs).1) hl
  have nn := ne_none ss
  by_cases hn : ss = []
  · subst hn
    have nn : neD (Ss []) (.tup []) = some (.bl false) := nn
    simp [l0, nn]
    rfl
  · rw [decide_eq_false hn] at nn
    have ej : eJoin (eC (.str [32])) (eComp (iT (eV 1)) [2, 3] (tg2 2 3) tYesM (e2 addD (e2 addD (e2 ixD (eV 0) (eV 2)) (eC (.str [64]))) (e1 strID (eV 3)))) [some (.d (Ww ws)), some (.d (Ss ss)), none, none] g = some (.ok (.str (txt ws ss)), g) := by
      unfold eJoin txt
      rw [bind_ap, eC_ap, bindK_ok, bind_ap, lift_ap, asS_s, liftK_some, bindK_ok, bind_ap, c, bindK_ok, lift_ap, jn, if_neg hn]
      rfl
    rw [eIf_ap]
    simp -implicitDefEqProofs [l0, nn, ej]
theorem stamps_text (hL : LetsOk letters) (W : WordsOk letters ws) (h : ∀ s ∈ ss, s.1 < ws.length ∧ s.2 ≤ 7) (hl : ss.length ≤ 12) : f_stamps_text [Ww ws, Ss ss] g = some (.ok (.str (txt ws ss)), g) := by
  have l0 : 0 ≤ LIM := limN (by omega)
  refine fn_rt (sl := [some (.d (Ww ws)), some (.d (Ss ss)), none, none]) rfl (p_ret (d := .str (txt ws ss)) ?_ ⟨.inl rfl, rfl⟩)
  have c : eComp (iT (eV 1)) [2, 3] (tg2 2 3) tYesM (eFs [64] (e2 ixD (eV 0) (eV 2)) (eV 3)) [some (.d (Ww ws)), some (.d (Ss ss)), none, none] g = some (.ok (.lst ((ss.map Sd).map (stDD ws))), g) := by
    refine comp_map (stDD ws) (by simp [Ss]) (by rw [List.length_map]; exact limN (by omega)) fun d hd => ?_
    obtain ⟨s, hs, rfl⟩ := List.mem_map.mp hd
    obtain ⟨h1, h2⟩ := h s hs
    have hw := W.each _ (List.getElem_mem h1)
    have hlw : (wordAt ws s.1).length ≤ 4 := by rw [wat h1]; exact hw.2.1
    have e3 : fsD [64] (wordAt ws s.1) (.int s.2) = some (.str (wordAt ws s.1 ++ [64] ++ [48 + s.2])) := by
      show (if (0 : Int) ≤ s.2 ∧ (s.2 : Int) ≤ 9 ∧ (wordAt ws s.1).length ≤ 1000 ∧ ([64] : List Nat).length ≤ 100 then some (D.str (wordAt ws s.1 ++ [64] ++ figS s.2)) else none) = _
      rw [if_pos ⟨by omega, by omega, by omega, by decide⟩]
      rfl
    refine ⟨[some (.d (Ww ws)), some (.d (Ss ss)), some (.d (.int s.1)), some (.d (.int s.2))], rfl, ?_⟩
    have e4 : stDD ws (Sd s) = .str (wordAt ws s.1 ++ [64] ++ [48 + s.2]) := by
      show D.str (stT ws ((s.1 : Int).toNat, (s.2 : Int).toNat)) = _
      unfold stT
      simp
    rw [e4]
    unfold eFs
    simp -implicitDefEqProofs [wix h1, e3, -List.append_assoc]
  have jn := text_join hL W (fun s hs => (h s hs).1) hl
  have nn := ne_none ss
  by_cases hn : ss = []
  · subst hn
    have nn : neD (Ss []) (.tup []) = some (.bl false) := nn
    simp [l0, nn]
    rfl
  · rw [decide_eq_false hn] at nn
    have ej : eJoin (eC (.str [32])) (eComp (iT (eV 1)) [2, 3] (tg2 2 3) tYesM (eFs [64] (e2 ixD (eV 0) (eV 2)) (eV 3))) [some (.d (Ww ws)), some (.d (Ss ss)), none, none] g = some (.ok (.str (txt ws ss)), g) := by
      unfold eJoin txt
      rw [bind_ap, eC_ap, bindK_ok, bind_ap, lift_ap, asS_s, liftK_some, bindK_ok, bind_ap, c, bindK_ok, lift_ap, jn, if_neg hn]
      rfl
    rw [eIf_ap]
    simp -implicitDefEqProofs [l0, nn, ej]
end
end Lw
namespace Lw
open PySem L2 DL
section
variable {G : Type} {g : G} {ws : List (List Nat)} {B : Nat} {ss : Sts} {letters : List Nat}
theorem ixS {l : List Nat} {i : Nat} (h : i < l.length) : ixD (.str l) (.int i) = some (.str [l[i]]) := by
  show (atI l (i : Int)).map _ = _
  rw [atI_nat h]
  rfl
theorem addS {a b : List Nat} (h : a.length + b.length ≤ 1000) : addD (.str a) (.str b) = some (.str (a ++ b)) := by
  show (if _ then _ else _) = _
  rw [if_pos (by unfold LIM; omega)]
theorem changed_ok {a t0 q : Addr} {g : Tw × G} (ok : GOk a t0 q g.1) {t : List Nat} (ht : t.length ≤ 99) : ∃ (t' : List Nat) (g' : Tw × G), t'.length ≤ 100 ∧ GOk a t0 q g'.1 ∧ g'.2 = g.2 ∧ f__law_changed [.ref a, .ref t0, .str t] g = some (.ok (.str t'), g') := by
  obtain ⟨n, g1, n0, n1, ok1, q1, dr1⟩ := draw_ok ok (many := (t.length : Int) + 1) (by omega) (by omega)
  obtain ⟨m, g2, m0, m1, ok2, q2, dr2⟩ := draw_ok ok1 (many := 10) (by omega) (by omega)
  obtain ⟨k, g3, k0, k1, ok3, q3, dr3⟩ := draw_ok ok2 (many := 3) (by omega) (by omega)
  obtain ⟨n, rfl⟩ : ∃ n' : Nat, n = n' := ⟨n.toNat, by omega⟩
  obtain ⟨m, rfl⟩ : ∃ n' : Nat, m = n' := ⟨m.toNat, by omega⟩
  have l1 : 1 ≤ LIM := limN (by omega)
  have l2 : 2 ≤ LIM := limN (by omega)
  have em : ixD (.str [97, 98, 99, 100, 64, 48, 49, 32, 45, 55]) (.int m) = some (.str [[97, 98, 99, 100, 64, 48, 49, 32, 45, 55][m]'(by simp; omega)]) := ixS (by simp; omega)
  generalize [97, 98, 99, 100, 64, 48, 49, 32, 45, 55][m]'(by simp; omega) = c at em
  have hn : n ≤ t.length := by omega
  have s1 := slS_to t n
  have s2 := slS_from t n
  have s3 := slS_from t (n + 1)
  rw [Int.natCast_add] at s3
  have s3 : slD (.str t) (some ((n : Int) + 1)) none = some (.str (t.drop (n + 1))) := s3
  have a1 : addD (.str (t.take n)) (.str [c]) = some (.str (t.take n ++ [c])) := addS (by rw [List.length_take]; simp; omega)
  have a2 : addD (.str (t.take n ++ [c])) (.str (t.drop n)) = some (.str (t.take n ++ [c] ++ t.drop n)) := addS (by rw [List.length_append, List.length_take, List.length_drop]; simp; omega)
  have a3 : addD (.str (t.take n)) (.str (t.drop (n + 1))) = some (.str (t.take n ++ t.drop (n + 1))) := addS (by rw [List.length_take, List.length_drop]; omega)
  have a4 : addD (.str (t.take n ++ [c])) (.str (t.drop (n + 1))) = some (.str (t.take n ++ [c] ++ t.drop (n + 1))) := addS (by rw [List.length_append, List.length_take, List.length_drop]; simp; omega)
  have b1 : (t.take n ++ [c] ++ t.drop n).length ≤ 100 := by rw [List.length_append, List.length_append, List.length_take, List.length_drop]; simp; omega
  have b2 : (t.take n ++ t.drop (n + 1)).length ≤ 100 := by rw [List.length_append, List.length_take, List.length_drop]; omega
  have b3 : (t.take n ++ [c] ++ t.drop (n + 1)).length ≤ 100 := by rw [List.length_append, List.length_append, List.length_take, List.length_drop]; simp; omega
  generalize t.take n ++ [c] ++ t.drop n = A at a2 b1
  generalize t.take n ++ t.drop (n + 1) = A2 at a3 b2
  generalize t.take n ++ [c] ++ t.drop (n + 1) = A3 at a4 b3
  have al : addD (.lst [.str A, .str A2]) (.lst [.str A3]) = some (.lst [.str A, .str A2, .str A3]) := by
    unfold addD
    simp
    exact limN (by omega)
  obtain ⟨r, hr, er⟩ : ∃ r : List Nat, r.length ≤ 100 ∧ ixD (.lst [.str A, .str A2, .str A3]) (.int k) = some (.str r) := by
    have : k = 0 ∨ k = 1 ∨ k = 2 := by omega
    rcases this with rfl | rfl | rfl
    · exact ⟨A, b1, rfl⟩
    · exact ⟨A2, b2, rfl⟩
    · exact ⟨A3, b3, rfl⟩
  refine ⟨r, g3, hr, ok3, (q3.trans q2).trans q1, fn_rt (sl := [some (.d (.ref a)), some (.d (.ref t0)), some (.d (.str t)), none, none, none]) rfl ?_⟩
  refine st_par (g1 := g1) (g2 := g2) (d := .int n) (d2 := .str [c]) (by simp [dr1]) (by simp [dr2, em]) ?_
  simp only [List.set_cons_succ, List.set_cons_zero]
  refine p_asg (d := .lst [.str A, .str A2]) (by simp [s1, s2, s3, a1, a2, a3, l2]) ?_
  simp only [List.set_cons_succ, List.set_cons_zero]
  exact wp_ret (g1 := g3) (d := .str r) (by simp [s1, s3, a1, a4, l1, al, dr3, er]) ⟨.inl rfl, rfl⟩
theorem same_St (ss : Sts) : neD (Ss ss) (Ss ss) = some (.bl false) := by
  have hf : ∀ s t : Nat × Nat, eqB (Sd s) (Sd t) = decide (s = t) := fun s t => by
    have := eqBs_map (fun i : Nat => D.int (i : Nat)) eqB_nat [s.1, s.2] [t.1, t.2]
    have e : eqB (Sd s) (Sd t) = eqBs ([s.1, s.2].map fun i : Nat => D.int (i : Nat)) ([t.1, t.2].map fun i : Nat => D.int (i : Nat)) := rfl
    rw [e, this]
    obtain ⟨s1, s2⟩ := s
    obtain ⟨t1, t2⟩ := t
    simp
  show (if (flat 8 (Ss ss) && flat 8 (Ss ss)) = true then some (D.bl (!eqBs (ss.map Sd) (ss.map Sd))) else none) = _
  rw [flat_St, eqBs_map Sd hf]
  simp
theorem same_Ww : neD (Ww ws) (Ww ws) = some (.bl false) := by
  have := neD_tS ws ws
  rw [decide_eq_true rfl] at this
  exact this
theorem ne_text {d : D} (h : flat 7 d = true) : neD (.tup [.str sReturns, d]) (.tup [.str [116, 101, 120, 116]]) = some (.bl true) := by
  show (if (flat 8 (.tup [.str sReturns, d]) && flat 8 (.tup [.str [116, 101, 120, 116]])) = true then some (D.bl (!eqBs [.str sReturns, d] [.str [116, 101, 120, 116]])) else none) = _
  have e : flat 8 (.tup [.str sReturns, d]) = (flat 7 (.str sReturns) && (flat 7 d && flats 7 [])) := rfl
  rw [e, h]
  rfl
theorem words_text (W : WordsOk letters ws) : joinD [32] (Ww ws) = some (.str (joinS [32] ws)) := joinD_t (m := 4) (fun p hp => (W.each p hp).2.1) (by have := W.l1; omega)
theorem format_words_ok (hL : LetsOk letters) (W : WordsOk letters ws) : f_format_words [Ww ws] g = some (.ok (.str (joinS [32] ws)), g) := by
  refine fn_rt (sl := [some (.d (Ww ws))]) rfl (p_drop (d := .non) (by simp [check_words_ok hL W]) (p_ret (d := .str (joinS [32] ws)) ?_ ⟨.inl rfl, rfl⟩))
  unfold eJoin
  simp [words_text W]
theorem format_stamps_ok (hL : LetsOk letters) (W : WordsOk letters ws) (b1 : 1 ≤ B) (b8 : B ≤ 8) (h : StsOk ws B ss) : f_format_stamps [Ww ws, .int B, Ss ss] g = some (.ok (.str (txt ws ss)), g) :=
  fn_rt (sl := [some (.d (Ww ws)), some (.d (.int B)), some (.d (Ss ss))]) rfl (p_drop (d := .non) (by simp [check_stamps_ok hL W b1 b8 h]) (p_ret (d := .str (txt ws ss)) (by simp [stamps_text hL W (fun s hs => st7 W b8 (h.each s hs)) h.few]) ⟨.inl rfl, rfl⟩))
theorem no_set : f_check_words [.tup []] g = some (.exc 1, g) := by
  have h : f_are_words [.tup []] g = some (.ok (.bl false), g) := by
    refine fn_rt (sl := [some (.d (.tup [])), none, none]) rfl (wp_seq2 (wp_if (k := true) (g1 := g) (by simp) (fun _ => ?_) (fun h => by cases h)))
    exact p_ret (d := .bl false) (by simp) (.inr ⟨_, rfl, .inl rfl, rfl⟩)
  exact y_fn rfl (y_if (by simp [h]) ⟨rfl, rfl⟩)
theorem fw_x : f_format_words [.tup []] g = some (.exc 1, g) := y_fn rfl (y_dropS (by simp [no_set]) ⟨rfl, rfl⟩)
theorem fs_x1 : f_format_stamps [.tup [], .int 0, .non] g = some (.exc 1, g) := by
  have h1 : f_check_both [.tup [], .int 0] g = some (.exc 1, g) := y_fn rfl (y_dropS (by simp [no_set]) ⟨rfl, rfl⟩)
  have h2 : f_check_stamps [.tup [], .int 0, .non] g = some (.exc 1, g) := y_fn rfl (y_dropS (by simp [h1]) ⟨rfl, rfl⟩)
  exact y_fn rfl (y_dropS (by simp [h2]) ⟨rfl, rfl⟩)
theorem fs_x2 (hL : LetsOk letters) (W : WordsOk letters ws) : f_format_stamps [Ww ws, .int 0, .non] g = some (.exc 2, g) := by
  have h0 : f_check_boxes [.int 0] g = some (.exc 2, g) := y_fn rfl (y_if (by simp [between_eq]) ⟨rfl, rfl⟩)
  have h1 : f_check_both [Ww ws, .int 0] g = some (.exc 2, g) := y_fn rfl (p_drop (d := .non) (by simp [check_words_ok hL W]) (y_drop (by simp [h0]) ⟨rfl, rfl⟩))
  have h2 : f_check_stamps [Ww ws, .int 0, .non] g = some (.exc 2, g) := y_fn rfl (y_dropS (by simp [h1]) ⟨rfl, rfl⟩)
  exact y_fn rfl (y_dropS (by simp [h2]) ⟨rfl, rfl⟩)
theorem fs_x3 (hL : LetsOk letters) (W : WordsOk letters ws) (b1 : 1 ≤ B) (b8 : B ≤ 8) : f_format_stamps [Ww ws, .int B, .non] g = some (.exc 3, g) := by
  have h0 : f_are_stamps_on [Ww ws, .int B, .non] g = some (.ok (.bl false), g) := by
    have it : isiD .tuple .non = some (.bl false) := rfl
    refine fn_rt (sl := [some (.d (Ww ws)), some (.d (.int B)), some (.d .non), none]) rfl (wp_seq2 (wp_if (k := true) (g1 := g) (by simp [it]) (fun _ => ?_) (fun h => by cases h)))
    exact p_ret (d := .bl false) (by simp) (.inr ⟨_, rfl, .inl rfl, rfl⟩)
  have h2 : f_check_stamps [Ww ws, .int B, .non] g = some (.exc 3, g) := y_fn rfl (p_drop (d := .non) (by simp [check_both_ok hL W b1 b8]) (y_if (by simp [h0]) ⟨rfl, rfl⟩))
  exact y_fn rfl (y_dropS (by simp [h2]) ⟨rfl, rfl⟩)
end
theorem law_pure (inn : Bool) (a : Addr) (ns : List Int) (t q : Addr) (hn : ns.length ≤ 63) : ∃ sl' g', F_law ((some (.d (.ref a)) :: List.replicate 11 none).set 1 (some (.d (.ref t)))) (lawG () inn a ns t q) = some (.rt (.bl true), sl', g') := by
  show ∃ sl' g', F_law [some (.d (.ref a)), some (.d (.ref t)), none, none, none, none, none, none, none, none, none, none] (lawG () inn a ns t q) = _
  have ok0 : GOk a t q (lawG () inn a ns t q).1 := ⟨rfl, rfl, Int.le_refl _, hn, by simp [lawG], by simp [lawG]⟩
  generalize lawG () inn a ns t q = g0 at ok0
  have l1 : 1 ≤ LIM := limN (by omega)
  have l4 : 4 ≤ LIM := limN (by omega)
  have l0 : 0 ≤ LIM := limN (by omega)
  have hL : LetsOk [97, 98, 99, 100] := by intro c hc; simp at hc; omega
  have main : WP F_law [some (.d (.ref a)), some (.d (.ref t)), none, none, none, none, none, none, none, none, none, none] g0 fun fl _ _ => fl = .rt (.bl true) := by
    unfold F_law
    refine wp_seq (wp_forI (g1 := g0) (ds := rgD 0 4) (fun _ sl g => sl = [some (.d (.ref a)), some (.d (.ref t)), none, none, none, none, none, none, none, none, none, none] ∧ GOk a t q g.1) (iR1_ap rfl (by omega) (by omega)) ⟨rfl, ok0⟩ ?_ ?_)
    · rintro pre d post sl g _ ⟨rfl, ok⟩
      refine ⟨_, rfl, ?_⟩
      simp only [List.set_cons_succ, List.set_cons_zero]
      obtain ⟨ws, g1, W, ok1, _, dr1⟩ := words_ok ok (most := 4) (letters := [97, 98, 99, 100]) (by decide) (by decide) (by decide) (by decide)
      obtain ⟨z, g2, z0, z1, ok2, _, dr2⟩ := draw_ok ok1 (many := 8) (by decide) (by decide)
      obtain ⟨B, hB⟩ : ∃ B : Nat, (B : Int) = 1 + z := ⟨(1 + z).toNat, by omega⟩
      obtain ⟨ss, g3, ⟨s1, s2⟩, ok3, _, dr3⟩ := stamps_ok ok2 (ws := ws) (letters := [97, 98, 99, 100]) (B := B) (most := 6) W (by omega) (by decide)
      have b1 : 1 ≤ B := by omega
      have b8 : B ≤ 8 := by omega
      have dr1' : f__law_words [.ref a, .ref t, .int 4, .str [97, 98, 99, 100]] g = some (.ok (WwF ws), g1) := dr1
      have dr3' : f__law_stamps [.ref a, .ref t, Ww ws, .int B, .int 6] g2 = some (.ok (Ss ss), g3) := dr3
      have hst : StsOk ws B ss := ⟨by omega, s2⟩
      have h7 : ∀ s ∈ ss, s.1 < ws.length ∧ s.2 ≤ 7 := fun s hs => st7 W b8 (s2 s hs)
      refine st_par (g1 := g1) (g2 := g2) (d := WwF ws) (d2 := .int B) (by simp [dr1']) (by simp [dr2, hB]) ?_
      refine st_asg (g1 := g3) (d := Ss ss) (by simp [dr3', wk_ww]) ?_
      simp only [List.set_cons_succ, List.set_cons_zero]
      have wt := words_text W
      have ow : (joinS [32] ws).length ≤ 99 := by
        have h1 := joinS_len 32 ws
        have h2 := sum_le (ps := ws) (m := 4) fun p hp => (W.each p hp).2.1
        have := W.l1
        omega
      have tw : (txt ws ss).length ≤ 99 := by have := txt_le hL W (fun s hs => (h7 s hs).1) hst.few; omega
      refine p_par (d := .str (joinS [32] ws)) (d2 := .str (txt ws ss)) (by unfold eJoin; simp [wk_ww, wt]) (by simp [wk_ww, law_text hL W h7 hst.few]) ?_
      simp only [List.set_cons_succ, List.set_cons_zero]
      have pw := words_parsed (g := g3) hL W
      have fw := format_words_ok (g := g3) hL W
      have fs := format_stamps_ok (g := g3) hL W b1 b8 hst
      have psd := parse_ok (g := g3) hL W b1 b8 hst
      have lt1 : ∀ (g : Tw × Unit) (ss' : Sts), (∀ s ∈ ss', s.1 < ws.length ∧ s.2 ≤ 7) → ss'.length ≤ 12 → f__law_text [Ww ws, Ss ss'] g = some (.ok (.str (txt ws ss')), g) := fun g ss' h1 h2 => law_text hL W h1 h2
      have pc : ∀ (g : Tw × Unit) (t' : List Nat), t'.length ≤ 100 → f_parse_stamps [WwF ws, .int B, .str t'] g = some (.exc 6, g) ∨ ∃ ss' : Sts, ss'.length ≤ 12 ∧ (∀ s ∈ ss', s.1 < ws.length ∧ s.2 ≤ 7) ∧ txt ws ss' = t' ∧ f_parse_stamps [WwF ws, .int B, .str t'] g = some (.ok (Ss ss'), g) := fun g t' h => parse_cases hL W b1 b8 (by omega)
      generalize joinS [32] ws = one at ow pw fw wt
      generalize txt ws ss = two at tw fs psd
      refine p_not (by simp [wk_ww, fw, pw, same_Ww]) ?_
      refine p_not (by simp [wk_ww, fs]) ?_
      refine p_not (by simp [psd, same_St]) ?_
      refine wp_seq (wp_forI (g1 := g3) (ds := rgD 0 4) (fun _ sl g => sl = [some (.d (.ref a)), some (.d (.ref t)), some (.d d), some (.d (WwF ws)), some (.d (.int B)), some (.d (Ss ss)), some (.d (.str one)), some (.d (.str two)), none, none, none, none] ∧ GOk a t q g.1) (iR1_ap rfl (by omega) (by omega)) ⟨rfl, ok3⟩ ?_ ?_)
      · rintro pre2 y post2 sl g4 _ ⟨rfl, ok4⟩
        refine ⟨_, rfl, ?_⟩
        simp only [List.set_cons_succ, List.set_cons_zero]
        obtain ⟨t1, g5, ht1, ok5, _, ch1⟩ := changed_ok ok4 ow
        refine st_asg (g1 := g5) (d := .str t1) (by simp [ch1]) ?_
        simp only [List.set_cons_succ, List.set_cons_zero]
        -- the second half
        have second : ∀ x10 : D, WP (sSeq (sAsg 9 (xD (callM f__law_changed (aCons (eV 0) (aCons (eV 1) (aCons (eV 7) aNil))))))
            (sSeq (sAsg 10 (xD (eRes 9 errN (callM f_parse_stamps (aCons (eV 3) (aCons (eV 4) (aCons (eV 9) aNil)))))))
            (sIf (tAndM (tV (e2 neD (eV 10) (eTup (aCons (eC (.str [116, 101, 120, 116])) aNil)))) (tOrM (tV (e2 neD (e2 ixD (eV 10) (eC (.int 0))) (eC (.str [114, 101, 116, 117, 114, 110, 115])))) (tV (e2 neD (callM f__law_text (aCons (e1 wkD (eV 3)) (aCons (e2 ixD (eV 10) (eC (.int 1))) aNil))) (eV 9))))) (sRet (eC (.bl false))) sSkip)))
            [some (.d (.ref a)), some (.d (.ref t)), some (.d d), some (.d (WwF ws)), some (.d (.int B)), some (.d (Ss ss)), some (.d (.str one)), some (.d (.str two)), some (.d y), some (.d (.str t1)), some (.d x10), none] g5 fun fl sl2 g2 => (fl = .nx ∨ fl = .ct) ∧ wipeS sl2 [8, 9, 10] = [some (.d (.ref a)), some (.d (.ref t)), some (.d d), some (.d (WwF ws)), some (.d (.int B)), some (.d (Ss ss)), some (.d (.str one)), some (.d (.str two)), none, none, none, none] ∧ GOk a t q g2.1 := fun x10 => by
          obtain ⟨t2, g6, ht2, ok6, _, ch2⟩ := changed_ok ok5 tw
          refine st_asg (g1 := g6) (d := .str t2) (by simp [ch2]) ?_
          simp only [List.set_cons_succ, List.set_cons_zero]
          rcases pc g6 t2 ht2 with e | ⟨ss', k1, k2, k3, e⟩
          · refine p_asg (d := .tup [.str (errN 6)]) (y_res (by simp [e]) (by decide)) ?_
            simp only [List.set_cons_succ, List.set_cons_zero]
            have nt : neD (.tup [.str (errN 6)]) (.tup [.str [116, 101, 120, 116]]) = some (.bl false) := rfl
            exact p_not1 (by simp [l1, nt]) ⟨.inl rfl, rfl, ok6⟩
          · refine p_asg (d := .tup [.str sReturns, Ss ss']) (y_resO (by simp [e])) ?_
            simp only [List.set_cons_succ, List.set_cons_zero]
            have fl7 : flat 7 (Ss ss') = true := by
              show flats 6 (ss'.map Sd) = true
              refine flats_all2 fun x hx => ?_
              obtain ⟨s, _, rfl⟩ := List.mem_map.mp hx
              rfl
            have nt := ne_text fl7
            have i0 : ixD (.tup [.str sReturns, Ss ss']) (.int 0) = some (.str sReturns) := rfl
            have i1 : ixD (.tup [.str sReturns, Ss ss']) (.int 1) = some (Ss ss') := rfl
            have nr : neD (.str sReturns) (.str [114, 101, 116, 117, 114, 110, 115]) = some (.bl false) := rfl
            have tl := lt1 g6 ss' k2 k1
            rw [k3] at tl
            exact p_not1 (by simp -implicitDefEqProofs [l1, nt, i0, i1, nr, wk_ww, tl]) ⟨.inl rfl, rfl, ok6⟩
        rcases words_cases (g := g5) (t := t1) (by omega) with e | e
        · refine p_asg (d := .tup [.str (errN 6)]) (y_res (by simp [e]) (by decide)) ?_
          simp only [List.set_cons_succ, List.set_cons_zero]
          have nt : neD (.tup [.str (errN 6)]) (.tup [.str [116, 101, 120, 116]]) = some (.bl false) := rfl
          exact p_not (by simp [l1, nt]) (second _)
        · refine p_asg (d := .tup [.str sReturns, Ww (splN 32 [] t1)]) (y_resO (by simp [e])) ?_
          simp only [List.set_cons_succ, List.set_cons_zero]
          have nt := ne_text (d := Ww (splN 32 [] t1)) (flats_str _)
          have i0 : ixD (.tup [.str sReturns, Ww (splN 32 [] t1)]) (.int 0) = some (.str sReturns) := rfl
          have i1 : ixD (.tup [.str sReturns, Ww (splN 32 [] t1)]) (.int 1) = some (Ww (splN 32 [] t1)) := rfl
          have nr : neD (.str sReturns) (.str [114, 101, 116, 117, 114, 110, 115]) = some (.bl false) := rfl
          have jn : joinD [32] (Ww (splN 32 [] t1)) = some (.str t1) := by
            have := joinD_t (s := 32) (ps := splN 32 [] t1) (m := 100) (fun p hp => by have := (splN_mem hp).1; simp at this; omega) (by have := splN_num 32 t1 []; omega)
            rw [join_spl, List.nil_append] at this
            exact this
          refine p_not (by unfold eJoin; simp -implicitDefEqProofs [l1, nt, i0, i1, nr, jn]) (second _)
      · rintro sl g4 ⟨rfl, ok4⟩
        refine ⟨rfl, ?_⟩
        refine p_asgL (xs := [.tup [.str (errN 1)]]) (by
          have r1 := y_res (sl := [some (.d (.ref a)), some (.d (.ref t)), some (.d d), some (.d (WwF ws)), some (.d (.int B)), some (.d (Ss ss)), some (.d (.str one)), some (.d (.str two)), none, none, none, none]) (n := 9) (errs := errN) (f := callM f_format_words (aCons (eTup aNil) aNil)) (g := g4) (g1 := g4) (c := 1) (by simp [l0, fw_x]) (by decide)
          rw [eLst_ap, aCons_ap, r1]
          simp [l1]) ?_
        simp only [List.set_cons_succ, List.set_cons_zero]
        refine wp_seq (p_app (xs := [.tup [.str (errN 1)]]) (d := .tup [.str (errN 1)]) rfl (y_res (by simp [l0, fs_x1]) (by decide)) (by unfold LIM; simp) ⟨rfl, ?_⟩)
        simp only [List.set_cons_succ, List.set_cons_zero]
        refine wp_seq (p_app (xs := [.tup [.str (errN 1)], .tup [.str (errN 1)]]) (d := .tup [.str (errN 2)]) rfl (y_res (by simp [wk_ww, fs_x2 hL W]) (by decide)) (by unfold LIM; simp) ⟨rfl, ?_⟩)
        simp only [List.set_cons_succ, List.set_cons_zero]
        refine wp_seq (p_app (xs := [.tup [.str (errN 1)], .tup [.str (errN 1)], .tup [.str (errN 2)]]) (d := .tup [.str (errN 3)]) rfl (y_res (by simp [wk_ww, fs_x3 hL W b1 b8]) (by decide)) (by unfold LIM; simp) ⟨rfl, ?_⟩)
        simp only [List.set_cons_succ, List.set_cons_zero]
        have nn : neD (.lst [.tup [.str (errN 1)], .tup [.str (errN 1)], .tup [.str (errN 2)], .tup [.str (errN 3)]]) (.lst [.tup [.str [115, 101, 116]], .tup [.str [115, 101, 116]], .tup [.str [98, 111, 120, 101, 115]], .tup [.str [109, 97, 114, 107, 115]]]) = some (.bl false) := rfl
        exact p_not1 (by simp [l1, l4, nn]) ⟨.inl rfl, rfl, ok4⟩
    · rintro sl g ⟨rfl, ok⟩
      refine ⟨rfl, p_ret (d := .bl true) ?_ rfl⟩
      rw [call_ap, aNil_ap, callK_ok]
      exact by_hand g
  obtain ⟨fl, sl', g', e, rfl⟩ := main
  exact ⟨sl', g', e⟩
end Lw
namespace Lw
open PySem L2 DL
theorem all_mk {w : World} {K : PySem.W.Frag} {h : Heap} {mg : Str → Option Value} {fa : Addr} (X : K.In h) (G : h.Ns mainGlobals mg) (hfa : mg "law" = some (.ref fa))
    {f0 : Addr} {oc0 : Value} {od0 : Option Addr} {kV0 dc0 pm0 : Value} {an0 : Option Addr} {cd0 ct0 : Value} {sl0 : Array (Option Value)}
    {f1 : Addr} {oc1 : Value} {od1 : Option Addr} {kV1 dc1 pm1 : Value} {an1 : Option Addr} {cd1 ct1 : Value} {sl1 : Array (Option Value)}
    {f2 : Addr} {oc2 : Value} {od2 : Option Addr} {kV2 dc2 pm2 : Value} {an2 : Option Addr} {cd2 ct2 : Value} {sl2 : Array (Option Value)}
    {f3 : Addr} {oc3 : Value} {od3 : Option Addr} {kV3 dc3 pm3 : Value} {an3 : Option Addr} {cd3 ct3 : Value} {sl3 : Array (Option Value)}
    {f4 : Addr} {oc4 : Value} {od4 : Option Addr} {kV4 dc4 pm4 : Value} {an4 : Option Addr} {cd4 ct4 : Value} {sl4 : Array (Option Value)}
    {f5 : Addr} {oc5 : Value} {od5 : Option Addr} {kV5 dc5 pm5 : Value} {an5 : Option Addr} {cd5 ct5 : Value} {sl5 : Array (Option Value)}
    {f6 : Addr} {oc6 : Value} {od6 : Option Addr} {kV6 dc6 pm6 : Value} {an6 : Option Addr} {cd6 ct6 : Value} {sl6 : Array (Option Value)}
    {f7 : Addr} {oc7 : Value} {od7 : Option Addr} {kV7 dc7 pm7 : Value} {an7 : Option Addr} {cd7 ct7 : Value} {sl7 : Array (Option Value)}
    {f8 : Addr} {oc8 : Value} {od8 : Option Addr} {kV8 dc8 pm8 : Value} {an8 : Option Addr} {cd8 ct8 : Value} {sl8 : Array (Option Value)}
    {f9 : Addr} {oc9 : Value} {od9 : Option Addr} {kV9 dc9 pm9 : Value} {an9 : Option Addr} {cd9 ct9 : Value} {sl9 : Array (Option Value)}
    {f10 : Addr} {oc10 : Value} {od10 : Option Addr} {kV10 dc10 pm10 : Value} {an10 : Option Addr} {cd10 ct10 : Value} {sl10 : Array (Option Value)}
    {f11 : Addr} {oc11 : Value} {od11 : Option Addr} {kV11 dc11 pm11 : Value} {an11 : Option Addr} {cd11 ct11 : Value} {sl11 : Array (Option Value)}
    {f12 : Addr} {oc12 : Value} {od12 : Option Addr} {kV12 dc12 pm12 : Value} {an12 : Option Addr} {cd12 ct12 : Value} {sl12 : Array (Option Value)}
    {f13 : Addr} {oc13 : Value} {od13 : Option Addr} {kV13 dc13 pm13 : Value} {an13 : Option Addr} {cd13 ct13 : Value} {sl13 : Array (Option Value)}
    {f14 : Addr} {oc14 : Value} {od14 : Option Addr} {kV14 dc14 pm14 : Value} {an14 : Option Addr} {cd14 ct14 : Value} {sl14 : Array (Option Value)}
    {f15 : Addr} {oc15 : Value} {od15 : Option Addr} {kV15 dc15 pm15 : Value} {an15 : Option Addr} {cd15 ct15 : Value} {sl15 : Array (Option Value)}
    {f16 : Addr} {oc16 : Value} {od16 : Option Addr} {kV16 dc16 pm16 : Value} {an16 : Option Addr} {cd16 ct16 : Value} {sl16 : Array (Option Value)}
    {f17 : Addr} {oc17 : Value} {od17 : Option Addr} {kV17 dc17 pm17 : Value} {an17 : Option Addr} {cd17 ct17 : Value} {sl17 : Array (Option Value)}
    {f18 : Addr} {oc18 : Value} {od18 : Option Addr} {kV18 dc18 pm18 : Value} {an18 : Option Addr} {cd18 ct18 : Value} {sl18 : Array (Option Value)}
    {f19 : Addr} {oc19 : Value} {od19 : Option Addr} {kV19 dc19 pm19 : Value} {an19 : Option Addr} {cd19 ct19 : Value} {sl19 : Array (Option Value)}
    {f20 : Addr} {oc20 : Value} {od20 : Option Addr} {kV20 dc20 pm20 : Value} {an20 : Option Addr} {cd20 ct20 : Value} {sl20 : Array (Option Value)}
    {f21 : Addr} {oc21 : Value} {od21 : Option Addr} {kV21 dc21 pm21 : Value} {an21 : Option Addr} {cd21 ct21 : Value} {sl21 : Array (Option Value)}
    {f22 : Addr} {oc22 : Value} {od22 : Option Addr} {kV22 dc22 pm22 : Value} {an22 : Option Addr} {cd22 ct22 : Value} {sl22 : Array (Option Value)}
    {f23 : Addr} {oc23 : Value} {od23 : Option Addr} {kV23 dc23 pm23 : Value} {an23 : Option Addr} {cd23 ct23 : Value} {sl23 : Array (Option Value)}
    {f24 : Addr} {oc24 : Value} {od24 : Option Addr} {kV24 dc24 pm24 : Value} {an24 : Option Addr} {cd24 ct24 : Value} {sl24 : Array (Option Value)}
    {t_LETTERS : Nat}
    (a0 : PySem.W.nsIn K mainGlobals "_law_begun" = some (some (.ref f0))) (l0 : K.lookup f0 = some ⟨oc0, od0, .func (PySem.W.fnOf "_law_begun" "_law_begun" (defArgs s__law_begun) (defBody s__law_begun) (defScope s__law_begun) .none kV0 dc0 pm0 an0 cd0 ct0), sl0⟩) (c0 : PySem.W.codeIn K cd0 "_law_begun" = true) (k0 : PySem.W.keepIn K (.ref f0) = true)
    (a1 : PySem.W.nsIn K mainGlobals "_law_result" = some (some (.ref f1))) (l1 : K.lookup f1 = some ⟨oc1, od1, .func (PySem.W.fnOf "_law_result" "_law_result" (defArgs s__law_result) (defBody s__law_result) (defScope s__law_result) .none kV1 dc1 pm1 an1 cd1 ct1), sl1⟩) (c1 : PySem.W.codeIn K cd1 "_law_result" = true) (k1 : PySem.W.keepIn K (.ref f1) = true)
    (a2 : PySem.W.nsIn K mainGlobals "is_string_of" = some (some (.ref f2))) (l2 : K.lookup f2 = some ⟨oc2, od2, .func (PySem.W.fnOf "is_string_of" "is_string_of" (defArgs s_is_string_of) (defBody s_is_string_of) (defScope s_is_string_of) .none kV2 dc2 pm2 an2 cd2 ct2), sl2⟩) (c2 : PySem.W.codeIn K cd2 "is_string_of" = true) (k2 : PySem.W.keepIn K (.ref f2) = true)
    (a3 : PySem.W.nsIn K mainGlobals "are_words" = some (some (.ref f3))) (l3 : K.lookup f3 = some ⟨oc3, od3, .func (PySem.W.fnOf "are_words" "are_words" (defArgs s_are_words) (defBody s_are_words) (defScope s_are_words) .none kV3 dc3 pm3 an3 cd3 ct3), sl3⟩) (c3 : PySem.W.codeIn K cd3 "are_words" = true) (k3 : PySem.W.keepIn K (.ref f3) = true)
    (a4 : PySem.W.nsIn K mainGlobals "parse_words" = some (some (.ref f4))) (l4 : K.lookup f4 = some ⟨oc4, od4, .func (PySem.W.fnOf "parse_words" "parse_words" (defArgs s_parse_words) (defBody s_parse_words) (defScope s_parse_words) .none kV4 dc4 pm4 an4 cd4 ct4), sl4⟩) (c4 : PySem.W.codeIn K cd4 "parse_words" = true) (k4 : PySem.W.keepIn K (.ref f4) = true)
    (a5 : PySem.W.nsIn K mainGlobals "check_words" = some (some (.ref f5))) (l5 : K.lookup f5 = some ⟨oc5, od5, .func (PySem.W.fnOf "check_words" "check_words" (defArgs s_check_words) (defBody s_check_words) (defScope s_check_words) .none kV5 dc5 pm5 an5 cd5 ct5), sl5⟩) (c5 : PySem.W.codeIn K cd5 "check_words" = true) (k5 : PySem.W.keepIn K (.ref f5) = true)
    (a6 : PySem.W.nsIn K mainGlobals "is_between" = some (some (.ref f6))) (l6 : K.lookup f6 = some ⟨oc6, od6, .func (PySem.W.fnOf "is_between" "is_between" (defArgs s_is_between) (defBody s_is_between) (defScope s_is_between) .none kV6 dc6 pm6 an6 cd6 ct6), sl6⟩) (c6 : PySem.W.codeIn K cd6 "is_between" = true) (k6 : PySem.W.keepIn K (.ref f6) = true)
    (a7 : PySem.W.nsIn K mainGlobals "check_boxes" = some (some (.ref f7))) (l7 : K.lookup f7 = some ⟨oc7, od7, .func (PySem.W.fnOf "check_boxes" "check_boxes" (defArgs s_check_boxes) (defBody s_check_boxes) (defScope s_check_boxes) .none kV7 dc7 pm7 an7 cd7 ct7), sl7⟩) (c7 : PySem.W.codeIn K cd7 "check_boxes" = true) (k7 : PySem.W.keepIn K (.ref f7) = true)
    (a8 : PySem.W.nsIn K mainGlobals "check_both" = some (some (.ref f8))) (l8 : K.lookup f8 = some ⟨oc8, od8, .func (PySem.W.fnOf "check_both" "check_both" (defArgs s_check_both) (defBody s_check_both) (defScope s_check_both) .none kV8 dc8 pm8 an8 cd8 ct8), sl8⟩) (c8 : PySem.W.codeIn K cd8 "check_both" = true) (k8 : PySem.W.keepIn K (.ref f8) = true)
    (a9 : PySem.W.nsIn K mainGlobals "is_stamp" = some (some (.ref f9))) (l9 : K.lookup f9 = some ⟨oc9, od9, .func (PySem.W.fnOf "is_stamp" "is_stamp" (defArgs s_is_stamp) (defBody s_is_stamp) (defScope s_is_stamp) .none kV9 dc9 pm9 an9 cd9 ct9), sl9⟩) (c9 : PySem.W.codeIn K cd9 "is_stamp" = true) (k9 : PySem.W.keepIn K (.ref f9) = true)
    (a10 : PySem.W.nsIn K mainGlobals "are_stamps_on" = some (some (.ref f10))) (l10 : K.lookup f10 = some ⟨oc10, od10, .func (PySem.W.fnOf "are_stamps_on" "are_stamps_on" (defArgs s_are_stamps_on) (defBody s_are_stamps_on) (defScope s_are_stamps_on) .none kV10 dc10 pm10 an10 cd10 ct10), sl10⟩) (c10 : PySem.W.codeIn K cd10 "are_stamps_on" = true) (k10 : PySem.W.keepIn K (.ref f10) = true)
    (a11 : PySem.W.nsIn K mainGlobals "read_stamp" = some (some (.ref f11))) (l11 : K.lookup f11 = some ⟨oc11, od11, .func (PySem.W.fnOf "read_stamp" "read_stamp" (defArgs s_read_stamp) (defBody s_read_stamp) (defScope s_read_stamp) .none kV11 dc11 pm11 an11 cd11 ct11), sl11⟩) (c11 : PySem.W.codeIn K cd11 "read_stamp" = true) (k11 : PySem.W.keepIn K (.ref f11) = true)
    (a12 : PySem.W.nsIn K mainGlobals "parse_stamps" = some (some (.ref f12))) (l12 : K.lookup f12 = some ⟨oc12, od12, .func (PySem.W.fnOf "parse_stamps" "parse_stamps" (defArgs s_parse_stamps) (defBody s_parse_stamps) (defScope s_parse_stamps) .none kV12 dc12 pm12 an12 cd12 ct12), sl12⟩) (c12 : PySem.W.codeIn K cd12 "parse_stamps" = true) (k12 : PySem.W.keepIn K (.ref f12) = true)
    (a13 : PySem.W.nsIn K mainGlobals "format_words" = some (some (.ref f13))) (l13 : K.lookup f13 = some ⟨oc13, od13, .func (PySem.W.fnOf "format_words" "format_words" (defArgs s_format_words) (defBody s_format_words) (defScope s_format_words) .none kV13 dc13 pm13 an13 cd13 ct13), sl13⟩) (c13 : PySem.W.codeIn K cd13 "format_words" = true) (k13 : PySem.W.keepIn K (.ref f13) = true)
    (a14 : PySem.W.nsIn K mainGlobals "check_stamps" = some (some (.ref f14))) (l14 : K.lookup f14 = some ⟨oc14, od14, .func (PySem.W.fnOf "check_stamps" "check_stamps" (defArgs s_check_stamps) (defBody s_check_stamps) (defScope s_check_stamps) .none kV14 dc14 pm14 an14 cd14 ct14), sl14⟩) (c14 : PySem.W.codeIn K cd14 "check_stamps" = true) (k14 : PySem.W.keepIn K (.ref f14) = true)
    (a15 : PySem.W.nsIn K mainGlobals "stamps_text" = some (some (.ref f15))) (l15 : K.lookup f15 = some ⟨oc15, od15, .func (PySem.W.fnOf "stamps_text" "stamps_text" (defArgs s_stamps_text) (defBody s_stamps_text) (defScope s_stamps_text) .none kV15 dc15 pm15 an15 cd15 ct15), sl15⟩) (c15 : PySem.W.codeIn K cd15 "stamps_text" = true) (k15 : PySem.W.keepIn K (.ref f15) = true)
    (a16 : PySem.W.nsIn K mainGlobals "format_stamps" = some (some (.ref f16))) (l16 : K.lookup f16 = some ⟨oc16, od16, .func (PySem.W.fnOf "format_stamps" "format_stamps" (defArgs s_format_stamps) (defBody s_format_stamps) (defScope s_format_stamps) .none kV16 dc16 pm16 an16 cd16 ct16), sl16⟩) (c16 : PySem.W.codeIn K cd16 "format_stamps" = true) (k16 : PySem.W.keepIn K (.ref f16) = true)
    (a17 : PySem.W.nsIn K mainGlobals "_law_by_hand" = some (some (.ref f17))) (l17 : K.lookup f17 = some ⟨oc17, od17, .func (PySem.W.fnOf "_law_by_hand" "_law_by_hand" (defArgs s__law_by_hand) (defBody s__law_by_hand) (defScope s__law_by_hand) .none kV17 dc17 pm17 an17 cd17 ct17), sl17⟩) (c17 : PySem.W.codeIn K cd17 "_law_by_hand" = true) (k17 : PySem.W.keepIn K (.ref f17) = true)
    (a18 : PySem.W.nsIn K mainGlobals "_law_draw" = some (some (.ref f18))) (l18 : K.lookup f18 = some ⟨oc18, od18, .func (PySem.W.fnOf "_law_draw" "_law_draw" (defArgs s__law_draw) (defBody s__law_draw) (defScope s__law_draw) .none kV18 dc18 pm18 an18 cd18 ct18), sl18⟩) (c18 : PySem.W.codeIn K cd18 "_law_draw" = true) (k18 : PySem.W.keepIn K (.ref f18) = true)
    (a19 : PySem.W.nsIn K mainGlobals "_law_stamps" = some (some (.ref f19))) (l19 : K.lookup f19 = some ⟨oc19, od19, .func (PySem.W.fnOf "_law_stamps" "_law_stamps" (defArgs s__law_stamps) (defBody s__law_stamps) (defScope s__law_stamps) .none kV19 dc19 pm19 an19 cd19 ct19), sl19⟩) (c19 : PySem.W.codeIn K cd19 "_law_stamps" = true) (k19 : PySem.W.keepIn K (.ref f19) = true)
    (a20 : PySem.W.nsIn K mainGlobals "_law_word" = some (some (.ref f20))) (l20 : K.lookup f20 = some ⟨oc20, od20, .func (PySem.W.fnOf "_law_word" "_law_word" (defArgs s__law_word) (defBody s__law_word) (defScope s__law_word) .none kV20 dc20 pm20 an20 cd20 ct20), sl20⟩) (c20 : PySem.W.codeIn K cd20 "_law_word" = true) (k20 : PySem.W.keepIn K (.ref f20) = true)
    (a21 : PySem.W.nsIn K mainGlobals "_law_words" = some (some (.ref f21))) (l21 : K.lookup f21 = some ⟨oc21, od21, .func (PySem.W.fnOf "_law_words" "_law_words" (defArgs s__law_words) (defBody s__law_words) (defScope s__law_words) .none kV21 dc21 pm21 an21 cd21 ct21), sl21⟩) (c21 : PySem.W.codeIn K cd21 "_law_words" = true) (k21 : PySem.W.keepIn K (.ref f21) = true)
    (a22 : PySem.W.nsIn K mainGlobals "_law_text" = some (some (.ref f22))) (l22 : K.lookup f22 = some ⟨oc22, od22, .func (PySem.W.fnOf "_law_text" "_law_text" (defArgs s__law_text) (defBody s__law_text) (defScope s__law_text) .none kV22 dc22 pm22 an22 cd22 ct22), sl22⟩) (c22 : PySem.W.codeIn K cd22 "_law_text" = true) (k22 : PySem.W.keepIn K (.ref f22) = true)
    (a23 : PySem.W.nsIn K mainGlobals "_law_changed" = some (some (.ref f23))) (l23 : K.lookup f23 = some ⟨oc23, od23, .func (PySem.W.fnOf "_law_changed" "_law_changed" (defArgs s__law_changed) (defBody s__law_changed) (defScope s__law_changed) .none kV23 dc23 pm23 an23 cd23 ct23), sl23⟩) (c23 : PySem.W.codeIn K cd23 "_law_changed" = true) (k23 : PySem.W.keepIn K (.ref f23) = true)
    (a24 : PySem.W.nsIn K mainGlobals "law" = some (some (.ref f24))) (l24 : K.lookup f24 = some ⟨oc24, od24, .func (PySem.W.fnOf "law" "law" (defArgs s_law) (defBody s_law) (defScope s_law) .none kV24 dc24 pm24 an24 cd24 ct24), sl24⟩) (c24 : PySem.W.codeIn K cd24 "law" = true) (k24 : PySem.W.keepIn K (.ref f24) = true)
    (z_ValueError : PySem.W.nsIn K mainGlobals "ValueError" = some none)
    (z_all : PySem.W.nsIn K mainGlobals "all" = some none)
    (z_bool : PySem.W.nsIn K mainGlobals "bool" = some none)
    (z_int : PySem.W.nsIn K mainGlobals "int" = some none)
    (z_isinstance : PySem.W.nsIn K mainGlobals "isinstance" = some none)
    (z_len : PySem.W.nsIn K mainGlobals "len" = some none)
    (z_range : PySem.W.nsIn K mainGlobals "range" = some none)
    (z_set : PySem.W.nsIn K mainGlobals "set" = some none)
    (z_sorted : PySem.W.nsIn K mainGlobals "sorted" = some none)
    (z_str : PySem.W.nsIn K mainGlobals "str" = some none)
    (z_tuple : PySem.W.nsIn K mainGlobals "tuple" = some none)
    (z_zip : PySem.W.nsIn K mainGlobals "zip" = some none)
    (g_LETTERS : PySem.W.nsIn K mainGlobals "LETTERS" = some (some (.str "abcd" t_LETTERS)))
    {C0 : Addr} (gc0 : PySem.W.nsIn K mainGlobals "StampError" = some (some (.ref C0)))
    {C1 : Addr} (gc1 : PySem.W.nsIn K mainGlobals "InvalidWords" = some (some (.ref C1)))
    {C2 : Addr} (gc2 : PySem.W.nsIn K mainGlobals "InvalidBoxes" = some (some (.ref C2)))
    {C3 : Addr} (gc3 : PySem.W.nsIn K mainGlobals "InvalidStamps" = some (some (.ref C3)))
    {C4 : Addr} (gc4 : PySem.W.nsIn K mainGlobals "InvalidRow" = some (some (.ref C4)))
    {C5 : Addr} (gc5 : PySem.W.nsIn K mainGlobals "InvalidLength" = some (some (.ref C5)))
    {C6 : Addr} (gc6 : PySem.W.nsIn K mainGlobals "InvalidText" = some (some (.ref C6)))
    {C7 : Addr} (gc7 : PySem.W.nsIn K mainGlobals "TooMany" = some (some (.ref C7)))
    {C8 : Addr} (gc8 : PySem.W.nsIn K mainGlobals "NothingToUndo" = some (some (.ref C8)))
    (chk : errChk K [C0, C1, C2, C3, C4, C5, C6, C7, C8] bmVE "ValueError.__new__" = true)
    {c__law_by_hand : Addr} (hc__law_by_hand : cd17 = .ref c__law_by_hand)
    {c_law : Addr} (hc_law : cd24 = .ref c_law)
    {P__law_by_hand : Addr} (nP__law_by_hand : K.lookup P__law_by_hand = none) (hd__law_by_hand : PySem.W.codeHdIn K c__law_by_hand P__law_by_hand = true)
    {P_law : Addr} (nP_law : K.lookup P_law = none) (hd_law : PySem.W.codeHdIn K c_law P_law = true)
    (ne__law_by_hand_law : P__law_by_hand ≠ P_law)
    (tP__law_by_hand : h.get? P__law_by_hand = some (PySem.W.tabObj #[]))
    (tP_law : h.get? P_law = some (PySem.W.tabObj #[]))
    {l : PySem.W.OpenLaw} : LamX.LawAtS l w K (L2.CX l.prog w) 12 63 "script" mg fa h := by
  subst hc__law_by_hand
  subst hc_law
  have e := hfa.symm.trans (PySem.W.mg_of X G a24)
  cases e
  have F0 := fun_mk (st := s__law_begun) l0 c0 k0
  have b0 := F0.binds (ps := []) fun _ _ _ _ _ _ us hl => match us, hl with | [], _ => rfl
  have F1 := fun_mk (st := s__law_result) l1 c1 k1
  have b1 := F1.binds (ps := ["call"]) fun _ _ _ _ _ _ us hl => match us, hl with | [_], _ => rfl
  have F2 := fun_mk (st := s_is_string_of) l2 c2 k2
  have b2 := F2.binds (ps := ["value", "most"]) fun _ _ _ _ _ _ us hl => match us, hl with | [_, _], _ => rfl
  have F3 := fun_mk (st := s_are_words) l3 c3 k3
  have b3 := F3.binds (ps := ["value"]) fun _ _ _ _ _ _ us hl => match us, hl with | [_], _ => rfl
  have F4 := fun_mk (st := s_parse_words) l4 c4 k4
  have b4 := F4.binds (ps := ["text"]) fun _ _ _ _ _ _ us hl => match us, hl with | [_], _ => rfl
  have F5 := fun_mk (st := s_check_words) l5 c5 k5
  have b5 := F5.binds (ps := ["words"]) fun _ _ _ _ _ _ us hl => match us, hl with | [_], _ => rfl
  have F6 := fun_mk (st := s_is_between) l6 c6 k6
  have b6 := F6.binds (ps := ["value", "low", "high"]) fun _ _ _ _ _ _ us hl => match us, hl with | [_, _, _], _ => rfl
  have F7 := fun_mk (st := s_check_boxes) l7 c7 k7
  have b7 := F7.binds (ps := ["boxes"]) fun _ _ _ _ _ _ us hl => match us, hl with | [_], _ => rfl
  have F8 := fun_mk (st := s_check_both) l8 c8 k8
  have b8 := F8.binds (ps := ["words", "boxes"]) fun _ _ _ _ _ _ us hl => match us, hl with | [_, _], _ => rfl
  have F9 := fun_mk (st := s_is_stamp) l9 c9 k9
  have b9 := F9.binds (ps := ["words", "boxes", "value"]) fun _ _ _ _ _ _ us hl => match us, hl with | [_, _, _], _ => rfl
  have F10 := fun_mk (st := s_are_stamps_on) l10 c10 k10
  have b10 := F10.binds (ps := ["words", "boxes", "value"]) fun _ _ _ _ _ _ us hl => match us, hl with | [_, _, _], _ => rfl
  have F11 := fun_mk (st := s_read_stamp) l11 c11 k11
  have b11 := F11.binds (ps := ["words", "text"]) fun _ _ _ _ _ _ us hl => match us, hl with | [_, _], _ => rfl
  have F12 := fun_mk (st := s_parse_stamps) l12 c12 k12
  have b12 := F12.binds (ps := ["words", "boxes", "text"]) fun _ _ _ _ _ _ us hl => match us, hl with | [_, _, _], _ => rfl
  have F13 := fun_mk (st := s_format_words) l13 c13 k13
  have b13 := F13.binds (ps := ["words"]) fun _ _ _ _ _ _ us hl => match us, hl with | [_], _ => rfl
  have F14 := fun_mk (st := s_check_stamps) l14 c14 k14
  have b14 := F14.binds (ps := ["words", "boxes", "stamps"]) fun _ _ _ _ _ _ us hl => match us, hl with | [_, _, _], _ => rfl
  have F15 := fun_mk (st := s_stamps_text) l15 c15 k15
  have b15 := F15.binds (ps := ["words", "stamps"]) fun _ _ _ _ _ _ us hl => match us, hl with | [_, _], _ => rfl
  have F16 := fun_mk (st := s_format_stamps) l16 c16 k16
  have b16 := F16.binds (ps := ["words", "boxes", "stamps"]) fun _ _ _ _ _ _ us hl => match us, hl with | [_, _, _], _ => rfl
  have F17 := fun_mk (st := s__law_by_hand) l17 c17 k17
  have b17 := F17.binds (ps := []) fun _ _ _ _ _ _ us hl => match us, hl with | [], _ => rfl
  have F18 := fun_mk (st := s__law_draw) l18 c18 k18
  have b18 := F18.binds (ps := ["script", "town", "many"]) fun _ _ _ _ _ _ us hl => match us, hl with | [_, _, _], _ => rfl
  have F19 := fun_mk (st := s__law_stamps) l19 c19 k19
  have b19 := F19.binds (ps := ["script", "town", "words_of", "many", "most"]) fun _ _ _ _ _ _ us hl => match us, hl with | [_, _, _, _, _], _ => rfl
  have F20 := fun_mk (st := s__law_word) l20 c20 k20
  have b20 := F20.binds (ps := ["script", "town", "most", "letters"]) fun _ _ _ _ _ _ us hl => match us, hl with | [_, _, _, _], _ => rfl
  have F21 := fun_mk (st := s__law_words) l21 c21 k21
  have b21 := F21.binds (ps := ["script", "town", "most", "letters"]) fun _ _ _ _ _ _ us hl => match us, hl with | [_, _, _, _], _ => rfl
  have F22 := fun_mk (st := s__law_text) l22 c22 k22
  have b22 := F22.binds (ps := ["words_of", "marks"]) fun _ _ _ _ _ _ us hl => match us, hl with | [_, _], _ => rfl
  have F23 := fun_mk (st := s__law_changed) l23 c23 k23
  have b23 := F23.binds (ps := ["script", "town", "text_here"]) fun _ _ _ _ _ _ us hl => match us, hl with | [_, _, _], _ => rfl
  have F24 := fun_mk (st := s_law) l24 c24 k24
  have b24 := F24.binds (ps := ["script"]) fun _ _ _ _ _ _ us hl => match us, hl with | [_], _ => rfl
  let T : Txt K mg :=
    { f__law_begun := _, fd__law_begun := _, d__law_begun := ⟨F0, PySem.W.mg_of X G a0⟩, b__law_begun := b0,
      f__law_result := _, fd__law_result := _, d__law_result := ⟨F1, PySem.W.mg_of X G a1⟩, b__law_result := b1,
      f_is_string_of := _, fd_is_string_of := _, d_is_string_of := ⟨F2, PySem.W.mg_of X G a2⟩, b_is_string_of := b2,
      f_are_words := _, fd_are_words := _, d_are_words := ⟨F3, PySem.W.mg_of X G a3⟩, b_are_words := b3,
      f_parse_words := _, fd_parse_words := _, d_parse_words := ⟨F4, PySem.W.mg_of X G a4⟩, b_parse_words := b4,
      f_check_words := _, fd_check_words := _, d_check_words := ⟨F5, PySem.W.mg_of X G a5⟩, b_check_words := b5,
      f_is_between := _, fd_is_between := _, d_is_between := ⟨F6, PySem.W.mg_of X G a6⟩, b_is_between := b6,
      f_check_boxes := _, fd_check_boxes := _, d_check_boxes := ⟨F7, PySem.W.mg_of X G a7⟩, b_check_boxes := b7,
      f_check_both := _, fd_check_both := _, d_check_both := ⟨F8, PySem.W.mg_of X G a8⟩, b_check_both := b8,
      f_is_stamp := _, fd_is_stamp := _, d_is_stamp := ⟨F9, PySem.W.mg_of X G a9⟩, b_is_stamp := b9,
      f_are_stamps_on := _, fd_are_stamps_on := _, d_are_stamps_on := ⟨F10, PySem.W.mg_of X G a10⟩, b_are_stamps_on := b10,
      f_read_stamp := _, fd_read_stamp := _, d_read_stamp := ⟨F11, PySem.W.mg_of X G a11⟩, b_read_stamp := b11,
      f_parse_stamps := _, fd_parse_stamps := _, d_parse_stamps := ⟨F12, PySem.W.mg_of X G a12⟩, b_parse_stamps := b12,
      f_format_words := _, fd_format_words := _, d_format_words := ⟨F13, PySem.W.mg_of X G a13⟩, b_format_words := b13,
      f_check_stamps := _, fd_check_stamps := _, d_check_stamps := ⟨F14, PySem.W.mg_of X G a14⟩, b_check_stamps := b14,
      f_stamps_text := _, fd_stamps_text := _, d_stamps_text := ⟨F15, PySem.W.mg_of X G a15⟩, b_stamps_text := b15,
      f_format_stamps := _, fd_format_stamps := _, d_format_stamps := ⟨F16, PySem.W.mg_of X G a16⟩, b_format_stamps := b16,
      f__law_by_hand := _, fd__law_by_hand := _, d__law_by_hand := ⟨F17, PySem.W.mg_of X G a17⟩, b__law_by_hand := b17,
      f__law_draw := _, fd__law_draw := _, d__law_draw := ⟨F18, PySem.W.mg_of X G a18⟩, b__law_draw := b18,
      f__law_stamps := _, fd__law_stamps := _, d__law_stamps := ⟨F19, PySem.W.mg_of X G a19⟩, b__law_stamps := b19,
      f__law_word := _, fd__law_word := _, d__law_word := ⟨F20, PySem.W.mg_of X G a20⟩, b__law_word := b20,
      f__law_words := _, fd__law_words := _, d__law_words := ⟨F21, PySem.W.mg_of X G a21⟩, b__law_words := b21,
      f__law_text := _, fd__law_text := _, d__law_text := ⟨F22, PySem.W.mg_of X G a22⟩, b__law_text := b22,
      f__law_changed := _, fd__law_changed := _, d__law_changed := ⟨F23, PySem.W.mg_of X G a23⟩, b__law_changed := b23,
      f_law := _, fd_law := _, d_law := ⟨F24, PySem.W.mg_of X G a24⟩, b_law := b24,
      oc__law_by_hand := _, kV__law_by_hand := _, doc__law_by_hand := _, pm__law_by_hand := _, ct__law_by_hand := _, od__law_by_hand := _, an__law_by_hand := _, osl__law_by_hand := _, c__law_by_hand := _, lk__law_by_hand := l17, hcd__law_by_hand := c17, bl__law_by_hand := b17,
      oc_law := _, kV_law := _, doc_law := _, pm_law := _, ct_law := _, od_law := _, an_law := _, osl_law := _, c_law := _, lk_law := l24, hcd_law := c24, bl_law := b24,
      P__law_by_hand := _, nP__law_by_hand := nP__law_by_hand,
      P_law := _, nP_law := nP_law,
      ne__law_by_hand_law := ne__law_by_hand_law,
      n_ValueError := PySem.W.mg_none_of X G z_ValueError,
      n_all := PySem.W.mg_none_of X G z_all,
      n_bool := PySem.W.mg_none_of X G z_bool,
      n_int := PySem.W.mg_none_of X G z_int,
      n_isinstance := PySem.W.mg_none_of X G z_isinstance,
      n_len := PySem.W.mg_none_of X G z_len,
      n_range := PySem.W.mg_none_of X G z_range,
      n_set := PySem.W.mg_none_of X G z_set,
      n_sorted := PySem.W.mg_none_of X G z_sorted,
      n_str := PySem.W.mg_none_of X G z_str,
      n_tuple := PySem.W.mg_none_of X G z_tuple,
      n_zip := PySem.W.mg_none_of X G z_zip,
      t_LETTERS := t_LETTERS, g_LETTERS := PySem.W.mg_of X G g_LETTERS,
      kb_format_stamps := fun s ws _ hl => match ws, hl with | [_, _, _], _ => .of_eq rfl,
      kb_format_words := fun s ws _ hl => match ws, hl with | [_], _ => .of_eq rfl,
      kb_parse_stamps := fun s ws _ hl => match ws, hl with | [_, _, _], _ => .of_eq rfl,
      kb_parse_words := fun s ws _ hl => match ws, hl with | [_], _ => .of_eq rfl,
      Cs := [C0, C1, C2, C3, C4, C5, C6, C7, C8], hCs := rfl, chk := chk, gE := fun i hi => match i, hi with | 0, _ => PySem.W.mg_of X G gc0 | 1, _ => PySem.W.mg_of X G gc1 | 2, _ => PySem.W.mg_of X G gc2 | 3, _ => PySem.W.mg_of X G gc3 | 4, _ => PySem.W.mg_of X G gc4 | 5, _ => PySem.W.mg_of X G gc5 | 6, _ => PySem.W.mg_of X G gc6 | 7, _ => PySem.W.mg_of X G gc7 | 8, _ => PySem.W.mg_of X G gc8 }
  exact ⟨fl_law T, [(c__law_by_hand, P__law_by_hand), (c_law, P_law)], spLawT K (tabs T), (fun p hp => by
    rcases List.mem_cons.mp hp with rfl | hp
    · exact tP__law_by_hand
    rcases List.mem_cons.mp hp with rfl | hp
    · exact tP_law
    cases hp), (fun p hp => by
    rcases List.mem_cons.mp hp with rfl | hp
    · exact nP__law_by_hand
    rcases List.mem_cons.mp hp with rfl | hp
    · exact nP_law
    cases hp), (fun p hp => by
    rcases List.mem_cons.mp hp with rfl | hp
    · exact PySem.W.codeHd_of_K X hd__law_by_hand
    rcases List.mem_cons.mp hp with rfl | hp
    · exact PySem.W.codeHd_of_K X hd_law
    cases hp), (fun s v => .of_eq rfl), (fun H a ns hl _ hT hS => ⟨a, ns, rfl, hS, hl, (fun t ht => by
    rcases List.mem_cons.mp ht with rfl | ht
    · exact hT (c__law_by_hand, P__law_by_hand) (.head _)
    rcases List.mem_cons.mp ht with rfl | ht
    · exact hT (c_law, P_law) (.tail _ (.head _))
    cases ht), fun _ => rfl⟩), fun base _ _ hB => ok_law (P := l.prog) T ⟨hB (c__law_by_hand, P__law_by_hand) (.head _), hB (c_law, P_law) (.tail _ (.head _))⟩ (law_pure)⟩
end Lw
open PySem PySem.W PyProof.Rows in
set_option maxRecDepth 100000 in
set_option maxHeartbeats 0 in
theorem PySem.Challenge.cw_stampedrows_k26_texts_holds : PySem.Challenge.rw_stampedrows_k26_texts.Holds := by
  w_on; o_law; k_head; (case hw => w_witness2)
  k_fill
  refine LamX.walk_ofTs (l := PySem.Challenge.rw_stampedrows_k26_texts) (n := 63) (k := 12) (x := "script") (CX := fun w => L2.CX PySem.Challenge.rw_stampedrows_k26_texts.prog w) rfl (by decide) rfl ⟨rfl, by decide, by decide⟩ (fun w h Y => PySem.W.km_in_of Y) ?F (fun w H s e s' z => DL.cx_false z)
  case F =>
    intro w mg fa h Y KX G hmg
    refine' Lw.all_mk KX G hmg ?a0 ?l0 ?c0 ?k0 ?a1 ?l1 ?c1 ?k1 ?a2 ?l2 ?c2 ?k2 ?a3 ?l3 ?c3 ?k3 ?a4 ?l4 ?c4 ?k4 ?a5 ?l5 ?c5 ?k5 ?a6 ?l6 ?c6 ?k6 ?a7 ?l7 ?c7 ?k7 ?a8 ?l8 ?c8 ?k8 ?a9 ?l9 ?c9 ?k9 ?a10 ?l10 ?c10 ?k10 ?a11 ?l11 ?c11 ?k11 ?a12 ?l12 ?c12 ?k12 ?a13 ?l13 ?c13 ?k13 ?a14 ?l14 ?c14 ?k14 ?a15 ?l15 ?c15 ?k15 ?a16 ?l16 ?c16 ?k16 ?a17 ?l17 ?c17 ?k17 ?a18 ?l18 ?c18 ?k18 ?a19 ?l19 ?c19 ?k19 ?a20 ?l20 ?c20 ?k20 ?a21 ?l21 ?c21 ?k21 ?a22 ?l22 ?c22 ?k22 ?a23 ?l23 ?c23 ?k23 ?a24 ?l24 ?c24 ?k24 ?z_ValueError ?z_all ?z_bool ?z_int ?z_isinstance ?z_len ?z_range ?z_set ?z_sorted ?z_str ?z_tuple ?z_zip ?g_LETTERS ?gc0 ?gc1 ?gc2 ?gc3 ?gc4 ?gc5 ?gc6 ?gc7 ?gc8 ?chk ?hc__law_by_hand ?hc_law ?nP__law_by_hand ?hd__law_by_hand ?nP_law ?hd_law ?ne__law_by_hand_law (PySem.W.km_tabs_of Y _ (.head _)) (PySem.W.km_tabs_of Y _ (.tail _ (.head _)))
    (case a0 => k_is)
    (case l0 => k_is)
    (case c0 => k_is)
    (case k0 => k_is)
    (case a1 => k_is)
    (case l1 => k_is)
    (case c1 => k_is)
    (case k1 => k_is)
    (case a2 => k_is)
    (case l2 => k_is)
    (case c2 => k_is)
    (case k2 => k_is)
    (case a3 => k_is)
    (case l3 => k_is)
    (case c3 => k_is)
    (case k3 => k_is)
    (case a4 => k_is)
    (case l4 => k_is)
    (case c4 => k_is)
    (case k4 => k_is)
    (case a5 => k_is)
    (case l5 => k_is)
    (case c5 => k_is)
    (case k5 => k_is)
    (case a6 => k_is)
    (case l6 => k_is)
    (case c6 => k_is)
    (case k6 => k_is)
    (case a7 => k_is)
    (case l7 => k_is)
    (case c7 => k_is)
    (case k7 => k_is)
    (case a8 => k_is)
    (case l8 => k_is)
    (case c8 => k_is)
    (case k8 => k_is)
    (case a9 => k_is)
    (case l9 => k_is)
    (case c9 => k_is)
    (case k9 => k_is)
    (case a10 => k_is)
    (case l10 => k_is)
    (case c10 => k_is)
    (case k10 => k_is)
    (case a11 => k_is)
    (case l11 => k_is)
    (case c11 => k_is)
    (case k11 => k_is)
    (case a12 => k_is)
    (case l12 => k_is)
    (case c12 => k_is)
    (case k12 => k_is)
    (case a13 => k_is)
    (case l13 => k_is)
    (case c13 => k_is)
    (case k13 => k_is)
    (case a14 => k_is)
    (case l14 => k_is)
    (case c14 => k_is)
    (case k14 => k_is)
    (case a15 => k_is)
    (case l15 => k_is)
    (case c15 => k_is)
    (case k15 => k_is)
    (case a16 => k_is)
    (case l16 => k_is)
    (case c16 => k_is)
    (case k16 => k_is)
    (case a17 => k_is)
    (case l17 => k_is)
    (case c17 => k_is)
    (case k17 => k_is)
    (case a18 => k_is)
    (case l18 => k_is)
    (case c18 => k_is)
    (case k18 => k_is)
    (case a19 => k_is)
    (case l19 => k_is)
    (case c19 => k_is)
    (case k19 => k_is)
    (case a20 => k_is)
    (case l20 => k_is)
    (case c20 => k_is)
    (case k20 => k_is)
    (case a21 => k_is)
    (case l21 => k_is)
    (case c21 => k_is)
    (case k21 => k_is)
    (case a22 => k_is)
    (case l22 => k_is)
    (case c22 => k_is)
    (case k22 => k_is)
    (case a23 => k_is)
    (case l23 => k_is)
    (case c23 => k_is)
    (case k23 => k_is)
    (case a24 => k_is)
    (case l24 => k_is)
    (case c24 => k_is)
    (case k24 => k_is)
    (case z_ValueError => k_is)
    (case z_all => k_is)
    (case z_bool => k_is)
    (case z_int => k_is)
    (case z_isinstance => k_is)
    (case z_len => k_is)
    (case z_range => k_is)
    (case z_set => k_is)
    (case z_sorted => k_is)
    (case z_str => k_is)
    (case z_tuple => k_is)
    (case z_zip => k_is)
    (case g_LETTERS => k_is)
    (case gc0 => k_is)
    (case gc1 => k_is)
    (case gc2 => k_is)
    (case gc3 => k_is)
    (case gc4 => k_is)
    (case gc5 => k_is)
    (case gc6 => k_is)
    (case gc7 => k_is)
    (case gc8 => k_is)
    (case chk => first | kernel_rfl | k_is)
    (case hc__law_by_hand => first | rfl | k_is)
    (case hc_law => first | rfl | k_is)
    (case nP__law_by_hand => first | rfl | k_is)
    (case hd__law_by_hand => first | kernel_rfl | k_is)
    (case nP_law => first | rfl | k_is)
    (case hd_law => first | kernel_rfl | k_is)
    (case ne__law_by_hand_law => decide)
#print axioms PySem.Challenge.cw_stampedrows_k26_texts_holds
