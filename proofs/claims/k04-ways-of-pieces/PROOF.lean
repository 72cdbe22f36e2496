import PyProof.Rows.All
import Wide.All
import OpenK.AllK
import Wide.FinOn
import PyProof.EqAt
import PyProof.EqKinds
import PyProof.TupleCall
import HandS.ForMost
import HandS.Exc
import HandS.TryOnly
import HandS.ExcOwn
import HandS.WordsExc
import HandS.Walk
import HandS.Zip
import HandS.Conv
import HandS.IsInst
import HandS.Wide
import HandS.Lambda
import HandS.EndTab
import KE.DataEq
import PyProof.StrOps2
import HandS.TupMul
import HandS.Style
import HandS.Deep
import HandS.TupAny
import HandS.TupLe
import KE.KTupSum
import KE.DataMinMax
import HandS.SortInts
import HandS.TupSets
import KE.IntTextLaws
import KE.KIntText
import HandS.SetFor
import HandS.StrMore
import HandS.MapJoin
import HandS.Strs
import HandS.Flow
import KE.GoesMore
import KE.GoesEnum
import KE.GoesZip
import HandS.Iter
import HandS.More
import HandS.ExcInit
import HandS.ExcField
import KE.IntTextText
import PySem.Challenge.RW_clothlay_k04_whole_ways_of_pieces
set_option Elab.async false
set_option linter.all false
set_option maxRecDepth 100000
set_option maxHeartbeats 4000000
/-! the data layer, part 1: data in the frozen part of the abstract heap -/
namespace Dl
open PySem PySem.Spec PyProof.Rows L2

abbrev D := PyData

/-- a tuple that stands: tracked, or the module's own -/
def TupAt (K : PySem.W.Frag) (F : Hp) (a : Addr) (xs : List V) : Prop :=
  F a = some (.tup xs) ∨
    ∃ (o : Obj) (its : Array Value) (n : Nat), K.lookup a = some o ∧ o.cls = .type "tuple" ∧ o.data = .seq its n ∧ its.size ≤ sizeLine ∧ Vals xs its.toList

mutual
inductive Dat (K : PySem.W.Frag) (F : Hp) : V → D → Prop
  | non : Dat K F .non .none
  | bl (b : Bool) : Dat K F (.bl b) (.bool b)
  | int (i : Int) : Dat K F (.int i) (.int i)
  | str (x : Str) : PyData.strOk x = true → Dat K F (.str x) (.str x)
  | lst {a : Addr} {xs : List V} {ds : List D} : F a = some (.lst xs) → Dats K F xs ds → ds.length ≤ 16777216 → Dat K F (.ref a) (.list ds)
  | tup {a : Addr} {xs : List V} {ds : List D} : TupAt K F a xs → Dats K F xs ds → ds.length ≤ 16777216 → Dat K F (.ref a) (.tuple ds)
inductive Dats (K : PySem.W.Frag) (F : Hp) : List V → List D → Prop
  | nil : Dats K F [] []
  | cons {v : V} {vs : List V} {d : D} {ds : List D} : Dat K F v d → Dats K F vs ds → Dats K F (v :: vs) (d :: ds)
end

section
variable {K : PySem.W.Frag} {F F' H H' : Hp}
theorem TupAt.mono {a : Addr} {xs : List V} (h : TupAt K F a xs) (s : Same F F') : TupAt K F' a xs := by
  rcases h with h | h
  · exact .inl (s _ _ h)
  · exact .inr h
theorem TupAt.seq {a : Addr} {xs : List V} (h : TupAt K F a xs) : SqT K F a xs := by
  rcases h with h | h
  · exact .inl (.inl h)
  · exact .inr h
mutual
theorem Dat.mono (s : Same F F') : ∀ (d : D) (v : V), Dat K F v d → Dat K F' v d
  | .none, v, h => by cases h; exact .non
  | .bool _, v, h => by cases h; exact .bl _
  | .int _, v, h => by cases h; exact .int _
  | .str _, v, h => by cases h with | str _ k => exact .str _ k
  | .list ds, v, h => by cases h with | lst e k z => exact .lst (s _ _ e) (Dats.mono s ds _ k) z
  | .tuple ds, v, h => by cases h with | tup e k z => exact .tup (e.mono s) (Dats.mono s ds _ k) z
  | .dict _, v, h => by cases h
theorem Dats.mono (s : Same F F') : ∀ (ds : List D) (vs : List V), Dats K F vs ds → Dats K F' vs ds
  | [], vs, h => by cases h; exact .nil
  | d :: ds, vs, h => by cases h with | cons a b => exact .cons (Dat.mono s d _ a) (Dats.mono s ds _ b)
end
mutual
theorem Dat.dp : ∀ (d : D) (v : V), Dat K F v d → Dp K F v d
  | .none, v, h => by cases h; exact .non
  | .bool _, v, h => by cases h; exact .bl _
  | .int _, v, h => by cases h; exact .int _
  | .str _, v, h => by cases h; exact .str _
  | .list ds, v, h => by cases h with | lst e k _ => exact .lst (.inl (.inl e)) (Dats.dp ds _ k)
  | .tuple ds, v, h => by cases h with | tup e k _ => exact .tup e.seq (Dats.dp ds _ k)
  | .dict _, v, h => by cases h
theorem Dats.dp : ∀ (ds : List D) (vs : List V), Dats K F vs ds → DpAll K F vs ds
  | [], vs, h => by cases h; exact .nil
  | d :: ds, vs, h => by cases h with | cons a b => exact .cons (Dat.dp d _ a) (Dats.dp ds _ b)
end
mutual
theorem Dat.canLay : ∀ (d : D) (v : V), Dat K F v d → d.canLay0 = true
  | .none, v, h => rfl
  | .bool _, v, h => rfl
  | .int _, v, h => rfl
  | .str _, v, h => by cases h with | str _ k => simpa [PyData.canLay0] using k
  | .list ds, v, h => by cases h with | lst e k _ => simpa [PyData.canLay0] using Dats.canLay ds _ k
  | .tuple ds, v, h => by cases h with | tup e k _ => simpa [PyData.canLay0] using Dats.canLay ds _ k
  | .dict _, v, h => by cases h
theorem Dats.canLay : ∀ (ds : List D) (vs : List V), Dats K F vs ds → PyData.canLayAll0 ds = true
  | [], vs, h => rfl
  | d :: ds, vs, h => by cases h with | cons a b => simp [PyData.canLayAll0, Dat.canLay d _ a, Dats.canLay ds _ b]
end
theorem Dats.length : ∀ {ds : List D} {vs : List V}, Dats K F vs ds → vs.length = ds.length
  | [], vs, h => by cases h; rfl
  | d :: ds, vs, h => by cases h with | cons a b => simp [Dats.length b]
theorem Dats.get : ∀ {ds : List D} {vs : List V} {i : Nat} {d : D}, Dats K F vs ds → ds[i]? = some d → ∃ v, vs[i]? = some v ∧ Dat K F v d
  | [], vs, i, d, h, e => by simp at e
  | d :: ds, vs, 0, d', h, e => by cases h with | cons a b => exact ⟨_, rfl, by simp at e; subst e; exact a⟩
  | d :: ds, vs, i + 1, d', h, e => by
    cases h with
    | cons a b =>
      obtain ⟨v, e1, e2⟩ := Dats.get (i := i) (d := d') b (by simpa using e)
      exact ⟨v, by simpa using e1, e2⟩
theorem Dats.getV : ∀ {ds : List D} {vs : List V} {i : Nat} {v : V}, Dats K F vs ds → vs[i]? = some v → ∃ d, ds[i]? = some d ∧ Dat K F v d
  | [], vs, i, v, h, e => by cases h; simp at e
  | d :: ds, vs, 0, v, h, e => by cases h with | cons a b => exact ⟨_, rfl, by simp at e; subst e; exact a⟩
  | d :: ds, vs, i + 1, v, h, e => by
    cases h with
    | cons a b =>
      obtain ⟨d', e1, e2⟩ := Dats.getV (i := i) (v := v) b (by simpa using e)
      exact ⟨d', by simpa using e1, e2⟩
theorem Dats.append : ∀ {ds ds' : List D} {vs vs' : List V}, Dats K F vs ds → Dats K F vs' ds' → Dats K F (vs ++ vs') (ds ++ ds')
  | [], ds', vs, vs', h, k => by cases h; exact k
  | d :: ds, ds', vs, vs', h, k => by cases h with | cons a b => exact .cons a (Dats.append b k)
theorem Dats.take : ∀ {ds : List D} {vs : List V} (n : Nat), Dats K F vs ds → Dats K F (vs.take n) (ds.take n)
  | _, _, 0, _ => by simp; exact .nil
  | [], vs, n + 1, h => by cases h; exact .nil
  | d :: ds, vs, n + 1, h => by cases h with | cons a b => exact .cons a (Dats.take n b)
theorem Dats.drop : ∀ {ds : List D} {vs : List V} (n : Nat), Dats K F vs ds → Dats K F (vs.drop n) (ds.drop n)
  | _, _, 0, h => h
  | [], vs, n + 1, h => by cases h; exact .nil
  | d :: ds, vs, n + 1, h => by cases h with | cons a b => exact Dats.drop n b
theorem Dats.set {v : V} {d : D} (r : Dat K F v d) : ∀ {ds : List D} {vs : List V} (i : Nat), Dats K F vs ds → Dats K F (vs.set i v) (ds.set i d)
  | [], vs, _, h => by cases h; exact .nil
  | d :: ds, vs, 0, h => by cases h with | cons a b => exact .cons r b
  | d :: ds, vs, i + 1, h => by cases h with | cons a b => exact .cons a (Dats.set r i b)
theorem Dats.one {v : V} {d : D} (r : Dat K F v d) : Dats K F [v] [d] := .cons r .nil
theorem Dats.reverse : ∀ {ds : List D} {vs : List V}, Dats K F vs ds → Dats K F vs.reverse ds.reverse
  | [], vs, h => by cases h; exact .nil
  | d :: ds, vs, h => by
    cases h with
    | cons a b => rw [List.reverse_cons, List.reverse_cons]; exact Dats.append (Dats.reverse b) (.one a)
theorem Dats.dropLast {ds : List D} {vs : List V} (h : Dats K F vs ds) : Dats K F vs.dropLast ds.dropLast := by
  rw [List.dropLast_eq_take, List.dropLast_eq_take, h.length]
  exact h.take _
theorem Dats.eraseIdx {ds : List D} {vs : List V} (i : Nat) (h : Dats K F vs ds) : Dats K F (vs.eraseIdx i) (ds.eraseIdx i) := by
  rw [List.eraseIdx_eq_take_drop_succ, List.eraseIdx_eq_take_drop_succ]
  exact (h.take _).append (h.drop _)
theorem Dats.replicate {v : V} {d : D} (r : Dat K F v d) : ∀ n, Dats K F (List.replicate n v) (List.replicate n d)
  | 0 => .nil
  | n + 1 => .cons r (Dats.replicate r n)
theorem Dats.flat {ds : List D} {vs : List V} (h : Dats K F vs ds) : ∀ n : Nat, Dats K F (List.replicate n vs).flatten (List.replicate n ds).flatten
  | 0 => .nil
  | n + 1 => by simpa [List.replicate_succ] using h.append (Dats.flat h n)
theorem Dats.ints : ∀ {ns : List Int} {vs : List V}, Dats K F vs (ns.map .int) → vs = ns.map V.int
  | [], vs, h => by cases h; rfl
  | n :: ns, vs, h => by cases h with | cons a b => cases a; rw [Dats.ints b]; rfl
theorem Dats.ofInts : ∀ (ns : List Int), Dats K F (ns.map V.int) (ns.map .int)
  | [] => .nil
  | n :: ns => .cons (.int n) (Dats.ofInts ns)
theorem Dats.bools : ∀ {ns : List Bool} {vs : List V}, Dats K F vs (ns.map .bool) → vs = ns.map V.bl
  | [], vs, h => by cases h; rfl
  | n :: ns, vs, h => by cases h with | cons a b => cases a; rw [Dats.bools b]; rfl
end

/-- the ints of a list of data, if all are -/
def intsOf : List D → Option (List Int)
  | [] => some []
  | .int i :: r => (intsOf r).map (i :: ·)
  | _ :: _ => none
theorem intsOf_map : ∀ ns : List Int, intsOf (ns.map .int) = some ns
  | [] => rfl
  | n :: r => by simp [intsOf, intsOf_map r]
theorem intsOf_eq : ∀ {ds : List D} {ns : List Int}, intsOf ds = some ns → ds = ns.map .int
  | [], ns, h => by simp [intsOf] at h; subst h; rfl
  | .int i :: r, ns, h => by
    simp only [intsOf, Option.map_eq_some_iff] at h
    obtain ⟨l, h1, rfl⟩ := h
    rw [intsOf_eq h1]; rfl
  | .none :: r, ns, h => by simp [intsOf] at h
  | .bool _ :: r, ns, h => by simp [intsOf] at h
  | .str _ :: r, ns, h => by simp [intsOf] at h
  | .list _ :: r, ns, h => by simp [intsOf] at h
  | .tuple _ :: r, ns, h => by simp [intsOf] at h
  | .dict _ :: r, ns, h => by simp [intsOf] at h
def boolsOf : List D → Option (List Bool)
  | [] => some []
  | .bool i :: r => (boolsOf r).map (i :: ·)
  | _ :: _ => none
theorem boolsOf_map : ∀ ns : List Bool, boolsOf (ns.map .bool) = some ns
  | [] => rfl
  | n :: r => by simp [boolsOf, boolsOf_map r]
theorem boolsOf_eq : ∀ {ds : List D} {ns : List Bool}, boolsOf ds = some ns → ds = ns.map .bool
  | [], ns, h => by simp [boolsOf] at h; subst h; rfl
  | .bool i :: r, ns, h => by
    simp only [boolsOf, Option.map_eq_some_iff] at h
    obtain ⟨l, h1, rfl⟩ := h
    rw [boolsOf_eq h1]; rfl
  | .none :: r, ns, h => by simp [boolsOf] at h
  | .int _ :: r, ns, h => by simp [boolsOf] at h
  | .str _ :: r, ns, h => by simp [boolsOf] at h
  | .list _ :: r, ns, h => by simp [boolsOf] at h
  | .tuple _ :: r, ns, h => by simp [boolsOf] at h
  | .dict _ :: r, ns, h => by simp [boolsOf] at h

/-! ### the world of a law: its written part, the row, the script, the tables -/
structure Wd where
  K : PySem.W.Frag
  mg : Str → Option Value
  R : Addr
  S : Addr
  T : List (Addr × Str)

/-- the script's list: as it stands beside the row, or in the written part -/
def SqS (K : PySem.W.Frag) (H : Hp) (S R : Addr) (xs : List V) : Prop :=
  (Rd H S (.lst xs) ∧ S ≠ R) ∨ ∃ (o : Obj) (its : Array Value) (n : Nat), K.lookup S = some o ∧ o.cls = .type "list" ∧ o.dict = none ∧ o.data = .seq its n ∧ its.size ≤ sizeLine ∧ Vals xs its.toList
theorem SqS.sq {K : PySem.W.Frag} {H : Hp} {S R : Addr} {xs : List V} (h : SqS K H S R xs) : SqL K H S xs := h.elim (fun z => .inl z.1) .inr
theorem SqS.imp {K : PySem.W.Frag} {H H' : Hp} {S R : Addr} {xs : List V} (h : SqS K H S R xs) (k : ∀ o, H S = some o → (∀ ps, o ≠ .tbl ps) → S ≠ R → H' S = some o) : SqS K H' S R xs := by
  rcases h with ⟨h | ⟨o, h⟩, n⟩ | h
  · exact .inl ⟨.inl (k _ h (fun ps z => by cases z) n), n⟩
  · exact .inl ⟨.inr ⟨o, k _ h (fun ps z => by cases z) n⟩, n⟩
  · exact .inr h
/-- the row: the script, the number of the last cell, two numbers -/
def RowOk (W : Wd) (H : Hp) : Prop :=
  (∃ i s g : Int, H W.R = some (.lst [.ref W.S, .int i, .int s, .int g]) ∧ 0 ≤ i ∧ 0 ≤ s ∧ s < 2147483647 ∧ 0 ≤ g ∧ g < 10 ^ 90) ∧
  ∃ ns : List Int, SqS W.K H W.S W.R (ns.map V.int) ∧ ns.length ≤ 63 ∧ ∀ z ∈ ns, Builtin.Int.intBits z ≤ 1048576
def Good (W : Wd) (H : Hp) : Prop := RowOk W H ∧ LamX.Tabs W.T H
/-- the frozen part -/
structure FOk (W : Wd) (F H : Hp) : Prop where
  sub : Same F H
  imm : ∀ b o, F b = some o → (∃ xs, o = .lst xs) ∨ ∃ xs, o = .tup xs
  nr : F W.R = none
def nt (o : HO) : Prop := ∀ ps, o ≠ .tbl ps
/-- from (F, H) to (F', H'): what stood stands (but for the row and the tables), what is frozen now was frozen or is new -/
structure Ext (W : Wd) (F H F' H' : Hp) : Prop where
  keep : ∀ b o, H b = some o → nt o → b ≠ W.R → H' b = some o
  sub : Same F F'
  fr : ∀ b o, F b = none → H b = some o → nt o → F' b = none
  ok : FOk W F' H'
  gd : Good W H'

section
variable {W : Wd} {F H F' H' F'' H'' : Hp}
theorem Ext.refl (f : FOk W F H) (g : Good W H) : Ext W F H F H :=
  ⟨fun _ _ h _ _ => h, Same.refl _, fun _ _ h _ _ => h, f, g⟩
theorem Ext.trans (a : Ext W F H F' H') (b : Ext W F' H' F'' H'') : Ext W F H F'' H'' where
  keep := fun c o h n e => b.keep c o (a.keep c o h n e) n e
  sub := a.sub.trans b.sub
  fr := fun c o h1 h2 h3 => by
    by_cases hc : c = W.R
    · rw [hc]; exact b.ok.nr
    · exact b.fr c o (a.fr c o h1 h2 h3) (a.keep c o h2 h3 hc) h3
  ok := b.ok
  gd := b.gd
theorem Good.new {a : Addr} {o : HO} (g : Good W H) (n : H a = none) : Good W (upd H a o) := by
  obtain ⟨⟨⟨i, s, gg, e, hb⟩, ns, hs, hl⟩, t⟩ := g
  have sm : ∀ b u, H b = some u → upd H a o b = some u := fun b u e => by rw [upd_ne (ne_of_none e n)]; exact e
  exact ⟨⟨⟨i, s, gg, sm _ _ e, hb⟩, ns, hs.imp fun o h _ _ => sm _ _ h, hl⟩, t.ext sm⟩
theorem same_new {a : Addr} {o : HO} (n : H a = none) : Same H (upd H a o) := fun b u e => by rw [upd_ne (ne_of_none e n)]; exact e
theorem FOk.none {a : Addr} (f : FOk W F H) (n : H a = none) : F a = none := f.sub.free n
/-- a new object that isn't frozen -/
theorem Ext.new {a : Addr} {o : HO} (f : FOk W F H) (g : Good W H) (n : H a = none) : Ext W F H F (upd H a o) :=
  ⟨fun b u e _ _ => same_new n b u e, Same.refl _, fun _ _ h _ _ => h,
    ⟨f.sub.trans (same_new n), f.imm, f.nr⟩, g.new n⟩
theorem Good.nR (g : Good W H) : H W.R ≠ none := by
  obtain ⟨⟨⟨i, s, gg, e, _⟩, _⟩, _⟩ := g
  rw [e]; simp
/-- a new frozen list or tuple -/
theorem Ext.frz {a : Addr} {o : HO} (f : FOk W F H) (g : Good W H) (n : H a = none) (ho : (∃ xs, o = .lst xs) ∨ ∃ xs, o = .tup xs) : Ext W F H (upd F a o) (upd H a o) := by
  have nF := f.none n
  refine ⟨fun b u e _ _ => same_new n b u e, same_new nF, fun b o' h1 h2 _ => ?_, ⟨fun b u e => ?_, fun b u e => ?_, ?_⟩, g.new n⟩
  · have : b ≠ a := ne_of_none h2 n
    rw [upd_ne this]; exact h1
  · by_cases hb : b = a
    · subst hb; rw [upd_same] at e ⊢; exact e
    · rw [upd_ne hb] at e ⊢; exact f.sub _ _ e
  · by_cases hb : b = a
    · subst hb; rw [upd_same] at e; cases e; exact ho
    · rw [upd_ne hb] at e; exact f.imm _ _ e
  · have : W.R ≠ a := fun z => g.nR (z ▸ n)
    rw [upd_ne this]; exact f.nr
theorem Ext.lst {a : Addr} {xs : List V} (f : FOk W F H) (g : Good W H) (n : H a = none) : Ext W F H (upd F a (.lst xs)) (upd H a (.lst xs)) := .frz f g n (.inl ⟨_, rfl⟩)
theorem Ext.tup {a : Addr} {xs : List V} (f : FOk W F H) (g : Good W H) (n : H a = none) : Ext W F H (upd F a (.tup xs)) (upd H a (.tup xs)) := .frz f g n (.inr ⟨_, rfl⟩)
/-- an owned list is frozen from now on -/
theorem Ext.frzOwn {a : Addr} {xs : List V} (f : FOk W F H) (g : Good W H) (e : H a = some (.lst xs)) (nR : a ≠ W.R) : FOk W (upd F a (.lst xs)) H := by
  refine ⟨fun b u q => ?_, fun b u q => ?_, ?_⟩
  · by_cases hb : b = a
    · subst hb; rw [upd_same] at q; cases q; exact e
    · rw [upd_ne hb] at q; exact f.sub _ _ q
  · by_cases hb : b = a
    · subst hb; rw [upd_same] at q; cases q; exact .inl ⟨_, rfl⟩
    · rw [upd_ne hb] at q; exact f.imm _ _ q
  · rw [upd_ne (Ne.symm nR)]; exact f.nr
end

/-! ### a value that is read now: data, or an owned list -/
def Rdv (W : Wd) (F H : Hp) (v : V) (d : D) : Prop :=
  Dat W.K F v d ∨ ∃ a vs ds, v = .ref a ∧ d = .list ds ∧ H a = some (.lst vs) ∧ Dats W.K F vs ds ∧ F a = none ∧ a ≠ W.R ∧ ds.length ≤ 16777216
inductive Rdvs (W : Wd) (F H : Hp) : List V → List D → Prop
  | nil : Rdvs W F H [] []
  | cons {v : V} {vs : List V} {d : D} {ds : List D} : Rdv W F H v d → Rdvs W F H vs ds → Rdvs W F H (v :: vs) (d :: ds)
section
variable {W : Wd} {F H F' H' : Hp}
theorem Rdv.ext {v : V} {d : D} (r : Rdv W F H v d) (e : Ext W F H F' H') : Rdv W F' H' v d := by
  rcases r with r | ⟨a, vs, ds, h1, h2, h3, h4, h5, h6, h7⟩
  · exact .inl (r.mono e.sub)
  · exact .inr ⟨a, vs, ds, h1, h2, e.keep _ _ h3 (fun ps z => by cases z) h6, h4.mono e.sub, e.fr _ _ h5 h3 (fun ps z => by cases z), h6, h7⟩
theorem Rdvs.ext : ∀ {vs : List V} {ds : List D}, Rdvs W F H vs ds → Ext W F H F' H' → Rdvs W F' H' vs ds
  | _, _, .nil, _ => .nil
  | _, _, .cons r t, e => .cons (r.ext e) (t.ext e)
theorem Rdv.dp {v : V} {d : D} (f : FOk W F H) (r : Rdv W F H v d) : Dp W.K H v d := by
  rcases r with r | ⟨a, vs, ds, rfl, rfl, h3, h4, h5, h6, h7⟩
  · exact (r.mono f.sub).dp
  · exact .lst (.inl (.inl h3)) (h4.mono f.sub).dp
theorem Rdv.canLay {v : V} {d : D} (r : Rdv W F H v d) : d.canLay0 = true := by
  rcases r with r | ⟨a, vs, ds, rfl, rfl, h3, h4, h5, h6, h7⟩
  · exact r.canLay
  · simpa [PyData.canLay0] using h4.canLay
/-- a list that is read -/
theorem Rdv.lst {v : V} {ds : List D} (f : FOk W F H) (r : Rdv W F H v (.list ds)) : ∃ a vs, v = .ref a ∧ H a = some (.lst vs) ∧ Dats W.K F vs ds ∧ ds.length ≤ 16777216 := by
  rcases r with r | ⟨a, vs, ds', rfl, e, h3, h4, h5, h6, h7⟩
  · cases r with | lst e k z => exact ⟨_, _, rfl, f.sub _ _ e, k, z⟩
  · cases e; exact ⟨a, vs, rfl, h3, h4, h7⟩
theorem Rdv.tup {v : V} {ds : List D} (f : FOk W F H) (r : Rdv W F H v (.tuple ds)) : ∃ a vs, v = .ref a ∧ TupAt W.K H a vs ∧ Dats W.K F vs ds ∧ ds.length ≤ 16777216 := by
  rcases r with r | ⟨a, vs, ds', rfl, e, h3, h4, h5, h6, h7⟩
  · cases r with | tup e k z => exact ⟨_, _, rfl, e.mono f.sub, k, z⟩
  · cases e
theorem Rdv.int {v : V} {i : Int} (r : Rdv W F H v (.int i)) : v = .int i := by
  rcases r with r | ⟨a, vs, ds', rfl, e, h3, h4, h5, h6, h7⟩
  · cases r; rfl
  · cases e
theorem Rdv.bool {v : V} {i : Bool} (r : Rdv W F H v (.bool i)) : v = .bl i := by
  rcases r with r | ⟨a, vs, ds', rfl, e, h3, h4, h5, h6, h7⟩
  · cases r; rfl
  · cases e
theorem Rdv.none {v : V} (r : Rdv W F H v .none) : v = .non := by
  rcases r with r | ⟨a, vs, ds', rfl, e, h3, h4, h5, h6, h7⟩
  · cases r; rfl
  · cases e
theorem Rdv.str {v : V} {x : Str} (r : Rdv W F H v (.str x)) : v = .str x ∧ PyData.strOk x = true := by
  rcases r with r | ⟨a, vs, ds', rfl, e, h3, h4, h5, h6, h7⟩
  · cases r with | str _ k => exact ⟨rfl, k⟩
  · cases e
theorem Rdv.dict {v : V} {x : List (D × D)} (r : Rdv W F H v (.dict x)) : False := by
  rcases r with r | ⟨a, vs, ds', rfl, e, h3, h4, h5, h6, h7⟩
  · cases r
  · cases e
end

/-- what an operation gives: a new list (that may be owned), or any other data -/
def Res (W : Wd) (F H : Hp) (r : D) (Q : VK) : Prop :=
  match r with
  | .list xs => ∀ p vs, H p = none → Dats W.K F vs xs → xs.length ≤ 16777216 → Q (.ref p) (upd H p (.lst vs))
  | r => ∀ v F' H', Ext W F H F' H' → Dat W.K F' v r → Q v H'
section
variable {W : Wd} {F H : Hp} {Q : VK}
/-- wanted of frozen data alone -/
theorem Res.of {r : D} (f : FOk W F H) (g : Good W H) (h : ∀ v F' H', Ext W F H F' H' → Dat W.K F' v r → Q v H') : Res W F H r Q := by
  cases r with
  | list xs => exact fun p vs n d z => h _ _ _ (Ext.lst f g n) (.lst upd_same (d.mono (same_new (f.none n))) z)
  | none => exact h
  | bool _ => exact h
  | int _ => exact h
  | str _ => exact h
  | tuple _ => exact h
  | dict _ => exact h
theorem Res.int {i : Int} (f : FOk W F H) (g : Good W H) (h : Res W F H (.int i) Q) : Q (.int i) H := h _ _ _ (.refl f g) (.int i)
theorem Res.bool {i : Bool} (f : FOk W F H) (g : Good W H) (h : Res W F H (.bool i) Q) : Q (.bl i) H := h _ _ _ (.refl f g) (.bl i)
theorem Res.str {i : Str} (f : FOk W F H) (g : Good W H) (k : PyData.strOk i = true) (h : Res W F H (.str i) Q) : Q (.str i) H := h _ _ _ (.refl f g) (.str i k)
theorem Res.tup {p : Addr} {vs : List V} {ds : List D} (f : FOk W F H) (g : Good W H) (h : Res W F H (.tuple ds) Q) (n : H p = none) (d : Dats W.K F vs ds) (z : ds.length ≤ 16777216) : Q (.ref p) (upd H p (.tup vs)) :=
  h _ _ _ (Ext.tup f g n) (.tup (.inl upd_same) (d.mono (same_new (f.none n))) z)
theorem Res.dat {r : D} {v : V} (f : FOk W F H) (g : Good W H) (h : Res W F H r Q) (d : Dat W.K F v r) (nl : ∀ xs, r ≠ .list xs) : Q v H := by
  cases r with
  | list xs => exact absurd rfl (nl xs)
  | none => exact h _ _ _ (.refl f g) d
  | bool _ => exact h _ _ _ (.refl f g) d
  | int _ => exact h _ _ _ (.refl f g) d
  | str _ => exact h _ _ _ (.refl f g) d
  | tuple _ => exact h _ _ _ (.refl f g) d
  | dict _ => exact h _ _ _ (.refl f g) d
end
end Dl

set_option Elab.async false
set_option linter.all false
set_option maxRecDepth 100000
set_option maxHeartbeats 4000000
/-! the data layer, part 2: operations -/
namespace Dl
open PySem PySem.Spec PyProof.Rows L2

/-! ### more rules over values: tuple * 1, tuple * 0, sums and the like of tuples -/
theorem tuple_mul1 (l : Addr) (items : Array Value) (n : Nat) (sl : Array (Option Value)) (u : Tok) (dd : Option Addr) :
    Meets (Builtin.«tuple.__mul__» ⟨[.ref l, .int 1 u], []⟩) (fun _ R s => s.heap.get? l = some { cls := .type "tuple", dict := dd, data := .seq items n, slots := sl } ∧
      R (.ok (.ret (Value.ref l))) s) :=
  .of_wp fun prog w A R s h => by
    obtain ⟨hp, g, d, tk, os⟩ := s
    obtain ⟨hl, h⟩ := h
    have f1 := AutoSeq1.idx_int
    have c1 : (items.isEmpty || (1 : Int) == 1) = true := by simp
    wp_walk using wpAny_loadPart' hl
    repeat (first
      | (refine wpAny_ite_false (decide_eq_false (by decide)) ?_; wp_walk using wpAny_loadPart' hl)
      | (refine wpAny_ite_true (decide_eq_true c1) ?_; wp_walk using wpAny_loadPart' hl))
    all_goals first | exact ⟨_, rfl, h⟩ | exact h
theorem tuple_mul0 (l : Addr) (items : Array Value) (n : Nat) (sl : Array (Option Value)) (u : Tok) (dd : Option Addr) (hne : items.isEmpty = false) :
    Meets (Builtin.«tuple.__mul__» ⟨[.ref l, .int 0 u], []⟩) (fun _ R s => s.heap.get? l = some { cls := .type "tuple", dict := dd, data := .seq items n, slots := sl } ∧
      R (.ok (.ret (Value.ref s.heap.objs.size))) { s with heap := s.heap.push { cls := Value.type "tuple", data := Data.seq #[] }, toks := s.toks }) :=
  .of_wp fun prog w A R s h => by
    obtain ⟨hp, g, d, tk, os⟩ := s
    obtain ⟨hl, h⟩ := h
    have f1 := AutoSeq1.idx_int
    have c1 : (items.isEmpty || (0 : Int) == 1) = false := by rw [hne]; rfl
    have c2 : (decide ((0 : Int) ≤ 0) || items.isEmpty) = true := by simp
    wp_walk using wpAny_loadPart' hl
    repeat (first
      | (refine wpAny_ite_false (decide_eq_false (by decide)) ?_; wp_walk using wpAny_loadPart' hl)
      | (refine wpAny_ite_false (decide_eq_false (by rw [c1]; exact Bool.false_ne_true)) ?_; wp_walk using wpAny_loadPart' hl)
      | (refine wpAny_ite_true (decide_eq_true c2) ?_; wp_walk using wpAny_loadPart' hl))
    all_goals first | exact ⟨_, rfl, h⟩ | exact h
section
variable {X : Cx}
def rRepT0 (K : PySem.W.Frag) : R2 := fun x y H Q => ∃ l xs, x = .ref l ∧ y = .int 0 ∧ SqT K H l xs ∧ xs ≠ [] ∧ ∀ p, H p = none → Q (.ref p) (upd H p (.tup []))
theorem op_repT0 : OpR X (binaryOp .Mult) (rRepT0 X.K) := by
  intro pins s σ H x y v u Q I rx ry h
  obtain ⟨l, xs, rfl, rfl, hT, hne, q⟩ := h
  cases rx
  obtain ⟨t, rfl⟩ := ry
  obtain ⟨its, r, ⟨⟨cls, dd, data, sl⟩, ho, hc, n, hd⟩, hs⟩ := I.tuple hT
  simp only at hc hd
  subst hc hd
  have hle : its.length = xs.length := r.length.symm
  have hi : its.toArray.isEmpty = false := by
    cases its with
    | nil => exact absurd (List.eq_nil_of_length_eq_zero hle.symm) hne
    | cons a b => rfl
  refine wpAny_binaryOp_repeat_ref (T := "tuple") (U := "int") (by decide) ⟨_, ho, rfl⟩ (fun s' => typeIs_int s' 0 t) noFill_tuple_mul F.fills_int_mul F.slot_int_rmul repeat_tuple F.slot_int_index.lookup
    (call_meets F.slot_int_rmul (typeIs_int s 0 t) F.entry_int_rmul (F.args_int_rmul_2 _ _) (int_rmul_tuple 0 t l its.toArray n dd sl)
      ⟨ho, rfl, ⟨_, ho, rfl⟩, call_meets F.slot_tuple_mul ⟨_, ho, rfl⟩ F.entry_tuple_mul (F.args_tuple_mul_2 _ _) (tuple_mul0 l its.toArray n sl t dd hi) ⟨ho, ?_⟩⟩)
  refine ⟨.ref s.heap.objs.size, _, I.laid (t' := s.toks) (o := .tup []) (fun b ob q => Heap.get?_push_of_some _ q) (Nat.le_refl _) ?_, rfl, q _ (I.hok.fresh (Nat.le_refl _))⟩
  exact ⟨by decide, _, .nil, IsTup.new _ _⟩
end
section
variable {X : Cx}
def rRepT1 (K : PySem.W.Frag) : R2 := fun x y H Q => ∃ l xs, x = .ref l ∧ y = .int 1 ∧ SqT K H l xs ∧ Q (.ref l) H
theorem op_repT1 : OpR X (binaryOp .Mult) (rRepT1 X.K) := by
  intro pins s σ H x y v u Q I rx ry h
  obtain ⟨l, xs, rfl, rfl, hT, q⟩ := h
  cases rx
  obtain ⟨t, rfl⟩ := ry
  obtain ⟨its, r, ⟨⟨cls, dd, data, sl⟩, ho, hc, n, hd⟩, hs⟩ := I.tuple hT
  simp only at hc hd
  subst hc hd
  refine wpAny_binaryOp_repeat_ref (T := "tuple") (U := "int") (by decide) ⟨_, ho, rfl⟩ (fun s' => typeIs_int s' 1 t) noFill_tuple_mul F.fills_int_mul F.slot_int_rmul repeat_tuple F.slot_int_index.lookup
    (call_meets F.slot_int_rmul (typeIs_int s 1 t) F.entry_int_rmul (F.args_int_rmul_2 _ _) (int_rmul_tuple 1 t l its.toArray n dd sl)
      ⟨ho, rfl, ⟨_, ho, rfl⟩, call_meets F.slot_tuple_mul ⟨_, ho, rfl⟩ F.entry_tuple_mul (F.args_tuple_mul_2 _ _) (tuple_mul1 l its.toArray n sl t dd) ⟨ho, ?_⟩⟩)
  exact ⟨.ref l, H, I, rfl, q⟩
def rSumT (K : PySem.W.Frag) : List V → Hp → VK → Prop := fun vs H Q => ∃ (a : Addr) (ns : List Int), vs = [V.ref a] ∧ SqT K H a (ns.map V.int) ∧ Q (.int ns.sum) H
theorem cr_sumT (hc : X.calm = true) : CallR X (.builtin "sum") (rSumT X.K) := by
  intro pins s σ H vs us Q I r h
  obtain ⟨a, ns, rfl, hs, q⟩ := h
  have eu : us = [Value.ref a] := Vals.ref1 r
  subst eu
  obtain ⟨its, rv, ht, hz⟩ := I.tuple hs
  have hi := rv.ints
  obtain ⟨xs, e⟩ := hi.allInts.items
  have hn : numsOf (intItems xs).toList = ns := by rw [← e]; exact hi.numsOf
  rw [nums_intItems] at hn
  have ht' : s.heap.IsTuple a its.toArray := ht
  rw [e] at ht'
  refine PySem.W.ktm_sumG (I.ok.hd hc) ht' fun h' tk t' hk => ?_
  rw [preSum_eq, List.take_of_length_le (by simp), hn]
  exact ⟨.int ns.sum, H, I.kept (t' := tk) hk, ⟨_, rfl⟩, q⟩
/-! ### max, min of ints: a list or a tuple -/
def maxI (n : Int) (ns : List Int) : Int := ns.foldl (fun a y => if a < y then y else a) n
def minI (n : Int) (ns : List Int) : Int := ns.foldl (fun a y => if y < a then y else a) n
theorem maxD_ints (n : Int) (ns : List Int) : PySem.W.maxD (.int n) (ns.map PyData.int) = .int (maxI n ns) := by
  unfold PySem.W.maxD maxI
  induction ns generalizing n with
  | nil => rfl
  | cons y r ih =>
    simp only [List.map_cons, List.foldl_cons, PySem.W.dataLt_int, decide_eq_true_eq]
    by_cases h : n < y
    · simp only [if_pos h]; exact ih y
    · simp only [if_neg h]; exact ih n
theorem minD_ints (n : Int) (ns : List Int) : PySem.W.minD (.int n) (ns.map PyData.int) = .int (minI n ns) := by
  unfold PySem.W.minD minI
  induction ns generalizing n with
  | nil => rfl
  | cons y r ih =>
    simp only [List.map_cons, List.foldl_cons, PySem.W.dataLt_int, decide_eq_true_eq]
    by_cases h : y < n
    · simp only [if_pos h]; exact ih y
    · simp only [if_neg h]; exact ih n
theorem alike_ints (ns : List Int) : PySem.W.AlikeAll (ns.map PyData.int) := by
  refine ⟨fun x hx y hy => ?_, fun x hx => ?_⟩
  · obtain ⟨i, _, rfl⟩ := List.mem_map.mp hx
    obtain ⟨j, _, rfl⟩ := List.mem_map.mp hy
    simp [PySem.W.alike]
  · obtain ⟨i, _, rfl⟩ := List.mem_map.mp hx
    exact fun z => by cases z
theorem depth_ints (ns : List Int) : PyData.depthAll (ns.map PyData.int) = 0 := by
  induction ns with
  | nil => rfl
  | cons y r ih => simp [PyData.depthAll, PyData.depth, ih]
theorem dp_ints {K : PySem.W.Frag} {H : Hp} : ∀ ns : List Int, DpAll K H (ns.map V.int) (ns.map PyData.int)
  | [] => .nil
  | n :: ns => .cons (.int n) (dp_ints ns)
def rBestI (K : PySem.W.Frag) (best : Int → List Int → Int) : List V → Hp → VK → Prop := fun vs H Q => ∃ (a : Addr) (n : Int) (ns : List Int), vs = [V.ref a] ∧
  (SqL K H a ((n :: ns).map V.int) ∨ SqT K H a ((n :: ns).map V.int)) ∧ Q (.int (best n ns)) H
section
variable {X : Cx}
theorem cr_best (hc : X.calm = true) (hu : X.A.units + 64 < cLine) (mx : Bool) : CallR X (.builtin (if mx then "max" else "min")) (rBestI X.K (if mx then maxI else minI)) := by
  intro pins s σ H vs us Q I r h
  obtain ⟨a, n, ns, rfl, hs, q⟩ := h
  have eu : us = [Value.ref a] := Vals.ref1 r
  subst eu
  have hd : X.A.units + 1 + PyData.depthAll ((n :: ns).map PyData.int) < cLine := by rw [depth_ints]; omega
  have fin : ∀ (b : Int) (v : Value) h' tk bs, Reads h' v (.int b) bs → (∀ c o, s.heap.get? c = some o → h'.get? c = some o) → Q (.int b) H → EP X pins σ Q v { s with heap := h', toks := tk } := fun b v h' tk bs rd k q => by
    cases rd
    exact ⟨.int b, H, I.kept (t' := tk) k, ⟨_, rfl⟩, q⟩
  rcases hs with hs | hs
  · obtain ⟨its, rv, p, hz⟩ := I.list hs
    obtain ⟨as, rd⟩ := Dp.readsAll I ((n :: ns).map PyData.int) _ its (dp_ints _) rv
    have hl : s.heap.IsList a its.toArray := p.isList
    cases mx with
    | true =>
      refine PySem.W.max_list_data (x := .int n) (xs := ns.map PyData.int) (I.ok.hd hc) hl (by simpa using rd) (alike_ints (n :: ns)) hd fun i v h' tk bs _ rd' k => ?_
      rw [maxD_ints] at rd'
      exact fin _ v h' tk bs rd' k q
    | false =>
      refine PySem.W.min_list_data (x := .int n) (xs := ns.map PyData.int) (I.ok.hd hc) hl (by simpa using rd) (alike_ints (n :: ns)) hd fun i v h' tk bs _ rd' k => ?_
      rw [minD_ints] at rd'
      exact fin _ v h' tk bs rd' k q
  · obtain ⟨its, rv, p, hz⟩ := I.tuple hs
    obtain ⟨as, rd⟩ := Dp.readsAll I ((n :: ns).map PyData.int) _ its (dp_ints _) rv
    have hl : s.heap.IsTuple a its.toArray := p
    cases mx with
    | true =>
      refine PySem.W.max_tuple_data (x := .int n) (xs := ns.map PyData.int) (I.ok.hd hc) hl (by simpa using rd) (alike_ints (n :: ns)) hd fun i v h' tk bs _ rd' k => ?_
      rw [maxD_ints] at rd'
      exact fin _ v h' tk bs rd' k q
    | false =>
      refine PySem.W.min_tuple_data (x := .int n) (xs := ns.map PyData.int) (I.ok.hd hc) hl (by simpa using rd) (alike_ints (n :: ns)) hd fun i v h' tk bs _ rd' k => ?_
      rw [minD_ints] at rd'
      exact fin _ v h' tk bs rd' k q
end

/-! ### two-place operators over data -/
def Big : Nat := 2 ^ 4000
def mulOk (a b : Int) : Prop := a.natAbs < Big ∧ b.natAbs < Big
instance (a b : Int) : Decidable (mulOk a b) := inferInstanceAs (Decidable (_ ∧ _))
theorem Big.of64 {a : Int} (h : a.natAbs < 2 ^ 64) : a.natAbs < Big := Nat.lt_of_lt_of_le h (Nat.pow_le_pow_right (by decide) (by decide))
theorem mulOk.w {a b : Int} (h : mulOk a b) : CMulW a b := wide_mul (a := 4000) (b := 4000) h.1 h.2 (by decide) (by decide) (by decide)
def divOk (b : Int) : Prop := 0 < b ∧ b.natAbs < Big
instance (b : Int) : Decidable (divOk b) := inferInstanceAs (Decidable (_ ∧ _))
theorem divOk.w {a b : Int} (h : divOk b) : CDivW a b := wide_div (b := 4000) h.1 h.2 (by decide) (by decide)

/-- a text, k times -/
def strRep (a : Str) (k : Int) : Str := if k < 1 then Str.empty else if (k == 1 || a.length == 0) = true then a else ⟨(List.replicate k.toNat a.cps).foldl (· ++ ·) #[]⟩
theorem foldl_app (a : Array Nat) : ∀ (n : Nat) (b : Array Nat), ((List.replicate n a).foldl (· ++ ·) b).toList = b.toList ++ (List.replicate n a.toList).flatten
  | 0, b => by simp
  | n + 1, b => by
    rw [List.replicate_succ, List.foldl_cons, foldl_app a n, List.replicate_succ, List.flatten_cons, Array.toList_append, List.append_assoc]
theorem strRep_list {a : Str} {k : Int} : (strRep a k).cps.toList = (List.replicate k.toNat a.cps.toList).flatten := by
  unfold strRep
  by_cases h1 : k < 1
  · rw [if_pos h1, show k.toNat = 0 by omega]; rfl
  · rw [if_neg h1]
    by_cases h2 : (k == 1 || a.length == 0) = true
    · rw [if_pos h2]
      rw [Bool.or_eq_true, beq_iff_eq, beq_iff_eq] at h2
      rcases h2 with h2 | h2
      · subst h2
        show _ = (List.replicate 1 a.cps.toList).flatten
        simp
      · have e : a.cps.toList = [] := List.eq_nil_of_length_eq_zero (by rw [Array.length_toList]; exact h2)
        rw [e]; simp
    · rw [if_neg h2]
      show ((List.replicate k.toNat a.cps).foldl (· ++ ·) #[]).toList = _
      rw [foldl_app]; rfl
theorem strOk_iff {x : Str} : PyData.strOk x = true ↔ ∀ c ∈ x.cps.toList, c < 0x110000 := by
  unfold PyData.strOk
  rw [← Array.all_toList, List.all_eq_true]
  simp
theorem strRep_ok {a : Str} {k : Int} (h : PyData.strOk a = true) : PyData.strOk (strRep a k) = true := by
  rw [strOk_iff] at h ⊢
  intro c hc
  rw [strRep_list, List.mem_flatten] at hc
  obtain ⟨l, hl, hc⟩ := hc
  rw [(List.mem_replicate.mp hl).2] at hc
  exact h c hc
theorem strRep_len {a : Str} {k : Int} : (strRep a k).length = k.toNat * a.length := by
  have := congrArg List.length (strRep_list (a := a) (k := k))
  rw [List.length_flatten, List.map_replicate, List.sum_replicate_nat, Array.length_toList, Array.length_toList] at this
  exact this
theorem op_mulS {X : Cx} : OpR X (binaryOp .Mult) (fun x y H Q => ∃ (a : Str) (k : Int), x = .str a ∧ y = .int k ∧ a.length ≤ 1000 ∧ 0 ≤ k ∧ k ≤ 1000 ∧ Q (.str (strRep a k)) H) := by
  intro pins s σ H x y v u Q I rx ry h
  obtain ⟨a, k, rfl, rfl, h1, h2, h3, q⟩ := h
  obtain ⟨t, rfl⟩ := rx
  obtain ⟨t', rfl⟩ := ry
  have hm : a.length * k.toNat ≤ 1000 * 1000 := Nat.mul_le_mul h1 (by omega)
  refine PySem.P.mul_str (by simp; omega) (fun z1 _ z => ?_) (fun _ _ => ?_) ?_
  · have : (1000 : Int) ≤ (2 ^ 63 - 1) / k := by
      rw [Int.le_ediv_iff_mul_le (by omega)]; omega
    omega
  · unfold Builtin.Str.tooLong
    rw [decide_eq_false_iff_not, sizeLine_eq]; omega
  · have hl := strRep_len (a := a) (k := k)
    unfold strRep at q hl
    by_cases c1 : k < 1
    · rw [if_pos c1] at q ⊢
      exact ⟨by decide, .str _, H, I.tok _, ⟨_, rfl⟩, q⟩
    · rw [if_neg c1] at q hl ⊢
      by_cases c2 : (k == 1 || a.length == 0) = true
      · rw [if_pos c2] at q ⊢
        exact ⟨.str a, H, I, ⟨t, rfl⟩, q⟩
      · rw [if_neg c2] at q hl ⊢
        refine ⟨?_, .str _, H, I.tok _, ⟨_, rfl⟩, q⟩
        rw [hl, sizeLine_eq, Nat.mul_comm]; omega
def binSem : Operator → D → D → Option D
  | .Add, .int a, .int b => some (.int (a + b))
  | .Add, .str a, .str b => if a.length + b.length ≤ 16777216 then some (.str (a ++ b)) else none
  | .Add, .tuple a, .tuple b => if a.length + b.length ≤ 16777216 then some (.tuple (a ++ b)) else none
  | .Add, .list a, .list b => if a.length + b.length ≤ 16777216 then some (.list (a ++ b)) else none
  | .Sub, .int a, .int b => some (.int (a - b))
  | .Mult, .int a, .int b => if mulOk a b then some (.int (a * b)) else none
  | .Mult, .tuple a, .int k => if a ≠ [] ∧ a.length ≤ 1000 ∧ 0 ≤ k ∧ k ≤ 1000 then some (.tuple (List.replicate k.toNat a).flatten) else none
  | .Mult, .list a, .int k => if a.length ≤ 1000 ∧ 0 ≤ k ∧ k ≤ 10000 then some (.list (List.replicate k.toNat a).flatten) else none
  | .Mult, .str a, .int k => if a.length ≤ 1000 ∧ 0 ≤ k ∧ k ≤ 1000 then some (.str (strRep a k)) else none
  | .FloorDiv, .int a, .int b => if divOk b then some (.int (a / b)) else none
  | .Mod, .int a, .int b => if 0 < b then some (.int (a % b)) else none
  | .Pow, .int a, .int b => if a.natAbs < 2 ^ 64 ∧ 0 ≤ b ∧ b ≤ 1000000 then some (.int (a ^ b.toNat)) else none
  | .LShift, .int a, .int b => if a.natAbs < 2 ^ 64 ∧ 0 ≤ b ∧ b ≤ 1000000 then some (.int (a * 2 ^ b.toNat)) else none
  | .RShift, .int a, .int b => if 0 ≤ b then some (.int (a / 2 ^ b.toNat)) else none
  | .BitAnd, .int a, .int b => some (.int (Builtin.bitAnd a b))
  | .BitOr, .int a, .int b => some (.int (Builtin.bitOr a b))
  | .BitXor, .int a, .int b => some (.int (Builtin.bitXor a b))
  | _, _, _ => none

/-- an operator's reading over data -/
def rD2 (W : Wd) (sem : D → D → Option D) : R2 := fun x y H Q => ∃ F d e r, FOk W F H ∧ Good W H ∧ Rdv W F H x d ∧ Rdv W F H y e ∧ sem d e = some r ∧ Res W F H r Q

theorem strOk_app {a b : Str} (ha : PyData.strOk a = true) (hb : PyData.strOk b = true) : PyData.strOk (a ++ b) = true := by
  have e : (a ++ b).cps = a.cps ++ b.cps := rfl
  unfold PyData.strOk at *
  rw [e, Array.all_append, ha, hb]; rfl
section
variable {X : Cx} {W : Wd}
theorem OpR.imp {f : Value → Value → Sem Value} {r r' : R2} (h : OpR X f r) (i : ∀ x y H Q, r' x y H Q → r x y H Q) : OpR X f r' := fun pins s σ H x y v u Q I rx ry q => h pins s σ H x y v u Q I rx ry (i _ _ _ _ q)
theorem Rdv.datT {F H : Hp} {v : V} {ds : List D} (r : Rdv W F H v (.tuple ds)) : Dat W.K F v (.tuple ds) := by
  rcases r with r | ⟨a, vs, ds', rfl, e, h3, h4, h5, h6, h7⟩
  · exact r
  · cases e
theorem Dats.nil_of {K : PySem.W.Frag} {F : Hp} {vs : List V} {ds : List D} (h : Dats K F vs ds) : vs = [] ↔ ds = [] := by
  cases h with
  | nil => simp
  | cons a b => simp
theorem op_bin (hK : X.K = W.K) (op : Operator) : OpR X (binaryOp op) (rD2 W (binSem op)) := by
  intro pins s σ H x y v u Q I rx ry h
  obtain ⟨F, d, e, r, f, g, rd, re, hs, q⟩ := h
  unfold binSem at hs
  split at hs
  · cases hs; cases rd.int; cases re.int; exact op_add pins s σ H _ _ v u Q I rx ry ⟨_, _, rfl, rfl, q.int f g⟩
  · split at hs <;> cases hs
    rename_i hl
    obtain ⟨rfl, k1⟩ := rd.str
    obtain ⟨rfl, k2⟩ := re.str
    exact op_add_str pins s σ H _ _ v u Q I rx ry ⟨_, _, rfl, rfl, by rw [sizeLine_eq]; exact hl, q.str f g (strOk_app k1 k2)⟩
  · split at hs <;> cases hs
    rename_i hl
    obtain ⟨a, vs, rfl, t1, d1, z1⟩ := rd.tup f
    obtain ⟨b, ws, rfl, t2, d2, z2⟩ := re.tup f
    refine op_catA pins s σ H _ _ v u Q I rx ry ⟨a, b, vs, ws, rfl, rfl, hK ▸ t1.seq, hK ▸ t2.seq, ?_, fun z => ?_, fun z1 z2 => ?_, fun _ _ p n => q.tup f g n (d1.append d2) (by rw [List.length_append]; exact hl)⟩
    · rw [d1.length, d2.length, sizeLine_eq]; exact hl
    · have := d1.nil_of.mp z
      subst this
      exact q _ _ _ (.refl f g) re.datT
    · have := d2.nil_of.mp z2
      subst this
      rw [List.append_nil] at q
      exact q _ _ _ (.refl f g) rd.datT
  · split at hs <;> cases hs
    rename_i hl
    obtain ⟨a, vs, rfl, t1, d1, z1⟩ := rd.lst f
    obtain ⟨b, ws, rfl, t2, d2, z2⟩ := re.lst f
    exact op_cat pins s σ H _ _ v u Q I rx ry ⟨a, b, vs, ws, rfl, rfl, t1, t2, by rw [d1.length, d2.length, sizeLine_eq]; exact hl, fun p n => q p _ n (d1.append d2) (by rw [List.length_append]; exact hl)⟩
  · cases hs; cases rd.int; cases re.int; exact op_sub pins s σ H _ _ v u Q I rx ry ⟨_, _, rfl, rfl, q.int f g⟩
  · split at hs <;> cases hs
    rename_i hl
    cases rd.int; cases re.int; exact op_mulW pins s σ H _ _ v u Q I rx ry ⟨_, _, rfl, rfl, hl.w, q.int f g⟩
  · split at hs <;> cases hs
    rename_i hl
    obtain ⟨a, vs, rfl, t1, d1, z1⟩ := rd.tup f
    cases re.int
    rename_i k
    by_cases hk : k = 1
    · subst hk
      refine op_repT1 pins s σ H _ _ v u Q I rx ry ⟨a, vs, rfl, rfl, hK ▸ t1.seq, ?_⟩
      rw [show ∀ l : List D, (List.replicate (1 : Int).toNat l).flatten = l from fun l => List.append_nil l] at q
      exact q _ _ _ (.refl f g) rd.datT
    · by_cases hk0 : k = 0
      · subst hk0
        exact op_repT0 pins s σ H _ _ v u Q I rx ry ⟨a, vs, rfl, rfl, hK ▸ t1.seq, fun z => hl.1 (d1.nil_of.mp z), fun p n => q.tup f g n .nil (Nat.zero_le _)⟩
      exact op_repT pins s σ H _ _ v u Q I rx ry ⟨a, k, vs, rfl, rfl, hK ▸ t1.seq, fun z => hl.1 (d1.nil_of.mp z), by omega, hl.2.2.2, by rw [d1.length]; exact hl.2.1, fun p n => q.tup f g n (d1.flat _) (by rw [lm_len_rep_flat]; exact Nat.le_trans (Nat.mul_le_mul (show _ ≤ 1000 by omega) hl.2.1) (by decide))⟩
  · split at hs <;> cases hs
    rename_i hl
    obtain ⟨a, vs, rfl, t1, d1, z1⟩ := rd.lst f
    cases re.int
    refine op_rep pins s σ H _ _ v u Q I rx ry ⟨a, _, vs, rfl, rfl, t1, by omega, by omega, ?_, fun p n => q p _ n (d1.flat _) (by rw [lm_len_rep_flat]; exact Nat.le_trans (Nat.mul_le_mul (show _ ≤ 10000 by omega) hl.1) (by decide))⟩
    rw [d1.length, sizeLine_eq]
    exact Nat.le_trans (Nat.mul_le_mul hl.1 (show _ ≤ 10000 by omega)) (by decide)
  · split at hs <;> cases hs
    rename_i hl
    obtain ⟨rfl, k1⟩ := rd.str
    cases re.int
    exact op_mulS pins s σ H _ _ v u Q I rx ry ⟨_, _, rfl, rfl, hl.1, hl.2.1, hl.2.2, q.str f g (strRep_ok k1)⟩
  · split at hs <;> cases hs
    rename_i hl
    cases rd.int; cases re.int; exact op_fdivW pins s σ H _ _ v u Q I rx ry ⟨_, _, rfl, rfl, hl.w (a := 0), q.int f g⟩
  · split at hs <;> cases hs
    rename_i hl
    cases rd.int; cases re.int; exact op_mod pins s σ H _ _ v u Q I rx ry ⟨_, _, rfl, rfl, hl, q.int f g⟩
  · split at hs <;> cases hs
    rename_i hl
    cases rd.int; cases re.int; exact op_pow pins s σ H _ _ v u Q I rx ry ⟨_, _, rfl, rfl, ⟨hl.2.1, hl.2.2, hl.1⟩, q.int f g⟩
  · split at hs <;> cases hs
    rename_i hl
    cases rd.int; cases re.int; exact op_shl pins s σ H _ _ v u Q I rx ry ⟨_, _, rfl, rfl, ⟨hl.2.1, hl.2.2, hl.1⟩, q.int f g⟩
  · split at hs <;> cases hs
    rename_i hl
    cases rd.int; cases re.int; exact op_shr pins s σ H _ _ v u Q I rx ry ⟨_, _, rfl, rfl, hl, q.int f g⟩
  · cases hs; cases rd.int; cases re.int; exact op_and pins s σ H _ _ v u Q I rx ry ⟨_, _, rfl, rfl, q.int f g⟩
  · cases hs; cases rd.int; cases re.int; exact op_or pins s σ H _ _ v u Q I rx ry ⟨_, _, rfl, rfl, q.int f g⟩
  · cases hs; cases rd.int; cases re.int; exact op_xor pins s σ H _ _ v u Q I rx ry ⟨_, _, rfl, rfl, q.int f g⟩
  · cases hs
end

/-! ### comparisons -/
def cmpInt : CmpOp → Int → Int → Option Bool
  | .Lt, a, b => some (decide (a < b))
  | .LtE, a, b => some (decide (a ≤ b))
  | .Gt, a, b => some (decide (b < a))
  | .GtE, a, b => some (decide (b ≤ a))
  | _, _, _ => none
def flatD : D → Bool
  | .none | .bool _ | .int _ | .str _ => true
  | _ => false
def tupLt (op : CmpOp) (as bs : List D) : Option Bool := if op = .Lt then (intsOf as).bind fun ns => (intsOf bs).bind fun ms => some (HT.lexLt ns ms) else none
theorem tupLt_eq {op : CmpOp} {as bs : List D} {b : Bool} (h : tupLt op as bs = some b) : ∃ ns ms, op = .Lt ∧ as = ns.map .int ∧ bs = ms.map .int ∧ b = HT.lexLt ns ms := by
  unfold tupLt at h
  split at h
  · obtain ⟨ns, h1, h⟩ := Option.bind_eq_some_iff.mp h
    obtain ⟨ms, h2, h⟩ := Option.bind_eq_some_iff.mp h
    exact ⟨ns, ms, by assumption, intsOf_eq h1, intsOf_eq h2, (Option.some.inj h).symm⟩
  · cases h
def isNone : D → Bool
  | .none => true
  | _ => false
/-- the one sign of a text -/
def oneCh (x : Str) : Option Nat := match x.cps.toList with
  | [c] => some c
  | _ => none
theorem oneCh_eq {x : Str} {c : Nat} (h : oneCh x = some c) : x = ⟨#[c]⟩ := by
  unfold oneCh at h
  split at h
  · rename_i c' e
    cases h
    obtain ⟨⟨l⟩⟩ := x
    have e2 : l = [c] := e
    rw [e2]
  · cases h
def inSem (d : D) : D → Option Bool
  | .tuple es => if min (PyData.depthAll es) d.depth ≤ 60 then some (es.any fun z => PyData.eqv z d) else none
  | .list es => if min (PyData.depthAll es) d.depth ≤ 60 then some (es.any fun z => PyData.eqv z d) else none
  | .str z => match d with
    | .str x => (oneCh x).map fun c => decide (c ∈ z.cps.toList)
    | _ => none
  | _ => none
def cmpSem (op : CmpOp) (d e : D) : Option Bool :=
  match op with
  | .Eq => if min d.depth e.depth ≤ 60 then some (PyData.eqv d e) else none
  | .NotEq => if min d.depth e.depth ≤ 60 then some (!PyData.eqv d e) else none
  | .Is => match d, e with
    | .bool a, .bool b => some (decide (a = b))
    | d, .none => some (isNone d)
    | _, _ => none
  | .IsNot => match d, e with
    | .bool a, .bool b => some (!decide (a = b))
    | d, .none => some (!isNone d)
    | _, _ => none
  | .In => inSem d e
  | .NotIn => (inSem d e).map (!·)
  | op => match d, e with
    | .int a, .int b => cmpInt op a b
    | .tuple as, .tuple bs => tupLt op as bs
    | _, _ => none
def cmpSemD (op : CmpOp) (d e : D) : Option D := (cmpSem op d e).map .bool
section
variable {X : Cx} {W : Wd}
theorem op_eqM (hu : X.A.units + 64 < cLine) {F H : Hp} {x y : V} {d e : D} (f : FOk W F H) (rd : Rdv W F H x d) (re : Rdv W F H y e) (hd : min d.depth e.depth ≤ 60) (hK : X.K = W.K)
    {pins : List (Addr × Obj)} {s : Shared} {σ : L2.St} {v u : Value} {Q : VK} (I : Inv X pins σ H s) (rx : RelV x v) (ry : RelV y u) :
    (Q (.bl (PyData.eqv d e)) H → wpAny (model X.prog X.w) X.A (compareOp .Eq v u) (EP X pins σ Q) X.xe s) ∧
    (Q (.bl (!PyData.eqv d e)) H → wpAny (model X.prog X.w) X.A (compareOp .NotEq v u) (EP X pins σ Q) X.xe s) := by
  obtain ⟨as, r1⟩ := Dp.reads I d x v (hK ▸ rd.dp f) rx
  obtain ⟨bs, r2⟩ := Dp.reads I e y u (hK ▸ re.dp f) ry
  refine ⟨fun q => ?_, fun q => ?_⟩
  · exact SeqAt.compareEq_reads r1 r2 rd.canLay re.canLay (by omega) ⟨.bl _, H, I, rfl, q⟩
  · exact SeqAt.compareNe_reads r1 r2 rd.canLay re.canLay (by omega) ⟨.bl _, H, I, rfl, q⟩
theorem flatD_V {F H : Hp} {v : V} {d : D} (r : Rdv W F H v d) (h : flatD d = true) : flatV v = true := by
  cases d with
  | none => cases r.none; rfl
  | bool b => cases r.bool; rfl
  | int b => cases r.int; rfl
  | str b => cases r.str.1; rfl
  | list _ => cases h
  | tuple _ => cases h
  | dict _ => cases h
theorem flats_V {F : Hp} : ∀ {ds : List D} {vs : List V}, Dats W.K F vs ds → ds.all flatD = true → vs.all flatV = true
  | [], vs, h, _ => by cases h; rfl
  | d :: ds, vs, h, e => by
    cases h with
    | cons a b =>
      simp only [List.all_cons, Bool.and_eq_true] at e ⊢
      exact ⟨flatD_V (W := W) (F := F) (H := F) (.inl a) e.1, flats_V b e.2⟩
theorem eqv_V {F H : Hp} {v w : V} {d e : D} (r : Rdv W F H v d) (q : Rdv W F H w e) (h : flatD d = true) (k : flatD e = true) : eqV v w = PyData.eqv d e := by
  cases d <;> first | (cases h; done) | skip
  all_goals cases e <;> first | (cases k; done) | skip
  all_goals first
    | (cases r.none; skip) | (cases r.bool; skip) | (cases r.int; skip) | (cases r.str.1; skip)
  all_goals first
    | (cases q.none; skip) | (cases q.bool; skip) | (cases q.int; skip) | (cases q.str.1; skip)
  all_goals simp [eqV, PyData.eqv]
end
theorem anys_V {F H : Hp} {v : V} {d : D} (r : Rdv W F H v d) (h : flatD d = true) : ∀ {ds : List D} {vs : List V}, Dats W.K F vs ds → ds.all flatD = true → inV v vs = ds.any fun z => PyData.eqv z d
  | [], vs, hd, _ => by cases hd; rfl
  | e :: ds, vs, hd, k => by
    cases hd with
    | cons a b =>
      simp only [List.all_cons, Bool.and_eq_true] at k
      have ih := anys_V r h b k.2
      unfold inV at ih ⊢
      rw [List.any_cons, List.any_cons, ih, eqv_V (W := W) (F := F) (H := H) (.inl a) r k.1 h]
theorem op_inM (hu : X.A.units + 64 < cLine) {F H : Hp} {x y : V} {d e : D} {b : Bool} (f : FOk W F H) (rd : Rdv W F H x d) (re : Rdv W F H y e) (hs : inSem d e = some b) (hK : X.K = W.K)
    {pins : List (Addr × Obj)} {s : Shared} {σ : L2.St} {v u : Value} {Q : VK} (I : Inv X pins σ H s) (rx : RelV x v) (ry : RelV y u) :
    (Q (.bl b) H → wpAny (model X.prog X.w) X.A (compareOp .In v u) (EP X pins σ Q) X.xe s) ∧
    (Q (.bl (!b)) H → wpAny (model X.prog X.w) X.A (compareOp .NotIn v u) (EP X pins σ Q) X.xe s) := by
  obtain ⟨as, r1⟩ := Dp.reads I d x v (hK ▸ rd.dp f) rx
  obtain ⟨bs, r2⟩ := Dp.reads I e y u (hK ▸ re.dp f) ry
  have p1 := PyData.plain_of_canLay0 d rd.canLay
  have p2 := PyData.plain_of_canLay0 e re.canLay
  unfold inSem at hs
  split at hs
  · split at hs <;> cases hs
    rename_i hm
    have p2 : PyData.plainAll _ = true := p2
    exact ⟨fun q => SeqAt.in_tuple_data r2 r1 p2 p1 (by omega) ⟨.bl _, H, I, rfl, q⟩, fun q => SeqAt.notIn_tuple_data r2 r1 p2 p1 (by omega) ⟨.bl _, H, I, rfl, q⟩⟩
  · split at hs <;> cases hs
    rename_i hm
    have p2 : PyData.plainAll _ = true := p2
    exact ⟨fun q => SeqAt.in_list_data r2 r1 p2 p1 (by omega) ⟨.bl _, H, I, rfl, q⟩, fun q => SeqAt.notIn_list_data r2 r1 p2 p1 (by omega) ⟨.bl _, H, I, rfl, q⟩⟩
  · split at hs
    · obtain ⟨c, h1, rfl⟩ := Option.map_eq_some_iff.mp hs
      obtain ⟨rfl, _⟩ := rd.str
      obtain ⟨rfl, _⟩ := re.str
      have e1 := oneCh_eq h1
      subst e1
      exact ⟨fun q => op_in_sign pins s σ H _ _ v u Q I rx ry ⟨c, _, rfl, rfl, q⟩, fun q => op_notIn_sign pins s σ H _ _ v u Q I rx ry ⟨c, _, rfl, rfl, q⟩⟩
    · cases hs
  · cases hs
theorem isNone_V {F H : Hp} {v : V} {d : D} (r : Rdv W F H v d) : decide (v = .non) = isNone d := by
  rcases r with r | ⟨a, vs, ds, rfl, rfl, _⟩
  · cases r <;> rfl
  · rfl
theorem op_cmp (hK : X.K = W.K) (hu : X.A.units + 64 < cLine) (op : CmpOp) : OpR X (compareOp op) (rD2 W (cmpSemD op)) := by
  intro pins s σ H x y v u Q I rx ry h
  obtain ⟨F, d, e, r, f, g, rd, re, hs, q⟩ := h
  unfold cmpSemD at hs
  obtain ⟨b, hs1, e1⟩ := Option.map_eq_some_iff.mp hs
  clear hs
  have hs := hs1; clear hs1
  subst e1
  replace q : Q (.bl b) H := q.bool f g
  unfold cmpSem at hs
  split at hs
  · split at hs <;> cases hs
    exact (op_eqM hu f rd re (by assumption) hK I rx ry).1 q
  · split at hs <;> cases hs
    exact (op_eqM hu f rd re (by assumption) hK I rx ry).2 q
  · split at hs
    · cases hs; cases rd.bool; cases re.bool; exact op_isBl pins s σ H _ _ v u Q I rx ry ⟨_, _, rfl, rfl, q⟩
    · cases hs; cases re.none
      refine op_isN pins s σ H _ _ v u Q I rx ry ⟨rfl, ?_⟩
      rw [isNone_V rd]
      exact q
    · cases hs
  · split at hs
    · cases hs; cases rd.bool; cases re.bool; exact op_notBl pins s σ H _ _ v u Q I rx ry ⟨_, _, rfl, rfl, q⟩
    · cases hs; cases re.none
      refine op_notN pins s σ H _ _ v u Q I rx ry ⟨rfl, ?_⟩
      rw [isNone_V rd]
      exact q
    · cases hs
  · exact (op_inM hu f rd re hs hK I rx ry).1 q
  · obtain ⟨b', hb1, hb2⟩ := Option.map_eq_some_iff.mp hs
    subst hb2
    exact (op_inM hu f rd re hb1 hK I rx ry).2 q
  · split at hs
    · cases rd.int; cases re.int
      unfold cmpInt at hs
      split at hs
      · cases hs; exact op_lt pins s σ H _ _ v u Q I rx ry ⟨_, _, rfl, rfl, q⟩
      · cases hs; exact op_le pins s σ H _ _ v u Q I rx ry ⟨_, _, rfl, rfl, q⟩
      · cases hs; exact op_gt pins s σ H _ _ v u Q I rx ry ⟨_, _, rfl, rfl, q⟩
      · cases hs; exact op_ge pins s σ H _ _ v u Q I rx ry ⟨_, _, rfl, rfl, q⟩
      · cases hs
    · obtain ⟨ns, ms, rfl, rfl, rfl, rfl⟩ := tupLt_eq hs
      obtain ⟨a, vs, rfl, t1, d1, z1⟩ := rd.tup f
      obtain ⟨b, ws, rfl, t2, d2, z2⟩ := re.tup f
      cases d1.ints
      cases d2.ints
      exact op_ltT (by omega) pins s σ H _ _ v u Q I rx ry ⟨a, b, _, _, rfl, rfl, hK ▸ t1.seq, hK ▸ t2.seq, q⟩
    · cases hs
end

/-! ### subscripts, slices -/
def ixSem : D → D → Option D
  | .tuple es, .int i => atI es i
  | .list es, .int i => atI es i
  | .str z, .int i => if z.length ≤ 16777216 ∧ PyData.strOk z = true then (atI z.cps.toList i).map fun c => .str ⟨#[c]⟩ else none
  | _, _ => none
def cutD (xs : List D) (lo hi : Option Int) : List D := (xs.drop (HT.sIx xs.length 0 lo)).take (HT.sIx xs.length xs.length hi - HT.sIx xs.length 0 lo)
def slSem (lo hi : Option Int) : D → Option D
  | .tuple es => some (.tuple (cutD es lo hi))
  | .list es => some (.list (cutD es lo hi))
  | .str z => if z.length ≤ 16777216 ∧ PyData.strOk z = true then some (.str (cutS z lo hi)) else none
  | _ => none
/-- what stands at a place is data even where the list is owned -/
def rIxD (W : Wd) : R2 := fun x y H Q => ∃ F d e r, FOk W F H ∧ Good W H ∧ Rdv W F H x d ∧ Rdv W F H y e ∧ ixSem d e = some r ∧ ∀ v F' H', Ext W F H F' H' → Dat W.K F' v r → Q v H'
section
variable {X : Cx} {W : Wd}
theorem atI_dats {K : PySem.W.Frag} {F : Hp} {vs : List V} {ds : List D} {i : Int} {d : D} (h : Dats K F vs ds) (e : atI ds i = some d) : ∃ v, atI vs i = some v ∧ Dat K F v d := by
  unfold atI at e ⊢
  rw [h.length]
  cases hk : ixN ds.length i with
  | none => rw [hk] at e; cases e
  | some j =>
    rw [hk] at e
    exact h.get e
theorem ix_D (hK : X.K = W.K) : IxR X (rIxD W) := by
  intro value slice pins s σ H x y v u Q I rx ry h hsub
  obtain ⟨F, d, e, r, f, g, rd, re, hs, q⟩ := h
  unfold ixSem at hs
  split at hs
  · obtain ⟨a, vs, rfl, t1, d1, z1⟩ := rd.tup f
    cases re.int
    obtain ⟨w, e1, e2⟩ := atI_dats d1 hs
    exact ix_tup value slice pins s σ H _ _ v u Q I rx ry ⟨a, vs, _, w, rfl, rfl, hK ▸ t1.seq, e1, q _ _ _ (.refl f g) e2⟩ hsub
  · obtain ⟨a, vs, rfl, t1, d1, z1⟩ := rd.lst f
    cases re.int
    obtain ⟨w, e1, e2⟩ := atI_dats d1 hs
    exact ix_list value slice pins s σ H _ _ v u Q I rx ry ⟨a, vs, _, w, rfl, rfl, .inl (.inl t1), e1, q _ _ _ (.refl f g) e2⟩ hsub
  · split at hs
    · rename_i hl
      obtain ⟨c, e1, rfl⟩ := Option.map_eq_some_iff.mp hs
      obtain ⟨rfl, _⟩ := rd.str
      cases re.int
      refine ix_str value slice pins s σ H _ _ v u Q I rx ry ⟨_, _, c, rfl, rfl, by rw [sizeLine_eq]; exact hl.1, e1, q _ _ _ (.refl f g) (.str _ ?_)⟩ hsub
      obtain ⟨j, _, e2, _⟩ := atI_get e1
      have hm := List.mem_of_getElem? e2
      have hok := hl.2
      unfold PyData.strOk at hok ⊢
      rw [Array.all_eq_true_iff_forall_mem] at hok
      have := hok c (Array.mem_toList_iff.mp hm)
      simpa using this
    · cases hs
  · cases hs
theorem strOk_cut {z : Str} {lo hi : Option Int} (h : PyData.strOk z = true) : PyData.strOk (cutS z lo hi) = true := by
  rw [strOk_iff] at h ⊢
  intro c hc
  refine h c ?_
  unfold cutS at hc
  exact List.mem_of_mem_drop (List.mem_of_mem_take (by simpa using hc))
theorem cut_le (ds : List D) (lo hi : Option Int) : (cutD ds lo hi).length ≤ ds.length := by
  unfold cutD
  rw [List.length_take, List.length_drop]
  omega
theorem cut_dats {K : PySem.W.Frag} {F : Hp} {vs : List V} {ds : List D} (h : Dats K F vs ds) (lo hi : Option Int) : Dats K F (cutV vs lo hi) (cutD ds lo hi) := by
  unfold cutV cutD
  rw [h.length]
  exact (h.drop _).take _
def rSlD (W : Wd) : V → Option Int → Option Int → Hp → VK → Prop := fun x lo hi H Q => ∃ F d r, FOk W F H ∧ Good W H ∧ Rdv W F H x d ∧ slSem lo hi d = some r ∧ Res W F H r Q
theorem sl_D (hK : X.K = W.K) : SlR X (rSlD W) := by
  intro pins s σ H x v vl vu lo hi sl Q I rx hsl pl pu h
  obtain ⟨F, d, r, f, g, rd, hs, q⟩ := h
  unfold slSem at hs
  split at hs
  · cases hs
    obtain ⟨a, vs, rfl, t1, d1, z1⟩ := rd.tup f
    refine sl_tupA pins s σ H _ v vl vu lo hi sl Q I rx hsl pl pu ⟨a, vs, rfl, hK ▸ t1.seq, fun z => ?_, fun _ p n => q.tup f g n (cut_dats d1 lo hi) (Nat.le_trans (cut_le _ _ _) z1)⟩
    have e : ∀ ds : List D, ds.length = vs.length → cutD ds lo hi = ds := fun ds hl => by
      unfold cutD
      rw [hl, z.1, z.2]
      simp [← hl]
    rw [e _ d1.length.symm] at q
    exact q _ _ _ (.refl f g) rd.datT
  · cases hs
    obtain ⟨a, vs, rfl, t1, d1, z1⟩ := rd.lst f
    exact sl_list pins s σ H _ v vl vu lo hi sl Q I rx hsl pl pu ⟨a, vs, rfl, .inl (.inl t1), fun p n => q p _ n (cut_dats d1 lo hi) (Nat.le_trans (cut_le _ _ _) z1)⟩
  · split at hs <;> cases hs
    rename_i hl
    obtain ⟨rfl, _⟩ := rd.str
    exact sl_str pins s σ H _ v vl vu lo hi sl Q I rx hsl pl pu ⟨_, rfl, by rw [sizeLine_eq]; exact hl.1, q.str f g (strOk_cut hl.2)⟩
  · cases hs
end
end Dl

set_option Elab.async false
set_option linter.all false
set_option maxRecDepth 100000
set_option maxHeartbeats 4000000
/-! the data layer, part 3: built-in functions -/
namespace Dl
open PySem PySem.Spec PyProof.Rows L2

inductive Blt | len | all | any | sum | max | min | abs | int | tuple | list | sorted | str
  deriving DecidableEq
def Blt.name : Blt → Str
  | .len => "len" | .all => "all" | .any => "any" | .sum => "sum" | .max => "max" | .min => "min" | .abs => "abs" | .int => "int" | .tuple => "tuple" | .list => "list" | .sorted => "sorted" | .str => "str"
def Blt.isTy : Blt → Bool
  | .int | .tuple | .list | .str => true
  | _ => false
def Blt.id : Blt → String
  | .len => "len" | .all => "all" | .any => "any" | .sum => "sum" | .max => "max" | .min => "min" | .abs => "abs" | .int => "int" | .tuple => "tuple" | .list => "list" | .sorted => "sorted" | .str => "str"
def Blt.val (f : Blt) : Value := if f.isTy then .type f.id else .builtin f.id

/-- ints in order -/
def insI (n : Int) : List Int → List Int
  | [] => [n]
  | m :: r => if n ≤ m then n :: m :: r else m :: insI n r
def sortI : List Int → List Int
  | [] => []
  | n :: r => insI n (sortI r)
theorem insI_perm (n : Int) : ∀ l, (insI n l).Perm (n :: l)
  | [] => .refl _
  | m :: r => by
    unfold insI
    split
    · exact .refl _
    · exact (List.Perm.cons m (insI_perm n r)).trans (List.Perm.swap n m r)
theorem sortI_perm : ∀ l, (sortI l).Perm l
  | [] => .refl _
  | n :: r => (insI_perm n _).trans ((sortI_perm r).cons n)
theorem insI_sorted (n : Int) : ∀ l, l.Pairwise (· ≤ ·) → (insI n l).Pairwise (· ≤ ·)
  | [], _ => by simp [insI]
  | m :: r, h => by
    unfold insI
    have h' := List.pairwise_cons.mp h
    split
    · rename_i hn
      refine List.pairwise_cons.mpr ⟨fun x hx => ?_, h⟩
      rcases List.mem_cons.mp hx with rfl | hx
      · exact hn
      · exact Int.le_trans hn (h'.1 x hx)
    · rename_i hn
      refine List.pairwise_cons.mpr ⟨fun x hx => ?_, insI_sorted n r h'.2⟩
      rcases List.mem_cons.mp ((insI_perm n r).mem_iff.mp hx) with rfl | hx
      · omega
      · exact h'.1 x hx
theorem sortI_sorted : ∀ l, (sortI l).Pairwise (· ≤ ·)
  | [] => .nil
  | n :: r => insI_sorted n _ (sortI_sorted r)
theorem sorted_unique : ∀ {l l' : List Int}, l.Pairwise (· ≤ ·) → l'.Pairwise (· ≤ ·) → l.Perm l' → l = l'
  | [], l', _, _, p => (List.Perm.nil_eq p)
  | n :: r, [], _, _, p => absurd p.length_eq (by simp)
  | n :: r, m :: r', h, h', p => by
    have a := List.pairwise_cons.mp h
    have b := List.pairwise_cons.mp h'
    have e : n = m := by
      have h1 : n ∈ m :: r' := p.mem_iff.mp List.mem_cons_self
      have h2 : m ∈ n :: r := p.mem_iff.mpr List.mem_cons_self
      rcases List.mem_cons.mp h1 with e | h1
      · exact e
      · rcases List.mem_cons.mp h2 with e | h2
        · exact e.symm
        · have := b.1 n h1; have := a.1 m h2; omega
    subst e
    rw [sorted_unique a.2 b.2 (List.Perm.cons_inv p)]

/-! ### tuples of ints in order -/
def lexLe : List Int → List Int → Bool
  | [], _ => true
  | _ :: _, [] => false
  | x :: r, y :: s => decide (x < y) || (decide (x = y) && lexLe r s)
def insT (t : List Int) : List (List Int) → List (List Int)
  | [] => [t]
  | u :: r => if lexLe t u = true then t :: u :: r else u :: insT t r
def sortT : List (List Int) → List (List Int)
  | [] => []
  | t :: r => insT t (sortT r)
theorem lexLe_refl : ∀ t : List Int, lexLe t t = true
  | [] => rfl
  | x :: r => by simp [lexLe, lexLe_refl r]
theorem lexLe_total : ∀ t u : List Int, lexLe t u = true ∨ lexLe u t = true
  | [], _ => .inl rfl
  | _ :: _, [] => .inr rfl
  | x :: r, y :: s => by
    have := lexLe_total r s
    simp only [lexLe, Bool.or_eq_true, Bool.and_eq_true, decide_eq_true_eq]
    rcases Int.lt_trichotomy x y with h | h | h
    · exact .inl (.inl h)
    · rcases this with z | z
      · exact .inl (.inr ⟨h, z⟩)
      · exact .inr (.inr ⟨h.symm, z⟩)
    · exact .inr (.inl h)
theorem lexLe_trans : ∀ {t u v : List Int}, lexLe t u = true → lexLe u v = true → lexLe t v = true
  | [], _, _, _, _ => rfl
  | _ :: _, [], _, h, _ => by cases h
  | _ :: _, _ :: _, [], _, h => by cases h
  | x :: r, y :: s, z :: q, h, k => by
    simp only [lexLe, Bool.or_eq_true, Bool.and_eq_true, decide_eq_true_eq] at h k ⊢
    rcases h with h | ⟨h1, h2⟩
    · rcases k with k | ⟨k1, k2⟩
      · exact .inl (by omega)
      · exact .inl (by omega)
    · rcases k with k | ⟨k1, k2⟩
      · exact .inl (by omega)
      · exact .inr ⟨by omega, lexLe_trans h2 k2⟩
theorem lexLe_anti : ∀ {t u : List Int}, lexLe t u = true → lexLe u t = true → t = u
  | [], [], _, _ => rfl
  | [], _ :: _, _, h => by cases h
  | _ :: _, [], h, _ => by cases h
  | x :: r, y :: s, h, k => by
    simp only [lexLe, Bool.or_eq_true, Bool.and_eq_true, decide_eq_true_eq] at h k
    have e : x = y := by omega
    subst e
    rw [lexLe_anti (t := r) (u := s) (by simpa using h) (by simpa using k)]
theorem insT_perm (t : List Int) : ∀ l, (insT t l).Perm (t :: l)
  | [] => .refl _
  | u :: r => by
    unfold insT
    split
    · exact .refl _
    · exact (List.Perm.cons u (insT_perm t r)).trans (List.Perm.swap t u r)
theorem sortT_perm : ∀ l, (sortT l).Perm l
  | [] => .refl _
  | t :: r => (insT_perm t _).trans ((sortT_perm r).cons t)
theorem insT_sorted (t : List Int) : ∀ l, l.Pairwise (fun a b => lexLe a b = true) → (insT t l).Pairwise (fun a b => lexLe a b = true)
  | [], _ => by simp [insT]
  | u :: r, h => by
    unfold insT
    have h' := List.pairwise_cons.mp h
    split
    · rename_i hn
      refine List.pairwise_cons.mpr ⟨fun x hx => ?_, h⟩
      rcases List.mem_cons.mp hx with rfl | hx
      · exact hn
      · exact lexLe_trans hn (h'.1 x hx)
    · rename_i hn
      refine List.pairwise_cons.mpr ⟨fun x hx => ?_, insT_sorted t r h'.2⟩
      rcases List.mem_cons.mp ((insT_perm t r).mem_iff.mp hx) with rfl | hx
      · exact (lexLe_total x u).resolve_left hn
      · exact h'.1 x hx
theorem sortT_sorted : ∀ l, (sortT l).Pairwise (fun a b => lexLe a b = true)
  | [] => .nil
  | t :: r => insT_sorted t _ (sortT_sorted r)
theorem sortedT_unique : ∀ {l l' : List (List Int)}, l.Pairwise (fun a b => lexLe a b = true) → l'.Pairwise (fun a b => lexLe a b = true) → l.Perm l' → l = l'
  | [], l', _, _, p => (List.Perm.nil_eq p)
  | n :: r, [], _, _, p => absurd p.length_eq (by simp)
  | n :: r, m :: r', h, h', p => by
    have a := List.pairwise_cons.mp h
    have b := List.pairwise_cons.mp h'
    have e : n = m := by
      have h1 : n ∈ m :: r' := p.mem_iff.mp List.mem_cons_self
      have h2 : m ∈ n :: r := p.mem_iff.mpr List.mem_cons_self
      rcases List.mem_cons.mp h1 with e | h1
      · exact e
      · rcases List.mem_cons.mp h2 with e | h2
        · exact e.symm
        · exact lexLe_anti (a.1 m h2) (b.1 n h1)
    subst e
    rw [sortedT_unique a.2 b.2 (List.Perm.cons_inv p)]
/-- by the code in B that the kit's sort goes by -/
theorem code_bd {B : Int} (hB : 0 < B) : ∀ {ns : List Int}, TS.Bd B ns → 0 ≤ TS.code B ns ∧ TS.code B ns < B ^ ns.length
  | [], _ => by simp [TS.code]
  | d :: r, h => by
    obtain ⟨h1, h2⟩ := code_bd hB h.tail
    obtain ⟨h3, h4⟩ := h.head
    have := TS.num1 h1 h2 h3 h4
    rw [List.length_cons, Int.pow_succ]
    exact this
theorem code_le {B : Int} (hB : 0 < B) : ∀ {ns ms : List Int}, ns.length = ms.length → TS.Bd B ns → TS.Bd B ms → TS.code B ns ≤ TS.code B ms → lexLe ns ms = true
  | [], _, _, _, _, _ => rfl
  | _ :: _, [], e, _, _, _ => by cases e
  | x :: r, y :: s, e, h, k, hc => by
    have he : r.length = s.length := by simpa using e
    obtain ⟨h1, h2⟩ := code_bd hB h.tail
    obtain ⟨k1, k2⟩ := code_bd hB k.tail
    have hp : 0 < B ^ r.length := Int.pow_pos hB
    have hc : x * B ^ r.length + TS.code B r ≤ y * B ^ s.length + TS.code B s := hc
    rw [← he] at hc k2
    simp only [lexLe, Bool.or_eq_true, Bool.and_eq_true, decide_eq_true_eq]
    have hxy : x ≤ y := by
      refine Decidable.byContradiction fun z => ?_
      have h5 : (y + 1) * B ^ r.length ≤ x * B ^ r.length := Int.mul_le_mul_of_nonneg_right (by omega) (Int.le_of_lt hp)
      rw [Int.add_mul, Int.one_mul] at h5
      omega
    by_cases hx : x < y
    · exact .inl hx
    · have : x = y := by omega
      subst this
      exact .inr ⟨rfl, code_le hB he h.tail k.tail (by omega)⟩
/-- tuples of one length that the kit's sort takes -/
def okT : List (List Int) → Bool
  | [] => true
  | t :: r => decide (1 ≤ t.length) && (t :: r).all fun u => decide (u.length = t.length) && u.all fun i => decide (0 ≤ i) && decide (i < 1000000000000)
theorem okT_all {ts : List (List Int)} (h : okT ts = true) : ∃ d, 1 ≤ d ∧ ∀ u ∈ ts, u.length = d ∧ TS.Bd 1000000000000 u := by
  cases ts with
  | nil => exact ⟨1, Nat.le_refl _, fun u hu => by cases hu⟩
  | cons t r =>
    unfold okT at h
    rw [Bool.and_eq_true, decide_eq_true_eq, List.all_eq_true] at h
    refine ⟨t.length, h.1, fun u hu => ?_⟩
    have := h.2 u hu
    rw [Bool.and_eq_true, decide_eq_true_eq, List.all_eq_true] at this
    refine ⟨this.1, fun m hm => ?_⟩
    simpa using this.2 m hm
theorem okT_of {ts : List (List Int)} {d : Nat} (hd : 1 ≤ d) (h : ∀ u ∈ ts, u.length = d ∧ ∀ i ∈ u, 0 ≤ i ∧ i < 1000000000000) : okT ts = true := by
  cases ts with
  | nil => rfl
  | cons t r =>
    have e : t.length = d := (h t List.mem_cons_self).1
    unfold okT
    rw [Bool.and_eq_true, decide_eq_true_eq, List.all_eq_true]
    refine ⟨by omega, fun u hu => ?_⟩
    have := h u hu
    rw [Bool.and_eq_true, decide_eq_true_eq, List.all_eq_true]
    exact ⟨by omega, fun i hi => by simpa using this.2 i hi⟩
/-- tuples of ints -/
def tupsOf : List D → Option (List (List Int))
  | [] => some []
  | .tuple es :: r => (intsOf es).bind fun ns => (tupsOf r).map (ns :: ·)
  | _ :: _ => none
theorem tupsOf_map : ∀ ts : List (List Int), tupsOf (ts.map fun ns => PyData.tuple (ns.map .int)) = some ts
  | [] => rfl
  | t :: r => by simp [tupsOf, tupsOf_map r, intsOf_map]
theorem tupsOf_eq : ∀ {ds : List D} {ts : List (List Int)}, tupsOf ds = some ts → ds = ts.map fun ns => PyData.tuple (ns.map .int)
  | [], ts, h => by cases h; rfl
  | .tuple es :: r, ts, h => by
    unfold tupsOf at h
    obtain ⟨ns, h1, h2⟩ := Option.bind_eq_some_iff.mp h
    obtain ⟨l, h3, rfl⟩ := Option.map_eq_some_iff.mp h2
    rw [intsOf_eq h1, tupsOf_eq h3]; rfl
  | .none :: r, _, h => by simp [tupsOf] at h
  | .bool _ :: r, _, h => by simp [tupsOf] at h
  | .int _ :: r, _, h => by simp [tupsOf] at h
  | .str _ :: r, _, h => by simp [tupsOf] at h
  | .list _ :: r, _, h => by simp [tupsOf] at h
  | .dict _ :: r, _, h => by simp [tupsOf] at h
/-- the tuples of a list of tuples of ints -/
theorem tups_at {K : PySem.W.Frag} {F : Hp} : ∀ {ts : List (List Int)} {vs : List V}, Dats K F vs (ts.map fun ns => PyData.tuple (ns.map .int)) → ∃ ks : List (Addr × List Int), vs = (ks.map fun p => V.ref p.1) ∧ (∀ p ∈ ks, TupAt K F p.1 (p.2.map V.int)) ∧ ks.map (·.2) = ts
  | [], vs, h => by cases h; exact ⟨[], rfl, (fun p hp => by cases hp), rfl⟩
  | t :: ts, vs, h => by
    cases h with
    | cons r1 r2 =>
      obtain ⟨ks, rfl, h1, rfl⟩ := tups_at r2
      cases r1 with
      | tup e d z =>
        rename_i a ws
        cases d.ints
        exact ⟨(a, t) :: ks, rfl, (fun p hp => by rcases List.mem_cons.mp hp with rfl | hp; exact e; exact h1 p hp), rfl⟩
/-- .. and back -/
theorem dats_tups {K : PySem.W.Frag} {F : Hp} : ∀ {ks : List (Addr × List Int)}, (∀ p ∈ ks, TupAt K F p.1 (p.2.map V.int) ∧ p.2.length ≤ 16777216) → Dats K F (ks.map fun p => V.ref p.1) (ks.map fun p => PyData.tuple (p.2.map .int))
  | [], _ => .nil
  | p :: r, h => .cons (.tup (h p List.mem_cons_self).1 (Dats.ofInts _) (by rw [List.length_map]; exact (h p List.mem_cons_self).2)) (dats_tups fun q hq => h q (List.mem_cons_of_mem _ hq))
theorem perm_tups {α : Type} {f : α → V} : ∀ {ys : List V} {ks : List α}, ys.Perm (ks.map f) → ∃ ks' : List α, ks'.Perm ks ∧ ys = ks'.map f := by
  intro ys ks h
  generalize hz : ks.map f = zs at h
  induction h generalizing ks with
  | nil =>
    have : ks = [] := List.map_eq_nil_iff.mp hz
    subst this
    exact ⟨[], .refl _, rfl⟩
  | @cons x l1 l2 p ih =>
    cases ks with
    | nil => cases hz
    | cons k r =>
      simp only [List.map_cons, List.cons.injEq] at hz
      obtain ⟨ks', h1, h2⟩ := ih hz.2
      exact ⟨k :: ks', h1.cons k, by rw [List.map_cons, hz.1, h2]⟩
  | swap x y l =>
    match ks, hz with
    | a :: b :: r, hz =>
      simp only [List.map_cons, List.cons.injEq] at hz
      exact ⟨b :: a :: r, List.Perm.swap a b r, by rw [List.map_cons, List.map_cons, hz.1, hz.2.1, hz.2.2]⟩
  | trans p1 p2 ih1 ih2 =>
    obtain ⟨k2, h1, h2⟩ := ih2 hz
    obtain ⟨k1, h3, h4⟩ := ih1 h2.symm
    exact ⟨k1, h3.trans h1, h4⟩
def sortedSem (xs : List D) : Option D := match intsOf xs with
  | some ns => some (.list ((sortI ns).map .int))
  | none => (tupsOf xs).bind fun ts => if ts.length < 64 ∧ okT ts = true then some (.list ((sortT ts).map fun ns => PyData.tuple (ns.map .int))) else none
def lenSem : D → Option D
  | .list xs => some (.int xs.length)
  | .tuple xs => some (.int xs.length)
  | .str z => if z.length ≤ 16777216 then some (.int z.length) else none
  | _ => none
def seqD : D → Option (List D)
  | .list xs => some xs
  | .tuple xs => some xs
  | _ => none
def bestSem (two one : Int → Int → Int) (many : Int → List Int → Int) : List D → Option D
  | [.int i, .int j] => some (.int (two i j))
  | [d] => (seqD d).bind fun xs => (intsOf xs).bind fun ns => match ns with
    | n :: r => some (.int (many n r))
    | [] => none
  | _ => none
def bltSem (f : Blt) (ds : List D) : Option D :=
  match f with
  | .len => match ds with | [d] => lenSem d | _ => none
  | .all => match ds with | [.list xs] => (boolsOf xs).map fun bs => .bool (bs.all id) | _ => none
  | .any => match ds with | [.list xs] => (boolsOf xs).map fun bs => .bool (bs.any id) | _ => none
  | .sum => match ds with | [d] => (seqD d).bind fun xs => (intsOf xs).map fun ns => .int ns.sum | _ => none
  | .max => bestSem (fun i j => if j > i then j else i) (fun i _ => i) maxI ds
  | .min => bestSem (fun i j => if j < i then j else i) (fun i _ => i) minI ds
  | .abs => match ds with | [.int i] => some (.int (if i < 0 then -i else i)) | _ => none
  | .int => match ds with | [.int i] => some (.int i) | [.bool k] => some (.int (if k then 1 else 0)) | [.str a] => if a.length ≤ 640 then (PySem.intText? a).map .int else none | _ => none
  | .tuple => match ds with | [d] => (seqD d).map .tuple | _ => none
  | .list => match ds with | [d] => (seqD d).map .list | _ => none
  | .sorted => match ds with | [.list xs] => sortedSem xs | _ => none
  | .str => match ds with | [.int i] => if i.natAbs.log2 < 1920 then some (.str (toString i)) else none | _ => none

def rBlt (W : Wd) (sem : List D → Option D) : List V → Hp → VK → Prop := fun vs H Q => ∃ F ds r, FOk W F H ∧ Good W H ∧ Rdvs W F H vs ds ∧ sem ds = some r ∧ Res W F H r Q
section
variable {X : Cx} {W : Wd}
/-- a list or a tuple that is read -/
theorem Rdv.seq {F H : Hp} {v : V} {d : D} {xs : List D} (f : FOk W F H) (r : Rdv W F H v d) (h : seqD d = some xs) : ∃ a vs, v = .ref a ∧ Dats W.K F vs xs ∧ xs.length ≤ 16777216 ∧ ((H a = some (.lst vs) ∧ d = .list xs) ∨ (TupAt W.K H a vs ∧ d = .tuple xs)) := by
  cases d with
  | list ys => cases h; obtain ⟨a, vs, e, h1, h2, h3⟩ := r.lst f; exact ⟨a, vs, e, h2, h3, .inl ⟨h1, rfl⟩⟩
  | tuple ys => cases h; obtain ⟨a, vs, e, h1, h2, h3⟩ := r.tup f; exact ⟨a, vs, e, h2, h3, .inr ⟨h1, rfl⟩⟩
  | none => cases h
  | bool _ => cases h
  | int _ => cases h
  | str _ => cases h
  | dict _ => cases h
theorem call_best (hc : X.calm = true) (hK : X.K = W.K) (hu : X.A.units + 64 < cLine) (mx : Bool) : CallR X (.builtin (if mx then "max" else "min")) (rBlt W (bestSem (if mx then (fun i j => if j > i then j else i) else (fun i j => if j < i then j else i)) (fun i _ => i) (if mx then maxI else minI))) := by
  intro pins s σ H vs us Q I rv h
  obtain ⟨F, ds, r, f, g, rd, hs, q⟩ := h
  unfold bestSem at hs
  split at hs
  · cases hs
    cases rd with | cons r1 rd =>
    cases rd with | cons r2 rd =>
    cases rd
    cases r1.int; cases r2.int
    cases mx with
    | true => exact call_max2 hc pins s σ H _ us Q I rv ⟨_, _, rfl, q.int f g⟩
    | false => exact call_min2 hc pins s σ H _ us Q I rv ⟨_, _, rfl, q.int f g⟩
  · obtain ⟨xs, h1, hs⟩ := Option.bind_eq_some_iff.mp hs
    obtain ⟨ns, h2, hs⟩ := Option.bind_eq_some_iff.mp hs
    cases rd with | cons r1 rd =>
    cases rd
    obtain ⟨a, ws, rfl, d1, z1, hh⟩ := r1.seq f h1
    rw [intsOf_eq h2] at d1
    cases d1.ints
    cases ns with
    | nil => cases hs
    | cons n ns =>
      cases hs
      refine cr_best hc hu mx pins s σ H _ us Q I rv ⟨a, n, ns, rfl, ?_, q.int f g⟩
      rcases hh with ⟨z, _⟩ | ⟨z, _⟩
      · exact .inl (.inl (.inl z))
      · exact .inr (hK ▸ z.seq)
  · cases hs
theorem call_D (hc : X.calm = true) (hK : X.K = W.K) (hu : X.A.units + 64 < cLine) (f : Blt) : CallR X f.val (rBlt W (bltSem f)) := by
  intro pins s σ H vs us Q I rv h
  obtain ⟨F, ds, r, fo, g, rd, hs, q⟩ := h
  cases f with
  | max => exact call_best hc hK hu true pins s σ H vs us Q I rv ⟨F, ds, r, fo, g, rd, hs, q⟩
  | min => exact call_best hc hK hu false pins s σ H vs us Q I rv ⟨F, ds, r, fo, g, rd, hs, q⟩
  | len =>
    simp only [bltSem] at hs
    split at hs
    · cases rd with | cons r1 rd =>
      cases rd
      unfold lenSem at hs
      split at hs
      · cases hs
        obtain ⟨a, ws, rfl, h1, h2, z1⟩ := r1.lst fo
        exact call_len_seq pins s σ H _ us Q I rv ⟨a, ws, rfl, .inl (.inl (.inl h1)), by rw [h2.length]; exact q.int fo g⟩
      · cases hs
        obtain ⟨a, ws, rfl, h1, h2, z1⟩ := r1.tup fo
        exact call_len_seq pins s σ H _ us Q I rv ⟨a, ws, rfl, .inr (hK ▸ h1.seq), by rw [h2.length]; exact q.int fo g⟩
      · split at hs <;> cases hs
        rename_i hl
        obtain ⟨rfl, _⟩ := r1.str
        exact call_len_str pins s σ H _ us Q I rv ⟨_, rfl, by rw [sizeLine_eq]; exact hl, q.int fo g⟩
      · cases hs
    · cases hs
  | all =>
    simp only [bltSem] at hs
    split at hs
    · obtain ⟨bs, h1, rfl⟩ := Option.map_eq_some_iff.mp hs
      cases rd with | cons r1 rd =>
      cases rd
      obtain ⟨a, ws, rfl, h2, h3, z1⟩ := r1.lst fo
      rw [boolsOf_eq h1] at h3
      cases h3.bools
      exact cr_all hc pins s σ H _ us Q I rv ⟨a, bs, rfl, .inl (.inl h2), q.bool fo g⟩
    · cases hs
  | any =>
    simp only [bltSem] at hs
    split at hs
    · obtain ⟨bs, h1, rfl⟩ := Option.map_eq_some_iff.mp hs
      cases rd with | cons r1 rd =>
      cases rd
      obtain ⟨a, ws, rfl, h2, h3, z1⟩ := r1.lst fo
      rw [boolsOf_eq h1] at h3
      cases h3.bools
      exact cr_any hc pins s σ H _ us Q I rv ⟨a, bs, rfl, .inl (.inl h2), q.bool fo g⟩
    · cases hs
  | sum =>
    simp only [bltSem] at hs
    split at hs
    · obtain ⟨xs, h1, hs⟩ := Option.bind_eq_some_iff.mp hs
      obtain ⟨ns, h2, rfl⟩ := Option.map_eq_some_iff.mp hs
      cases rd with | cons r1 rd =>
      cases rd
      obtain ⟨a, ws, rfl, d1, z1, hh⟩ := r1.seq fo h1
      rw [intsOf_eq h2] at d1
      cases d1.ints
      rcases hh with ⟨z, _⟩ | ⟨z, _⟩
      · exact cr_sum hc pins s σ H _ us Q I rv ⟨a, ns, rfl, .inl (.inl z), q.int fo g⟩
      · exact cr_sumT hc pins s σ H _ us Q I rv ⟨a, ns, rfl, hK ▸ z.seq, q.int fo g⟩
    · cases hs
  | abs =>
    simp only [bltSem] at hs
    split at hs
    · cases hs
      cases rd with | cons r1 rd =>
      cases rd
      cases r1.int
      exact call_abs pins s σ H _ us Q I rv ⟨_, rfl, q.int fo g⟩
    · cases hs
  | int =>
    simp only [bltSem] at hs
    split at hs
    · cases hs
      cases rd with | cons r1 rd =>
      cases rd
      cases r1.int
      exact call_int1 pins s σ H _ us Q I rv (.inl ⟨_, rfl, q.int fo g⟩)
    · cases hs
      cases rd with | cons r1 rd =>
      cases rd
      cases r1.bool
      exact call_int1 pins s σ H _ us Q I rv (.inr ⟨_, rfl, q.int fo g⟩)
    · split at hs
      · rename_i hl
        obtain ⟨n, h1, rfl⟩ := Option.map_eq_some_iff.mp hs
        cases rd with | cons r1 rd =>
        cases rd
        obtain ⟨rfl, _⟩ := r1.str
        exact call_int_str pins s σ H _ us Q I rv ⟨_, n, rfl, h1, hl, q.int fo g⟩
      · cases hs
    · cases hs
  | tuple =>
    simp only [bltSem] at hs
    split at hs
    · obtain ⟨xs, h1, rfl⟩ := Option.map_eq_some_iff.mp hs
      cases rd with | cons r1 rd =>
      cases rd
      obtain ⟨a, ws, rfl, d1, z1, hh⟩ := r1.seq fo h1
      refine call_tuple_of pins s σ H _ us Q I rv ⟨a, ws, rfl, ?_⟩
      rcases hh with ⟨z, _⟩ | ⟨z, e⟩
      · exact .inl ⟨.inl (.inl z), fun l n => q.tup fo g n d1 z1⟩
      · subst e
        exact .inr ⟨hK ▸ z.seq, q _ _ _ (.refl fo g) r1.datT⟩
    · cases hs
  | list =>
    simp only [bltSem] at hs
    split at hs
    · obtain ⟨xs, h1, rfl⟩ := Option.map_eq_some_iff.mp hs
      cases rd with | cons r1 rd =>
      cases rd
      obtain ⟨a, ws, rfl, d1, z1, hh⟩ := r1.seq fo h1
      refine call_list_of pins s σ H _ us Q I rv ⟨a, ws, rfl, ?_, fun l n => q l ws n d1 z1⟩
      rcases hh with ⟨z, _⟩ | ⟨z, e⟩
      · exact .inl (.inl (.inl z))
      · exact .inr (hK ▸ z.seq)
    · cases hs
  | sorted =>
    simp only [bltSem] at hs
    split at hs
    · rename_i xs
      unfold sortedSem at hs
      cases rd with | cons r1 rd =>
      cases rd
      obtain ⟨a, ws, rfl, h2, h3, z1⟩ := r1.lst fo
      cases hi : intsOf xs with
      | some ns =>
        rw [hi] at hs
        cases hs
        rw [intsOf_eq hi] at h3
        cases h3.ints
        refine cr_sortedI pins s σ H _ us Q I rv ⟨a, ns, rfl, .inl (.inl h2), fun ns' p hp hs' n => ?_⟩
        rw [sorted_unique hs' (sortI_sorted ns) (hp.trans (sortI_perm ns).symm)]
        exact q p _ n (Dats.ofInts _) (by rw [List.length_map, (sortI_perm ns).length_eq, ← List.length_map (f := PyData.int), ← intsOf_eq hi]; exact z1)
      | none =>
        rw [hi] at hs
        obtain ⟨ts, ht, hs⟩ := Option.bind_eq_some_iff.mp hs
        split at hs <;> cases hs
        rename_i hl
        obtain ⟨hl, ho⟩ := hl
        obtain ⟨d, hd, hall⟩ := okT_all ho
        have hxs := tupsOf_eq ht
        rw [hxs] at h3
        obtain ⟨ks, rfl, hk, rfl⟩ := tups_at h3
        have hsq : ∀ p ∈ ks, SqT W.K H p.1 (p.2.map V.int) := fun p hp => ((hk p hp).mono fo.sub).seq
        refine cr_sortT (d := d) (B := 1000000000000) hd pins s σ H _ us Q I rv ⟨a, _, rfl, .inl (.inl h2), by simpa using hl, fun x hx => ?_, fun ys p hperm hpw n => ?_⟩
        · obtain ⟨p, hp, rfl⟩ := List.mem_map.mp hx
          obtain ⟨b1, b2⟩ := hall p.2 (List.mem_map.mpr ⟨p, hp, rfl⟩)
          exact ⟨p.2, ⟨p.1, rfl, hK ▸ hsq p hp⟩, b1, b2⟩
        · obtain ⟨ks', hp', rfl⟩ := perm_tups hperm
          have hmem : ∀ p ∈ ks', p ∈ ks := fun p hp => hp'.mem_iff.mp hp
          have hsort : (ks'.map (·.2)).Pairwise (fun a b => lexLe a b = true) := by
            rw [List.pairwise_map] at hpw ⊢
            refine List.Pairwise.imp_of_mem (fun {u v} hu hv h => ?_) hpw
            obtain ⟨u1, u2⟩ := hall u.2 (List.mem_map.mpr ⟨u, hmem u hu, rfl⟩)
            obtain ⟨v1, v2⟩ := hall v.2 (List.mem_map.mpr ⟨v, hmem v hv, rfl⟩)
            exact code_le (by decide) (by omega) u2 v2 (h _ _ ⟨u.1, rfl, hK ▸ hsq u (hmem u hu)⟩ ⟨v.1, rfl, hK ▸ hsq v (hmem v hv)⟩)
          have he : ks'.map (·.2) = sortT (ks.map (·.2)) := sortedT_unique hsort (sortT_sorted _) ((hp'.map _).trans (sortT_perm _).symm)
          have hlen : ks'.length < 64 := by rw [hp'.length_eq]; simpa using hl
          refine q p _ n (by
            rw [← he, List.map_map]
            refine dats_tups fun p hp => ⟨hk p (hmem p hp), ?_⟩
            have e1 : PyData.tuple (p.2.map .int) ∈ xs := by rw [hxs, List.map_map]; exact List.mem_map.mpr ⟨p, hmem p hp, rfl⟩
            rw [hxs] at e1
            obtain ⟨w, hw1, hw2⟩ := (show ∃ w, w ∈ ks.map (fun p => V.ref p.1) ∧ Dat W.K F w (.tuple (p.2.map .int)) from by
              have hm := hmem p hp
              obtain ⟨j, hj, rfl⟩ := List.getElem_of_mem hm
              obtain ⟨v, g1, g2⟩ := h3.get (i := j) (d := .tuple (ks[j].2.map .int)) (by rw [List.map_map, List.getElem?_map, List.getElem?_eq_getElem hj]; rfl)
              exact ⟨v, List.mem_of_getElem? g1, g2⟩)
            cases hw2 with
            | tup _ _ z => simpa using z) (by rw [List.length_map, ← he, List.length_map]; omega)
    · cases hs
  | str =>
    simp only [bltSem] at hs
    split at hs
    · split at hs <;> cases hs
      rename_i i hl
      cases rd with | cons r1 rd =>
      cases rd
      cases r1.int
      refine call_str_int pins s σ H _ us Q I rv ⟨_, rfl, hl, q.str fo g ?_⟩
      rw [strOk_iff]
      intro c hc
      rw [PySem.Str.ofString_eq_toList] at hc
      have hc2 : c ∈ (toString i).toList.map Char.toNat := hc
      obtain ⟨ch, _, rfl⟩ := List.mem_map.mp hc2
      have := ch.valid
      have h1 : ch.toNat < 0xD800 ∨ (0xDFFF < ch.toNat ∧ ch.toNat < 0x110000) := this
      omega
    · cases hs
end

/-! ### isinstance -/
def tyName : D → String
  | .none => "NoneType" | .bool _ => "bool" | .int _ => "int" | .str _ => "str" | .list _ => "list" | .tuple _ => "tuple" | .dict _ => "dict"
def isInst (d : D) (T : String) : Bool := tyName d == T || (tyName d == "bool" && T == "int")
def isTys : List String := ["int", "bool", "str", "tuple"]
theorem isInst_kit : ∀ a ∈ ["NoneType", "bool", "int", "str", "list", "tuple"], ∀ T ∈ isTys, kitB a T = some (a == T || (a == "bool" && T == "int")) := by decide +kernel
def rIsi1 (W : Wd) (T : String) : List V → Hp → VK → Prop := fun vs H Q => ∃ F v d, vs = [v, .ty T] ∧ FOk W F H ∧ Rdv W F H v d ∧ T ∈ isTys ∧ Q (.bl (isInst d T)) H
section
variable {X : Cx} {W : Wd}
theorem call_isi1 (hK : X.K = W.K) (T : String) : CallR X (.builtin "isinstance") (rIsi1 W T) := by
  intro pins s σ H vs us Q I rv h
  obtain ⟨F, v, d, rfl, f, rd, hT, q⟩ := h
  have key : ∀ a ∈ ["NoneType", "bool", "int", "str", "list", "tuple"], tyName d = a → TyX X.K H v (.type a) → wpAny (model X.prog X.w) X.A (call (.builtin "isinstance") us) (EP X pins σ Q) X.xe s := fun a ha e ty => by
    refine call_isi pins s σ H _ us Q I rv ⟨v, .ty T, .type a, .type T, isInst d T, rfl, .ty T, ty, kit_ty ?_, q⟩
    rw [isInst_kit a ha T hT]
    unfold isInst
    rw [e]
  cases d with
  | none => cases rd.none; exact key "NoneType" (by decide) rfl (.base .non)
  | bool b => cases rd.bool; exact key "bool" (by decide) rfl (.base (.bl _))
  | int b => cases rd.int; exact key "int" (by decide) rfl (.base (.int _))
  | str b => cases rd.str.1; exact key "str" (by decide) rfl (.base (.str _))
  | list b => obtain ⟨a, ws, rfl, h1, h2, z1⟩ := rd.lst f; exact key "list" (by decide) rfl (.base (.lst h1))
  | tuple b =>
    obtain ⟨a, ws, rfl, h1, h2, z1⟩ := rd.tup f
    rcases h1 with h1 | ⟨o, its, n, h1, h3, _⟩
    · exact key "tuple" (by decide) rfl (.base (.tup h1))
    · exact key "tuple" (by decide) rfl (.kTuple (hK ▸ h1) h3)
  | dict b => exact rd.dict.elim
end

/-! ### unary, truth -/
def unSem : UnaryOp → D → Option D
  | .USub, .int a => some (.int (-a))
  | _, _ => none
def truth : D → Option Bool
  | .none => some false
  | .bool b => some b
  | .int i => some (i != 0)
  | .list xs => some (!xs.isEmpty)
  | .tuple xs => some (!xs.isEmpty)
  | .str _ => none
  | .dict _ => none
section
variable {X : Cx} {W : Wd}
def rUnD (W : Wd) (op : UnaryOp) : V → Hp → VK → Prop := fun x H Q => ∃ F d r, FOk W F H ∧ Good W H ∧ Rdv W F H x d ∧ unSem op d = some r ∧ Res W F H r Q
theorem un_D (op : UnaryOp) : UnR X (unaryOp op) (rUnD W op) := by
  intro pins s σ H x v Q I rx h
  obtain ⟨F, d, r, f, g, rd, hs, q⟩ := h
  unfold unSem at hs
  split at hs
  · cases hs
    cases rd.int
    exact un_neg pins s σ H _ v Q I rx ⟨_, rfl, q.int f g⟩
  · cases hs
theorem Rdv.truth {F H : Hp} {v : V} {d : D} {b : Bool} (hK : X.K = W.K) (f : FOk W F H) (r : Rdv W F H v d) (h : truth d = some b) : TruV X.K v H b := by
  cases d with
  | none => cases r.none; cases h; rfl
  | bool c => cases r.bool; cases h; rfl
  | int c => cases r.int; cases h; rfl
  | str c => cases h
  | dict c => cases h
  | list xs =>
    cases h
    obtain ⟨a, ws, rfl, h1, h2, z1⟩ := r.lst f
    refine .inl ⟨ws, .inl (.inl h1), ?_⟩
    cases h2 <;> rfl
  | tuple xs =>
    cases h
    obtain ⟨a, ws, rfl, h1, h2, z1⟩ := r.tup f
    refine .inr (.inl ⟨ws, hK ▸ h1.seq, ?_⟩)
    cases h2 <;> rfl
end
end Dl

set_option Elab.async false
set_option linter.all false
set_option maxRecDepth 100000
set_option maxHeartbeats 4000000
/-! the data layer, part 33: sets of ints, sets of tuples of ints, walks backwards -/
namespace Dl
open PySem PySem.Spec PyProof.Rows L2
/-- a set that is new -/
def sob (w : World) : Obj := { cls := .type "set", dict := none, data := .set #[] 0 (.fresh 0 0 (!w.params.followText "set-order")) }
section
variable {P : Program} {w : World} {A : Around} {E : Value → Shared → Prop} {s : Shared}
/-- what is behind set(xs) of a list of ints -/
def SetAfter (w : World) (s : Shared) (ns : List Int) (h' : Heap) : Prop :=
  ∃ c, SetR w h' s.heap.objs.size (fun j => decide (j ∈ ns)) c ∧ c ≤ ns.length ∧ ∀ b o, s.heap.get? b = some o → h'.get? b = some o
set_option maxRecDepth 100000 in
set_option maxHeartbeats 3200000 in
theorem set_lst {l : Addr} {xs : Array Value} (ns : List Int) {Q : Value → Shared → Prop} (a0 : A.handled = none) (lx : s.heap.IsList l xs) (ix : IntsAre xs.toList ns) (sm : ns.length + 1 < scanBound)
    (k : ∀ (h' : Heap) (tk : Nat), SetAfter w s ns h' → Q (.ref s.heap.objs.size) { s with heap := h', toks := tk }) : wpAny (model P w) A (call (.type "set") [.ref l]) Q E s := by
  have zx : xs.size = ns.length := by
    have z := ix.length
    rwa [Array.length_toList] at z
  have ⟨_, _, r1⟩ := F.called_set.mro
  have r2 := F.called_set.made
  have r3 := F.called_set.sub
  have r4 := F.called_set.notType
  have r5 := F.called_set.canCreate
  have r6 := F.typeCall_set_1 (.ref l)
  refine wpAny_call (codeAny_of_tree ?_)
  show wpAny _ _ (callAny (.type "set") _) _ _ _
  refine wpAny_pure ⟨Code.quiet_builtin _ (by decide +kernel), codeAny_builtin F.entry_type_call ?_⟩
  rw [Around.under_plain (weight_type_call_type _ _ _) rfl]
  repeat (any_goals (first | assumption | wp_step))
  refine codeAny_mono (code_set_led1 (.ref l) (E := E) (Q₁ := fun v t => v = .ref s.heap.objs.size ∧ t = { s with heap := s.heap.push (sob w) }) ⟨rfl, rfl⟩) fun r t hr => ?_
  rcases r with e | fl
  · exact hr
  cases fl <;> try exact hr.elim
  obtain ⟨rfl, rfl⟩ := hr
  have g1 : (s.heap.push (sob w)).get? s.heap.objs.size = some (sob w) := Heap.get?_push_size _ rfl
  have g2 : ({ s with heap := s.heap.push (sob w) } : Shared).TypeIs (.ref s.heap.objs.size) "set" := ⟨_, g1, rfl⟩
  have r7 := F.called_set.init.lookup
  have r8 := F.called_set.init.bind (.ref s.heap.objs.size)
  repeat (any_goals (first | assumption | wp_step))
  refine codeAny_mono (codeAny_call_builtin (R := wants (fun v t => v = .none ∧ ∃ h' tk, t = { s with heap := h', toks := tk } ∧ SetAfter w s ns h') E) F.called_set.init.plain F.entry_set_init (check_set_init_1 g2 ?_)) fun r t hr => ?_
  · obtain ⟨⟨oc, od, odt, os⟩, ho, hc, m, hd⟩ := lx
    simp only at hc hd
    subst hc hd
    have lt0 : l < s.heap.objs.size := Heap.lt_size ho
    have g3 : (s.heap.push (sob w)).get? l = some { cls := .type "list", dict := od, data := .seq xs m, slots := os } := Heap.get?_push_of_some _ ho
    have g4 : (s.heap.push (sob w)).IsList l xs := ⟨_, g3, rfl, m, rfl⟩
    have r9 := F.sub_list_set
    have r10 := F.sub_list_frozenset
    have r11 : (Value.type "list" == Value.type "dict") = false := by decide
    unfold Builtin.«set.__init__» noKeywords Builtin.Frozenset.updateFrom
    generalize eIt : pyIter = It
    wp_walk
    subst eIt
    refine wpAny_pyIter_list g4 (wpAny_bind (wpAny_runValue ?_))
    have a1 : A.in1.in1.in1.handled = none := by simp [a0]
    have e1 : (s.heap.push (sob w)).objs.size = s.heap.objs.size + 1 := Heap.size_push ..
    have n1 : l ≠ (s.heap.push (sob w)).objs.size := Nat.ne_of_lt (e1 ▸ Nat.lt_succ_of_lt lt0)
    have n2 : s.heap.objs.size ∉ [(s.heap.push (sob w)).objs.size, l] := by
      simp only [List.mem_cons, List.not_mem_nil, or_false, not_or]
      exact ⟨Nat.ne_of_lt (e1 ▸ Nat.lt_succ_self _), Nat.ne_of_gt lt0⟩
    refine set_update_ints ((Walks.list a1 _ l n1 xs).toS) s.heap.objs.size n2 ns zx sm (fun i v hv => ?_) (xs.size - 0) 0 _ (by omega) (Nat.zero_le _) ⟨⟨_, Heap.get?_push_size _ rfl, rfl, rfl⟩, g4.push _⟩ ?_ ?_
    · have hi : i < ns.length := by rw [← zx]; exact (Array.getElem?_eq_some_iff.mp hv).1
      obtain ⟨tk, e⟩ := IntsAre.int_at ix i v (by rw [Array.getElem?_toList]; exact hv)
      refine ⟨ns[i], tk, List.getElem?_eq_getElem hi, ?_⟩
      rw [e]
      simp [hi]
    · exact ⟨0, Nat.le_refl 0, setR_new_at (Heap.get?_push_of_some _ g1)⟩
    · intro t c hm hc' hS'
      obtain ⟨h', gg, dr, tk, o2⟩ := t
      have q1 : gg = s.gens := hm.gens
      have q2 : dr = s.drawn := hm.drawn
      have q3 : o2 = s.os := hm.os
      subst q1 q2 q3
      show wpAny _ _ _ _ _ _
      refine wpAny_pure ?_
      show wpAny _ _ (ret Value.none) _ _ _
      rw [zx] at hc'
      refine wpAny_pure ⟨rfl, h', tk, rfl, c, hS', hc', fun b o e => ?_⟩
      have lb := Heap.lt_size e
      refine hm.heap b o ?_ (Heap.get?_push_of_some _ (Heap.get?_push_of_some _ e))
      simp only [List.mem_cons, List.not_mem_nil, or_false, not_or]
      exact ⟨Nat.ne_of_lt lb, Nat.ne_of_lt (e1 ▸ Nat.lt_succ_of_lt lb)⟩
  · rcases r with e | fl
    · exact hr
    cases fl <;> try exact hr.elim
    obtain ⟨rfl, h', tk, rfl, hs⟩ := hr
    repeat (any_goals (first | assumption | wp_step))
    exact k _ _ hs
end
end Dl

set_option Elab.async false
set_option linter.all false
set_option maxRecDepth 100000
set_option maxHeartbeats 4000000
/-! the data layer, part 34: backwards; special forms with one argument -/
namespace Dl
open PySem PySem.Spec PyProof.Rows L2
section
variable {P : Program} {w : World} {A : Around} {E : Value → Shared → Prop} {s : Shared}
/-! ### t[::-1] -/
theorem back_places (n : Nat) : Builtin.Slice.slicePlaces ((n : Int) - 1) (-1) (-1) = n := by
  unfold Builtin.Slice.slicePlaces
  by_cases h : n = 0
  · subst h; decide
  · simp only [show ¬ ((-1 : Int) > 0) by decide, if_false, show ((n : Int) - 1) > -1 by omega, if_true, Int.neg_neg, Int.ediv_one]
    omega
theorem back_pick (xs : Array Value) : ((List.range xs.size).filterMap fun (m : Nat) => xs[(((xs.size : Int) - 1) + (m : Int) * (-1)).toNat]?).toArray = xs.toList.reverse.toArray := by
  congr 1
  apply List.ext_getElem?
  intro i
  have e : ((List.range xs.size).filterMap fun (m : Nat) => xs[(((xs.size : Int) - 1) + (m : Int) * (-1)).toNat]?) = (List.range xs.size).map fun m => xs.getD (xs.size - 1 - m) .none := by
    have key : ∀ l : List Nat, (∀ m ∈ l, m < xs.size) → (l.filterMap fun (m : Nat) => xs[(((xs.size : Int) - 1) + (m : Int) * (-1)).toNat]?) = l.map fun m => xs.getD (xs.size - 1 - m) .none := by
      intro l
      induction l with
      | nil => intro _; rfl
      | cons m r ih =>
        intro h
        have hm := h m List.mem_cons_self
        have e1 : (((xs.size : Int) - 1) + (m : Int) * (-1)).toNat = xs.size - 1 - m := by omega
        have e2 : xs[xs.size - 1 - m]? = some (xs[xs.size - 1 - m]'(by omega)) := Array.getElem?_eq_getElem (by omega)
        have e3 : xs.getD (xs.size - 1 - m) .none = xs[xs.size - 1 - m]'(by omega) := by
          rw [Array.getD_eq_getD_getElem?, e2]; rfl
        rw [List.filterMap_cons, e1, e2, List.map_cons, ih fun k hk => h k (List.mem_cons_of_mem _ hk), e3]
    exact key _ fun m hm => List.mem_range.mp hm
  rw [e, List.getElem?_map]
  by_cases hi : i < xs.size
  · rw [List.getElem?_range hi, List.getElem?_reverse (by simpa using hi)]
    simp only [Option.map_some, Array.getD_eq_getD_getElem?, Array.length_toList, Array.getElem?_toList]
    rw [Array.getElem?_eq_getElem (by omega)]; rfl
  · rw [List.getElem?_eq_none (by simp; omega), List.getElem?_eq_none (by simp; omega)]; rfl
theorem get_back {t sl : Addr} {xs : Array Value} {k : Tok} {Q : Value → Shared → Prop} (ht : IsTup s.heap t xs) (hs : s.heap.IsSliceOf sl .none .none (.int (-1) k)) (z : xs.size ≤ sizeLine)
    (h : Q (.ref s.heap.objs.size) { s with heap := s.heap.push { cls := .type "tuple", data := .seq xs.toList.reverse.toArray } }) : wpAny (model P w) A (getItem (.ref t) (.ref sl)) Q E s := by
  have ok : sizeOk (.seq xs.toList.reverse.toArray) := by
    show xs.toList.reverse.toArray.size ≤ sizeLine
    simpa using z
  obtain ⟨o, o1, o2, o3⟩ := id hs
  have ty : s.TypeIs (.ref sl) "slice" := ⟨o, o1, o2⟩
  unfold getItem
  try with_reducible refine wpAny_holding ?_
  first | refine wpAny_bind (wpAny_pure ?_) | skip
  refine wpAny_bind (wpAny_sequenceKey ht.typeIs (by decide) ?_)
  refine wpAny_bind (wpAny_callSpecial?_slot (name := Str.ofString "__getitem__") ht.typeIs PyProof.Rows.slot_tuple_getitem (wpAny_call_entry PyProof.Rows.slot_tuple_getitem ht.typeIs entry_tuple_getitem ?_ (args_tuple_getitem _ _)))
  show wpAny _ _ (Builtin.Tuple.tupleItemsOf (.ref t) >>= _) _ _ s
  refine wpAny_bind (tupleItemsOf_ ht (wpAny_bind (wpAny_typeOf ty ?_)))
  rw [if_pos (by decide)]
  have ap : ∀ (A : Around) (R : Int × Int × Nat → Shared → Prop), R ((xs.size : Int) - 1, -1, xs.size) s → wpAny (model P w) A (Builtin.Slice.sliceApplied (.ref sl) (pure (xs.size : Int))) R E s := by
    intro A R r
    unfold Builtin.Slice.sliceApplied Builtin.Slice.sliceFields
    refine wpAny_bind (wpAny_bind (wpAny_field o1 o3 (x := .none) rfl (wpAny_bind (wpAny_field o1 o3 (x := .none) rfl (wpAny_bind (wpAny_field o1 o3 (x := .int (-1) k) rfl (wpAny_pure ?_)))))))
    refine wpAny_bind (HT.slicePart_ (.int (-1) k) ?_)
    show wpAny _ _ (if ((-1 : Int) == 0) = true then _ else _) _ _ s
    rw [if_neg (by decide)]
    refine wpAny_bind (HT.slicePart_ .none (wpAny_bind (HT.slicePart_ .none (wpAny_bind (wpAny_pure ?_)))))
    have e : Builtin.Slice.sliceAdjust none none (-1) (xs.size : Int) = ((xs.size : Int) - 1, -1) := rfl
    show wpAny _ _ (match Builtin.Slice.sliceAdjust none none (-1) (xs.size : Int) with | (lo, hi) => pure (lo, (-1 : Int), Builtin.Slice.slicePlaces lo hi (-1))) _ _ s
    rw [e]
    show wpAny _ _ (pure ((xs.size : Int) - 1, (-1 : Int), Builtin.Slice.slicePlaces ((xs.size : Int) - 1) (-1) (-1))) _ _ s
    rw [back_places]
    exact wpAny_pure r
  refine wpAny_bind (ap _ _ ?_)
  show wpAny _ _ (if ((((xs.size : Int) - 1) == 0 && (-1 : Int) == 1 && xs.size == xs.size)) = true then _ else _) _ _ s
  rw [if_neg (by simp), back_pick]
  first
    | exact wpAny_bind (m := Builtin.Tuple.tupleExact _) (wpAny_newObj_type (wpAny_pure ⟨_, rfl, wpAny_pure h⟩) ok)
    | exact wpAny_bind (m := Builtin.Tuple.tupleExact _) (wpAny_newObj_type (wpAny_bind (wpAny_pure (wpAny_pure ⟨_, rfl, wpAny_pure h⟩))) ok)
    | exact wpAny_bind (wpAny_bind (m := Builtin.Tuple.tupleExact _) (wpAny_newObj_type (wpAny_pure (wpAny_pure ⟨_, rfl, wpAny_pure h⟩)) ok))
    | exact wpAny_bind (wpAny_bind (m := Builtin.Tuple.tupleExact _) (wpAny_newObj_type (wpAny_pure ⟨_, rfl, wpAny_pure h⟩) ok))
end
/-! ### without the ones that come again -/
def nub {α : Type} [DecidableEq α] : List α → List α
  | [] => []
  | a :: r => if a ∈ r then nub r else a :: nub r
theorem mem_nub {α : Type} [DecidableEq α] {x : α} : ∀ {l : List α}, x ∈ nub l ↔ x ∈ l
  | [] => Iff.rfl
  | a :: r => by
    unfold nub
    split
    · rename_i h
      rw [mem_nub (l := r), List.mem_cons]
      exact ⟨.inr, fun z => z.elim (fun e => e ▸ h) id⟩
    · rw [List.mem_cons, List.mem_cons, mem_nub (l := r)]
theorem nub_nodup {α : Type} [DecidableEq α] : ∀ l : List α, (nub l).Nodup
  | [] => .nil
  | a :: r => by
    unfold nub
    split
    · exact nub_nodup r
    · rename_i h
      exact List.nodup_cons.mpr ⟨fun z => h (mem_nub.mp z), nub_nodup r⟩
theorem nub_le {α : Type} [DecidableEq α] : ∀ l : List α, (nub l).length ≤ l.length
  | [] => Nat.le_refl _
  | a :: r => by
    unfold nub
    have := nub_le r
    split <;> simp <;> omega
theorem perm_of_mem {α : Type} [DecidableEq α] {l m : List α} (h1 : l.Nodup) (h2 : m.Nodup) (h : ∀ x, x ∈ l ↔ x ∈ m) : l.Perm m := (List.perm_ext_iff_of_nodup h1 h2).mpr h
theorem nub_perm {α : Type} [DecidableEq α] {l m : List α} (h1 : m.Nodup) (h : ∀ x, x ∈ m ↔ x ∈ l) : (nub l).Perm m := perm_of_mem (nub_nodup l) h1 fun x => mem_nub.trans (h x).symm
/-! ### set(xs): ints -/
section
variable {X : Cx}
def rSetI (K : PySem.W.Frag) (w : World) : List V → Hp → VK → Prop := fun xs H Q => ∃ (l : Addr) (ns : List Int), xs = [V.ref l] ∧ (SqL K H l (ns.map V.int) ∨ SqT K H l (ns.map V.int)) ∧ ns.length < 4000 ∧
  ∀ a, H a = none → Q (.ref a) (upd H a (SetO w a (fun j => decide (j ∈ ns)) (nub ns).length))
theorem setR_len {w : World} {h : Heap} {a : Addr} {ns : List Int} {c : Nat} (r : SetR w h a (fun j => decide (j ∈ ns)) c) : c = (nub ns).length := by
  obtain ⟨o, es, ep, t, ho, hex, hd, g, nd, hm, hb, hf, hn, hr, hl⟩ := r
  have := (nub_perm (l := ns) nd fun x => (hm x).symm.trans (by simp)).length_eq
  rw [this, List.length_map, ← hn, Array.length_toList]
theorem cr_setI (hc : X.calm = true) : CallR X (.type "set") (rSetI X.K X.w) := by
  intro pins s σ H xs us Q I r h
  obtain ⟨l, ns, rfl, hl, hf, q⟩ := h
  rw [Vals.ref1 r]
  have hn : H s.heap.objs.size = none := I.hok.fresh (Nat.le_refl _)
  have fin : ∀ (h' : Heap) (tk c : Nat), SetR X.w h' s.heap.objs.size (fun j => decide (j ∈ ns)) c → (∀ b o, s.heap.get? b = some o → h'.get? b = some o) → EP X pins σ Q (.ref s.heap.objs.size) { s with heap := h', toks := tk } := fun h' tk c r k => by
    have := setR_len r
    subst this
    exact ⟨.ref s.heap.objs.size, _, I.laid (t' := tk) k (Nat.le_refl _) (setO_new r), rfl, q _ hn⟩
  have big : ns.length + 1 < scanBound := by unfold scanBound; omega
  rcases hl with hl | hl
  · obtain ⟨its, rv, pl, hz⟩ := I.list hl
    exact set_lst (P := X.prog) (w := X.w) ns (I.ok.hd hc) pl.isList (by simpa using rv.ints) big fun h' tk ⟨c, r, _, k⟩ => fin h' tk c r k
  · obtain ⟨its, rv, pl, hz⟩ := I.tuple hl
    exact call_set_tupI (P := X.prog) (w := X.w) ns (I.ok.hd hc) pl (by simpa using rv.ints) big fun h' tk c r _ k => fin h' tk c r k
/-! ### len(set) -/
def rLenSet (K : PySem.W.Frag) (P : Program) (w : World) : List V → Hp → VK → Prop := fun vs H Q => ∃ a, vs = [V.ref a] ∧ ((∃ S n, H a = some (SetO w a S n) ∧ Q (.int (n : Nat)) H) ∨
  ∃ L : List (Addr × List Int), H a = some (SetTO P w a L) ∧ (∀ p ∈ L, SqT K H p.1 (p.2.map V.int)) ∧ ((L.map (·.2)).Nodup → Q (.int (L.length : Nat)) H))
theorem cr_lenSet : CallR X (.builtin "len") (rLenSet X.K X.prog X.w) := by
  intro pins s σ H vs us Q I r h
  obtain ⟨a, rfl, h⟩ := h
  rw [Vals.ref1 r]
  rcases h with ⟨S, n, ha, q⟩ | ⟨L, ha, hL, q⟩
  · obtain ⟨o, es, ep, t, ho, hex, hd, g, nd, hm, hb, hf, hn, hr, hl⟩ := setO_get I ha
    exact call_len_set ho hex hd hf (by unfold scanBound at hb; omega) ⟨.int (n : Nat), H, I.tok _, ⟨_, by rw [hn]⟩, q⟩
  · have t0 : SetT0 X.prog X.w s.heap a L := (I.hok a _ ha).1
    obtain ⟨es, ep, t, R⟩ := t0.full fun p hp => I.isT (hL p hp)
    obtain ⟨o, ho, hex, hd⟩ := R.ob
    have hs := R.size
    have hf := R.few
    exact call_len_set ho hex hd R.fits (by omega) ⟨.int (L.length : Nat), H, I.tok _, ⟨_, by rw [hs]⟩, q R.nd⟩
end
/-! ### special forms -/
inductive SpF | rev | setLen | setSort | enumL | zfill (n : Nat) | split (s : Str) | join (s : Str)
  deriving DecidableEq
def lenSetSem (d : D) : Option D := (seqD d).bind fun xs => match intsOf xs with
  | some ns => if ns.length < 4000 then some (.int (nub ns).length) else none
  | none => match d with
    | .list _ => (tupsOf xs).bind fun ts => if ts.length < 64 then some (.int (nub ts).length) else none
    | _ => none
def setSortSem (d : D) : Option D := (seqD d).bind fun xs => match intsOf xs with
  | some ns => if ns.length < 64 then some (.list ((sortI (nub ns)).map .int)) else none
  | none => match d with
    | .list _ => (tupsOf xs).bind fun ts => if ts.length < 64 ∧ okT ts = true then some (.list ((sortT (nub ts)).map fun ns => PyData.tuple (ns.map .int))) else none
    | _ => none
/-- texts -/
def strsOf : List D → Option (List Str)
  | [] => some []
  | .str x :: r => (strsOf r).map (x :: ·)
  | _ :: _ => none
theorem strsOf_map : ∀ ns : List Str, strsOf (ns.map .str) = some ns
  | [] => rfl
  | n :: r => by simp [strsOf, strsOf_map r]
theorem strsOf_eq : ∀ {ds : List D} {ns : List Str}, strsOf ds = some ns → ds = ns.map .str
  | [], ns, h => by simp [strsOf] at h; subst h; rfl
  | .str i :: r, ns, h => by
    simp only [strsOf, Option.map_eq_some_iff] at h
    obtain ⟨l, h1, rfl⟩ := h
    rw [strsOf_eq h1]; rfl
  | .none :: r, ns, h => by simp [strsOf] at h
  | .bool _ :: r, ns, h => by simp [strsOf] at h
  | .int _ :: r, ns, h => by simp [strsOf] at h
  | .list _ :: r, ns, h => by simp [strsOf] at h
  | .tuple _ :: r, ns, h => by simp [strsOf] at h
  | .dict _ :: r, ns, h => by simp [strsOf] at h
theorem dats_strs {K : PySem.W.Frag} {F : Hp} : ∀ {ns : List Str} {vs : List V}, Dats K F vs (ns.map .str) → vs = ns.map V.str
  | [], vs, h => by cases h; rfl
  | n :: ns, vs, h => by cases h with | cons a b => cases a; rw [dats_strs b]; rfl
theorem dats_ofStrs {K : PySem.W.Frag} {F : Hp} : ∀ {ns : List Str}, ns.all PyData.strOk = true → Dats K F (ns.map V.str) (ns.map .str)
  | [], _ => .nil
  | n :: ns, h => by
    rw [List.all_cons, Bool.and_eq_true] at h
    exact .cons (.str n h.1) (dats_ofStrs h.2)
def joinSem (s : Str) (xs : List D) : Option D := (strsOf xs).bind fun ys => if (ys.map (·.length)).sum + ys.length * s.length ≤ 16777216 ∧ PyData.strOk (Txt.join s ys) = true then some (.str (Txt.join s ys)) else none
def spSem : SpF → D → Option D
  | .rev, .tuple xs => some (.tuple xs.reverse)
  | .rev, .list xs => some (.list xs.reverse)
  | .rev, _ => none
  | .setLen, d => lenSetSem d
  | .setSort, d => setSortSem d
  | .zfill n, .str a => if n ≤ 1000 ∧ PyData.strOk (Txt.zfill a n) = true then some (.str (Txt.zfill a n)) else none
  | .zfill _, _ => none
  | .split s, .str a => if (s.length == 0) = false ∧ a.length ≤ 1000000 ∧ ((Txt.split a s).all PyData.strOk = true ∧ (Txt.split a s).length ≤ 16777216) then some (.list ((Txt.split a s).map .str)) else none
  | .split _, _ => none
  | .join s, .list xs => joinSem s xs
  | .join _, _ => none
  | .enumL, .tuple xs => some (.list ((List.range xs.length).zipWith (fun (i : Nat) x => PyData.tuple [.int (i : Int), x]) xs))
  | .enumL, _ => none
end Dl

set_option Elab.async false
set_option linter.all false
set_option maxRecDepth 100000
set_option maxHeartbeats 4000000
/-! the data layer, part 4: the small language and its weakest preconditions -/
namespace Dl
open PySem PySem.Spec PyProof.Rows L2

inductive Cst | non | bl (b : Bool) | int (i : Int) | str (x : Str)
def Cst.d : Cst → D
  | .non => .none | .bl b => .bool b | .int i => .int i | .str x => .str x
mutual
inductive Pat
  | name (i : Nat) (x : Str)
  | tup (ps : Pats)
inductive Pats
  | nil
  | cons (p : Pat) (r : Pats)
end
/-- of a dict: its keys sorted, whether it has a key, what stands at a key -/
inductive DxF | srt | isin (neg : Bool) | get
mutual
inductive E
  | var (i : Nat) | rd (i : Nat) | cst (c : Cst) | glob (x : Str)
  | bin (op : Operator) (a b : E) | un (op : UnaryOp) (a : E)
  | cmp (op : CmpOp) (a b : E) | chn (o p : CmpOp) (a b c : E)
  | ands (as : EL) | ors (as : EL) | not (a : E) | ite (c a b : E)
  | isi (a : E) (T : String)
  | call (f : Str) (r : Option Nat) (as : EL) (ks : List Str) (kws : EL)
  | blt (f : Blt) (as : EL)
  | idx (a i : E) | slc (a : E) (lo hi : EO)
  | tup (as : EL) | lst (as : EL)
  | lc (elt : E) (own : List (Str × Nat)) (tg : Pat) (it : It1) (cs : EL)
  | lc2 (elt : E) (own : List (Str × Nat)) (tg : Pat) (it : It1) (cs : EL) (vs1 : List Nat) (tg1 : Pat) (it1 : It1) (cs1 : EL)
  | told (e : E)
  | lrg (tu : Bool) (a b : E) | lrg1 (tu : Bool) (a : E) | lrg3 (a b c : E)
  | sp (k : SpF) (a : E)
  | dx (k : DxF) (i : Nat) (a : E)
inductive EL
  | nil
  | cons (e : E) (r : EL)
inductive EO
  | none
  | some (e : E)
inductive It1
  | of (e : E) | rng1 (a : E) | rng2 (a b : E) | rng3 (a b c : E) | enum (a : E) | zip (a b : E) | txt (e : E)
end
/-- a slot: data, a list that is owned, the row, or nothing that is known -/
inductive B | val (d : D) | own (xs : List D) | dct (kvs : List (Int × D)) | row | bad
/-- a list or a dict of the def's own -/
def B.live : B → Bool
  | .own _ => true
  | .dct _ => true
  | _ => false
abbrev Env1 := List B

structure Sig where
  ps : List Str
  row : Bool
  kws : List (List Str)
  sp : List D → (D → Prop) → (Str → Prop) → Prop
def sgOk (sg : Sig) (r : Option Nat) (ks : List Str) : Bool := (sg.row == r.isSome) && (ks.isEmpty || decide (ks ∈ sg.kws))
structure Gam where
  funs : Str → Option Sig
  cons : Str → Option D

def opt {α : Type} (o : Option α) (Q : α → Prop) : Prop := ∃ r, o = some r ∧ Q r
@[simp] theorem opt_some {α : Type} (r : α) (Q : α → Prop) : opt (some r) Q = Q r := by simp [opt]
@[simp] theorem opt_none {α : Type} (Q : α → Prop) : opt none Q = False := by simp [opt]
def valAt (ρ : Env1) (i : Nat) : Option D := match ρ[i]? with | some (.val d) => some d | _ => none
def ownAt (ρ : Env1) (i : Nat) : Option (List D) := match ρ[i]? with | some (.own d) => some d | _ => none
def dctAt (ρ : Env1) (i : Nat) : Option (List (Int × D)) := match ρ[i]? with | some (.dct d) => some d | _ => none
/-- what a dict has at a key; a key that is stored; the keys -/
def dVal (kvs : List (Int × D)) (k : Int) : Option D := (kvs.find? fun kv => decide (kv.1 = k)).map (·.2)
def dPut (kvs : List (Int × D)) (k : Int) (v : D) : List (Int × D) := if kvs.any (fun kv => decide (kv.1 = k)) then kvs.map (fun kv => if kv.1 = k then (kv.1, v) else kv) else kvs ++ [(k, v)]
def rowAt (ρ : Env1) : Option Nat → Bool
  | none => true
  | some i => match ρ[i]? with | some .row => true | _ => false
mutual
def bindP : Pat → D → Env1 → Option Env1
  | .name i _, d, ρ => some (ρ.set i (.val d))
  | .tup ps, d, ρ => match d with
    | .tuple ds => bindPs ps ds ρ
    | _ => none
def bindPs : Pats → List D → Env1 → Option Env1
  | .nil, [], ρ => some ρ
  | .cons p r, d :: ds, ρ => (bindP p d ρ).bind fun ρ' => bindPs r ds ρ'
  | _, _, _ => none
end
def wipeB (ρ : Env1) : List Nat → Env1
  | [] => ρ
  | v :: vs => (wipeB ρ vs).set v .bad
/-- a comprehension's walk: what each item gives, if anything -/
def wpL (f : D → (Option D → Prop) → Prop) : List D → (List D → Prop) → Prop
  | [], Q => Q []
  | x :: xs, Q => f x fun o => wpL f xs fun ys => Q (match o with | some y => y :: ys | none => ys)
/-- .. with a walk within -/
def wpLL (f : D → (List D → Prop) → Prop) : List D → (List D → Prop) → Prop
  | [], Q => Q []
  | x :: xs, Q => f x fun zs => wpLL f xs fun ys => Q (zs ++ ys)
def rangeL (lo : Int) (c : Int) (n : Nat) : List D := (List.range n).map fun (i : Nat) => PyData.int (lo + (i : Int) * c)
def enumL (xs : List D) : List D := (List.range xs.length).zipWith (fun (i : Nat) x => PyData.tuple [.int (i : Int), x]) xs
/-- the signs of a text -/
def signsD (x : Str) : List D := x.cps.toList.map fun c => PyData.str ⟨#[c]⟩
def zipL (xs ys : List D) : List D := List.zipWith (fun x y => PyData.tuple [x, y]) xs ys
/-- what zip walks: two lists, two tuples -/
def zipD : D → D → Option (List D × List D)
  | .list xs, .list ys => some (xs, ys)
  | .tuple xs, .tuple ys => some (xs, ys)
  | .tuple xs, .list ys => some (xs, ys)
  | _, _ => none
/-- how many turns a range has -/
def rngN (i j c : Int) : Nat := (Builtin.Range.rangeSize i j c).toNat
/-- a tuple or a list of items -/
def seqOf (tu : Bool) (xs : List D) : D := match tu with
  | true => .tuple xs
  | false => .list xs
def seqN (tu : Bool) : Str := match tu with
  | true => "tuple"
  | false => "list"
section
variable (Γ : Gam)
mutual
def wpE : E → Env1 → (D → Prop) → (Str → Prop) → Prop
  | .var i, ρ, Q, _ => opt (valAt ρ i) Q
  | .rd i, ρ, Q, _ => opt (ownAt ρ i) fun xs => xs.length ≤ 16777216 → Q (.list xs)
  | .cst c, _, Q, _ => Q c.d
  | .glob x, _, Q, _ => opt (Γ.cons x) Q
  | .bin op a b, ρ, Q, X => wpE a ρ (fun d => wpE b ρ (fun e => opt (binSem op d e) Q) X) X
  | .un op a, ρ, Q, X => wpE a ρ (fun d => opt (unSem op d) Q) X
  | .cmp op a b, ρ, Q, X => wpE a ρ (fun d => wpE b ρ (fun e => opt (cmpSem op d e) fun b => Q (.bool b)) X) X
  | .chn o p a b c, ρ, Q, X => wpE a ρ (fun d => wpE b ρ (fun e => opt (cmpSem o d e) fun k => if k = true then wpE c ρ (fun e' => opt (cmpSem p e e') fun b => Q (.bool b)) X else Q (.bool false)) X) X
  | .ands as, ρ, Q, X => wpAnds as ρ Q X
  | .ors as, ρ, Q, X => wpOrs as ρ Q X
  | .not a, ρ, Q, X => wpE a ρ (fun d => opt (truth d) fun b => Q (.bool (!b))) X
  | .ite c a b, ρ, Q, X => wpT c ρ (fun k => if k = true then wpE a ρ Q X else wpE b ρ Q X) X
  | .isi a T, ρ, Q, X => wpE a ρ (fun d => Q (.bool (isInst d T))) X
  | .call f r as ks kws, ρ, Q, X => opt (Γ.funs f) fun sg => (rowAt ρ r = true ∧ sgOk sg r ks = true) ∧ wpEs as ρ (fun ds => wpEs kws ρ (fun es => sg.sp (ds ++ es) Q X) X) X
  | .blt f as, ρ, Q, X => wpEs as ρ (fun ds => opt (bltSem f ds) Q) X
  | .idx a i, ρ, Q, X => wpE a ρ (fun d => wpE i ρ (fun e => opt (ixSem d e) Q) X) X
  | .sp k a, ρ, Q, X => wpE a ρ (fun d => opt (spSem k d) Q) X
  | .dx k i a, ρ, Q, X => match k with
    | .srt => opt (dctAt ρ i) fun kvs => kvs.length < 64 ∧ Q (.list ((sortI (kvs.map (·.1))).map .int))
    | .isin neg => wpE a ρ (fun d => match d with | .int j => opt (dctAt ρ i) fun kvs => Q (.bool ((dVal kvs j).isSome != neg)) | _ => False) X
    | .get => opt (dctAt ρ i) fun kvs => wpE a ρ (fun d => match d with | .int j => opt (dVal kvs j) Q | _ => False) X
  | .slc a lo hi, ρ, Q, X => wpE a ρ (fun d => wpO lo ρ (fun l => wpO hi ρ (fun h => opt (slSem l h d) Q) X) X) X
  | .tup as, ρ, Q, X => wpEs as ρ (fun ds => Q (.tuple ds)) X
  | .lst as, ρ, Q, X => wpEs as ρ (fun ds => Q (.list ds)) X
  | .lc elt own tg it cs, ρ, Q, X => wpI it ρ (fun items => wpL (fun x k => opt (bindP tg x (wipeB ρ (own.map (·.2)))) fun ρ' =>
      wpTAnds cs ρ' (fun b => if b = true then wpE elt ρ' (fun y => k (some y)) (fun _ => False) else k none) (fun _ => False)) items fun ys => Q (.list ys)) X
  | .lc2 elt own tg it cs vs1 tg1 it1 cs1, ρ, Q, X => wpI it ρ (fun items => items.length ≤ 4096 ∧ wpLL (fun x k => opt (bindP tg x (wipeB ρ (own.map (·.2)))) fun ρ' =>
      wpTAnds cs ρ' (fun b => if b = true then wpI it1 ρ' (fun items1 => items1.length ≤ 4096 ∧ wpL (fun x1 k1 => opt (bindP tg1 x1 (wipeB ρ' vs1)) fun ρ1 =>
        wpTAnds cs1 ρ1 (fun b1 => if b1 = true then wpE elt ρ1 (fun y => k1 (some y)) (fun _ => False) else k1 none) (fun _ => False)) items1 k) (fun _ => False) else k []) (fun _ => False)) items fun ys => Q (.list ys)) X
  | .told e, ρ, Q, _ => wpE e ρ (fun _ => Q (.str "")) fun n => Q (.str n)
  | .lrg tu a b, ρ, Q, X => wpE a ρ (fun d => wpE b ρ (fun e => match d, e with
      | .int i, .int j => (-(2 ^ 60) ≤ i ∧ i ≤ 2 ^ 60 ∧ -(2 ^ 60) ≤ j ∧ j ≤ 2 ^ 60 ∧ j - i ≤ 16777216) ∧ Q (seqOf tu (rangeL i 1 (j - i).toNat)) | _, _ => False) X) X
  | .lrg1 tu a, ρ, Q, X => wpE a ρ (fun d => match d with | .int j => (j ≤ 16777216 ∧ -(2 ^ 60) ≤ j) ∧ Q (seqOf tu (rangeL 0 1 j.toNat)) | _ => False) X
  | .lrg3 a b c, ρ, Q, X => wpE a ρ (fun d => wpE b ρ (fun e => wpE c ρ (fun g => match d, e, g with
      | .int i, .int j, .int k => RgC i j k (rngN i j k) ∧ rngN i j k ≤ 16777216 ∧ Q (.list (rangeL i k (rngN i j k))) | _, _, _ => False) X) X) X
def wpEs : EL → Env1 → (List D → Prop) → (Str → Prop) → Prop
  | .nil, _, Q, _ => Q []
  | .cons e r, ρ, Q, X => wpE e ρ (fun d => wpEs r ρ (fun ds => Q (d :: ds)) X) X
def wpAnds : EL → Env1 → (D → Prop) → (Str → Prop) → Prop
  | .nil, _, _, _ => False
  | .cons e .nil, ρ, Q, X => wpE e ρ Q X
  | .cons e r, ρ, Q, X => wpE e ρ (fun d => opt (truth d) fun b => if b = true then wpAnds r ρ Q X else Q d) X
def wpOrs : EL → Env1 → (D → Prop) → (Str → Prop) → Prop
  | .nil, _, _, _ => False
  | .cons e .nil, ρ, Q, X => wpE e ρ Q X
  | .cons e r, ρ, Q, X => wpE e ρ (fun d => opt (truth d) fun b => if b = true then Q d else wpOrs r ρ Q X) X
def wpO : EO → Env1 → (Option Int → Prop) → (Str → Prop) → Prop
  | .none, _, Q, _ => Q none
  | .some e, ρ, Q, X => wpE e ρ (fun d => match d with | .int i => Q (some i) | _ => False) X
def wpI : It1 → Env1 → (List D → Prop) → (Str → Prop) → Prop
  | .of e, ρ, Q, X => wpE e ρ (fun d => opt (seqD d) fun xs => xs.length ≤ 16777216 → Q xs) X
  | .rng1 a, ρ, Q, X => wpE a ρ (fun d => match d with | .int j => j ≤ 16777216 ∧ (-(2 ^ 60) ≤ j) ∧ Q (rangeL 0 1 j.toNat) | _ => False) X
  | .rng2 a b, ρ, Q, X => wpE a ρ (fun d => wpE b ρ (fun e => match d, e with | .int i, .int j => (-(2 ^ 60) ≤ i ∧ i ≤ 2 ^ 60 ∧ -(2 ^ 60) ≤ j ∧ j ≤ 2 ^ 60 ∧ j - i ≤ 16777216) ∧ Q (rangeL i 1 (j - i).toNat) | _, _ => False) X) X
  | .rng3 a b c, ρ, Q, X => wpE a ρ (fun d => wpE b ρ (fun e => wpE c ρ (fun g => match d, e, g with
      | .int i, .int j, .int k => RgC i j k (rngN i j k) ∧ rngN i j k ≤ 16777216 ∧ Q (rangeL i k (rngN i j k)) | _, _, _ => False) X) X) X
  | .enum a, ρ, Q, X => wpE a ρ (fun d => opt (seqD d) fun xs => xs.length ≤ 16777216 → Q (enumL xs)) X
  | .txt e, ρ, Q, X => wpE e ρ (fun d => match d with | .str x => x.length ≤ 16777216 ∧ Q (signsD x) | _ => False) X
  | .zip a b, ρ, Q, X => wpE a ρ (fun d => wpE b ρ (fun e => opt (zipD d e) fun p => p.1.length ≤ 16777216 → p.2.length ≤ 16777216 → Q (zipL p.1 p.2)) X) X
def wpT : E → Env1 → (Bool → Prop) → (Str → Prop) → Prop
  | .ands as, ρ, Q, X => wpTAnds as ρ Q X
  | .ors as, ρ, Q, X => wpTOrs as ρ Q X
  | .not a, ρ, Q, X => wpT a ρ (fun b => Q (!b)) X
  | .cmp op a b, ρ, Q, X => wpE a ρ (fun d => wpE b ρ (fun e => opt (cmpSem op d e) Q) X) X
  | .chn o p a b c, ρ, Q, X => wpE a ρ (fun d => wpE b ρ (fun e => opt (cmpSem o d e) fun k => if k = true then wpE c ρ (fun e' => opt (cmpSem p e e') Q) X else Q false) X) X
  | .var i, ρ, Q, _ => opt (valAt ρ i) fun d => opt (truth d) Q
  | .rd i, ρ, Q, _ => opt (ownAt ρ i) fun xs => Q (!xs.isEmpty)
  | .cst c, _, Q, _ => opt (truth c.d) Q
  | .isi a T, ρ, Q, X => wpE a ρ (fun d => Q (isInst d T)) X
  | .call f r as ks kws, ρ, Q, X => opt (Γ.funs f) fun sg => (rowAt ρ r = true ∧ sgOk sg r ks = true) ∧ wpEs as ρ (fun ds => wpEs kws ρ (fun es => sg.sp (ds ++ es) (fun d => opt (truth d) Q) X) X) X
  | .blt f as, ρ, Q, X => wpEs as ρ (fun ds => opt (bltSem f ds) fun d => opt (truth d) Q) X
  | .idx a i, ρ, Q, X => wpE a ρ (fun d => wpE i ρ (fun e => opt (ixSem d e) fun d => opt (truth d) Q) X) X
  | .dx k i a, ρ, Q, X => match k with
    | .isin neg => wpE a ρ (fun d => match d with | .int j => opt (dctAt ρ i) fun kvs => Q ((dVal kvs j).isSome != neg) | _ => False) X
    | _ => False
  | .slc a lo hi, ρ, Q, X => wpE a ρ (fun d => wpO lo ρ (fun l => wpO hi ρ (fun h => opt (slSem l h d) fun d => opt (truth d) Q) X) X) X
  | _, _, _, _ => False
def wpTAnds : EL → Env1 → (Bool → Prop) → (Str → Prop) → Prop
  | .nil, _, Q, _ => Q true
  | .cons e r, ρ, Q, X => wpT e ρ (fun b => if b = true then wpTAnds r ρ Q X else Q false) X
def wpTOrs : EL → Env1 → (Bool → Prop) → (Str → Prop) → Prop
  | .nil, _, Q, _ => Q false
  | .cons e r, ρ, Q, X => wpT e ρ (fun b => if b = true then Q true else wpTOrs r ρ Q X) X
end
end
def E.isRd : E → Bool
  | .rd _ => true
  | _ => false
end Dl

set_option Elab.async false
set_option linter.all false
set_option maxRecDepth 100000
set_option maxHeartbeats 4000000
/-! the data layer, part 5: states, contexts, the look at the text -/
namespace Dl
open PySem PySem.Spec PyProof.Rows L2

/-! ### states -/
/-- a dict's keys are ints, its values data -/
def KvD (K : PySem.W.Frag) (F : Hp) (vs : List (Key × V)) (kvs : List (Int × D)) : Prop := vs.map (·.1) = kvs.map (fun p => Sum.inl p.1) ∧ Dats K F (vs.map (·.2)) (kvs.map (·.2))
theorem KvD.mono {K : PySem.W.Frag} {F F' : Hp} {vs : List (Key × V)} {kvs : List (Int × D)} (h : KvD K F vs kvs) (s : Same F F') : KvD K F' vs kvs := ⟨h.1, Dats.mono s _ _ h.2⟩
def SlotOk (W : Wd) (F H : Hp) (v : Option V) : B → Prop
  | .val d => ∃ x, v = some x ∧ Dat W.K F x d
  | .own xs => ∃ a vs, v = some (.ref a) ∧ H a = some (.lst vs) ∧ F a = none ∧ a ≠ W.R ∧ Dats W.K F vs xs ∧ xs.length ≤ 16777216
  | .dct kvs => ∃ a vs, v = some (.ref a) ∧ H a = some (.dK vs) ∧ F a = none ∧ a ≠ W.R ∧ KvD W.K F vs kvs ∧ kvs.length ≤ 16777216
  | .row => v = some (.ref W.R)
  | .bad => True
structure St (W : Wd) (F : Hp) (ρ : Env1) (σ : L2.St) (H : Hp) : Prop where
  f : FOk W F H
  g : Good W H
  len : ρ.length = σ.length
  sl : ∀ (i : Nat) b v, ρ[i]? = some b → σ[i]? = some v → SlotOk W F H v b
  dj : ∀ (i j : Nat) a b c, ρ[i]? = some b → ρ[j]? = some c → b.live = true → c.live = true → σ[i]? = some (some (.ref a)) → σ[j]? = some (some (.ref a)) → i = j
section
variable {W : Wd} {F H F' H' : Hp} {ρ : Env1} {σ : L2.St}
theorem SlotOk.ext {v : Option V} {b : B} (h : SlotOk W F H v b) (e : Ext W F H F' H') : SlotOk W F' H' v b := by
  cases b with
  | val d => obtain ⟨x, h1, h2⟩ := h; exact ⟨x, h1, h2.mono e.sub⟩
  | own xs =>
    obtain ⟨a, vs, h1, h2, h3, h4, h5, h6⟩ := h
    exact ⟨a, vs, h1, e.keep _ _ h2 (fun ps z => by cases z) h4, e.fr _ _ h3 h2 (fun ps z => by cases z), h4, h5.mono e.sub, h6⟩
  | dct kvs =>
    obtain ⟨a, vs, h1, h2, h3, h4, h5, h6⟩ := h
    exact ⟨a, vs, h1, e.keep _ _ h2 (fun ps z => by cases z) h4, e.fr _ _ h3 h2 (fun ps z => by cases z), h4, h5.mono e.sub, h6⟩
  | row => exact h
  | bad => trivial
/-- what is the def's own stands at a place of its own -/
theorem SlotOk.live {v : Option V} {b : B} (h : SlotOk W F H v b) (l : b.live = true) : ∃ a o, v = some (.ref a) ∧ H a = some o ∧ nt o ∧ F a = none ∧ a ≠ W.R := by
  cases b with
  | val d => cases l
  | own xs =>
    obtain ⟨a, vs, h1, h2, h3, h4, _⟩ := h
    exact ⟨a, _, h1, h2, (fun ps z => by cases z), h3, h4⟩
  | dct kvs =>
    obtain ⟨a, vs, h1, h2, h3, h4, _⟩ := h
    exact ⟨a, _, h1, h2, (fun ps z => by cases z), h3, h4⟩
  | row => cases l
  | bad => cases l
theorem St.ext (s : St W F ρ σ H) (e : Ext W F H F' H') : St W F' ρ σ H' := ⟨e.ok, e.gd, s.len, fun i b v h1 h2 => (s.sl i b v h1 h2).ext e, s.dj⟩
theorem St.slot (s : St W F ρ σ H) {i : Nat} {b : B} (h : ρ[i]? = some b) : ∃ v, σ[i]? = some v ∧ SlotOk W F H v b := by
  have hi : i < σ.length := by rw [← s.len]; exact (List.getElem?_eq_some_iff.mp h).1
  exact ⟨σ[i], List.getElem?_eq_getElem hi, s.sl i b _ h (List.getElem?_eq_getElem hi)⟩
theorem St.val (s : St W F ρ σ H) {i : Nat} {d : D} (h : valAt ρ i = some d) : ∃ v, σ[i]? = some (some v) ∧ Dat W.K F v d := by
  unfold valAt at h
  split at h
  · rename_i e
    cases h
    obtain ⟨v, h1, x, rfl, h2⟩ := s.slot e
    exact ⟨x, h1, h2⟩
  · cases h
theorem St.own (s : St W F ρ σ H) {i : Nat} {xs : List D} (h : ownAt ρ i = some xs) : ∃ a vs, σ[i]? = some (some (.ref a)) ∧ H a = some (.lst vs) ∧ F a = none ∧ a ≠ W.R ∧ Dats W.K F vs xs ∧ xs.length ≤ 16777216 := by
  unfold ownAt at h
  split at h
  · rename_i e
    cases h
    obtain ⟨v, h1, a, vs, rfl, h2⟩ := s.slot e
    exact ⟨a, vs, h1, h2⟩
  · cases h
theorem St.dct (s : St W F ρ σ H) {i : Nat} {kvs : List (Int × D)} (h : dctAt ρ i = some kvs) : ∃ a vs, σ[i]? = some (some (.ref a)) ∧ H a = some (.dK vs) ∧ F a = none ∧ a ≠ W.R ∧ KvD W.K F vs kvs ∧ kvs.length ≤ 16777216 := by
  unfold dctAt at h
  split at h
  · rename_i e
    cases h
    obtain ⟨v, h1, a, vs, rfl, h2⟩ := s.slot e
    exact ⟨a, vs, h1, h2⟩
  · cases h
theorem St.row (s : St W F ρ σ H) {i : Nat} (h : rowAt ρ (some i) = true) : σ[i]? = some (some (.ref W.R)) := by
  unfold rowAt at h
  simp only at h
  split at h
  · rename_i e
    obtain ⟨v, h1, rfl⟩ := s.slot e
    exact h1
  · cases h
/-- a slot is given data -/
theorem St.set (s : St W F ρ σ H) {v : V} {d : D} (i : Nat) (h : Dat W.K F v d) : St W F (ρ.set i (.val d)) (σ.set i (some v)) H := by
  refine ⟨s.f, s.g, by simp [s.len], fun j b w h1 h2 => ?_, fun j k a b c h1 h2 l1 l2 h3 h4 => ?_⟩
  · by_cases hj : i = j
    · subst hj
      rw [List.getElem?_set] at h1 h2
      simp only [if_true] at h1 h2
      split at h1
      · split at h2
        · cases h1; cases h2; exact ⟨v, rfl, h⟩
        · cases h2
      · cases h1
    · rw [List.getElem?_set_ne hj] at h1 h2
      exact s.sl j b w h1 h2
  · have nj : ∀ {m z}, (ρ.set i (.val d))[m]? = some z → z.live = true → i ≠ m ∧ ρ[m]? = some z := fun {m z} q lz => by
      by_cases hm : i = m
      · subst hm
        rw [List.getElem?_set] at q
        simp only [if_true] at q
        split at q <;> cases q
        cases lz
      · rw [List.getElem?_set_ne hm] at q; exact ⟨hm, q⟩
    obtain ⟨a1, a2⟩ := nj h1 l1
    obtain ⟨b1, b2⟩ := nj h2 l2
    rw [List.getElem?_set_ne a1] at h3
    rw [List.getElem?_set_ne b1] at h4
    exact s.dj j k a b c a2 b2 l1 l2 h3 h4
/-- a slot is forgotten -/
theorem St.wipe1 (s : St W F ρ σ H) (i : Nat) (v : Option V) : St W F (ρ.set i .bad) (σ.set i v) H := by
  refine ⟨s.f, s.g, by simp [s.len], fun j b w h1 h2 => ?_, fun j k a b c h1 h2 l1 l2 h3 h4 => ?_⟩
  · by_cases hj : i = j
    · subst hj
      rw [List.getElem?_set] at h1
      simp only [if_true] at h1
      split at h1
      · cases h1; trivial
      · cases h1
    · rw [List.getElem?_set_ne hj] at h1 h2
      exact s.sl j b w h1 h2
  · have nj : ∀ {m z}, (ρ.set i .bad)[m]? = some z → z.live = true → i ≠ m ∧ ρ[m]? = some z := fun {m z} q lz => by
      by_cases hm : i = m
      · subst hm
        rw [List.getElem?_set] at q
        simp only [if_true] at q
        split at q <;> cases q
        cases lz
      · rw [List.getElem?_set_ne hm] at q; exact ⟨hm, q⟩
    obtain ⟨a1, a2⟩ := nj h1 l1
    obtain ⟨b1, b2⟩ := nj h2 l2
    rw [List.getElem?_set_ne a1] at h3
    rw [List.getElem?_set_ne b1] at h4
    exact s.dj j k a b c a2 b2 l1 l2 h3 h4
theorem St.wipe (s : St W F ρ σ H) : ∀ vs : List Nat, St W F (wipeB ρ vs) (wipe σ vs) H
  | [] => s
  | v :: vs => (St.wipe s vs).wipe1 v none
end

/-! ### exceptions, calls -/
/-- the error of an argument of this name -/
def IsX (W : Wd) (n : Str) (cls : Value) (dd : Option Addr) (H : Hp) : Prop :=
  ∃ (C d : Addr), W.mg "BadArgument" = some (.ref C) ∧ cls = .ref C ∧ dd = some d ∧ H d = some (.xd [(("name" : Str), .str n)]) ∧ PyData.strOk n = true
def spV (W : Wd) (sg : Sig) : Sp := fun vs H Q Ex => ∃ F ds ws Qd Xd, FOk W F H ∧ Good W H ∧ vs = (if sg.row then [V.ref W.R] else []) ++ ws ∧ Dats W.K F ws ds ∧ sg.sp ds Qd Xd ∧
  (∀ d v F' H', Ext W F H F' H' → Dat W.K F' v d → Qd d → Q v H') ∧ (∀ n cls dd F' H', Ext W F H F' H' → IsX W n cls dd H' → Xd n → Ex cls dd H')
def kwG {α : Type} (n : Nat) (us ws : List α) : List α := if ws.length = n then us ++ ws else []
structure FnAt (P : Program) (w : World) (K : PySem.W.Frag) (mg : Str → Option Value) (base : Heap) (k : Nat) (W : Wd) (f : Str) (sg : Sig) : Prop where
  ex : ∃ (fa : Addr) (fd : FuncData), mg f = some (.ref fa) ∧ PySem.W.keepIn K (.ref fa) = true ∧ FnOk P w K mg base (L2.CX P w) k fa fd sg.ps (spV W sg) ∧ Binds K fd sg.ps [] ∧
    ∀ ks ∈ sg.kws, KBinds K fd sg.ps ks (kwG ks.length) (kwG ks.length)
theorem FnAt.mono {P : Program} {w : World} {K : PySem.W.Frag} {mg : Str → Option Value} {base : Heap} {j k : Nat} {W : Wd} {f : Str} {sg : Sig} (h : FnAt P w K mg base j W f sg) (l : j ≤ k) : FnAt P w K mg base k W f sg := by
  obtain ⟨fa, fd, h1, h2, h3, h4, h5⟩ := h.ex
  exact ⟨fa, fd, h1, h2, h3.mono l, h4, h5⟩
def bltNames : List Str := ["len", "all", "any", "sum", "max", "min", "abs", "int", "bool", "str", "tuple", "list", "sorted", "isinstance", "range", "enumerate", "zip", "set"]
/-- what a lambda's call wants: _law_refused and the table of this def's code -/
structure LamAt (W : Wd) (X : Cx) : Prop where
  ex : ∃ (c P g CS : Addr) (pg : Arguments) (bg : List Stmt) (sg : Scope) (dV kV doc pm cdv ct oc : Value) (an od : Option Addr) (osl : Array (Option Value)),
    X.env.code = .ref c ∧ LamX.TabB X.base X.mg c P ∧ (P, X.env.qual ++ "<lambda>") ∈ W.T ∧ (∀ p ∈ W.T, p.1 = P → p.2 = X.env.qual ++ "<lambda>") ∧
    X.mg "_law_refused" = some (.ref g) ∧ PySem.W.keepIn X.K (.ref g) = true ∧ X.K.lookup g = some ⟨oc, od, .func (PySem.W.fnOf "_law_refused" "_law_refused" pg bg sg dV kV doc pm an cdv ct), osl⟩ ∧
    PySem.W.codeIn X.K cdv "_law_refused" = true ∧ L2.Binds X.K (PySem.W.fnOf "_law_refused" "_law_refused" pg bg sg dV kV doc pm an cdv ct) ["call"] [] ∧ FnScope ["call", "e"] ["call"] sg ∧
    X.mg "BadArgument" = some (.ref CS) ∧
    LamX.GivesTo X ["call", "e"] "_law_refused" sg g cdv bg "call" (X.env.qual ++ "<lambda>") (fun tl H Q => tl (fun cls dd H' => ∃ n, IsX W n cls dd H' ∧ Q (.str n) H') H (fun _ H' => Q (.str "") H'))
structure CtxOk (W : Wd) (Γ : Gam) (k : Nat) (EX : XK) (N : List Str) (sc : Scope) (l : Bool) (X : Cx) : Prop where
  hK : X.K = W.K
  hmg : X.mg = W.mg
  hN : X.N = N
  nd : N.Nodup
  hsc : X.env.scope = sc
  calm : X.calm = true
  room : Room k X.A
  roomL : l = true → Room (k + 2) X.A
  pass : Passes (L2.CX X.prog X.w) X EX
  funs : ∀ f sg, Γ.funs f = some sg → FnAt X.prog X.w X.K X.mg X.base k W f sg
  cons : ∀ x d, Γ.cons x = some d → ∃ u v, X.mg x = some u ∧ RelV v u ∧ ∀ F, Dat W.K F v d
  blt : ∀ x ∈ bltNames, X.mg x = none
  lam : l = true → LamAt W X
end Dl

set_option Elab.async false
set_option linter.all false
set_option maxRecDepth 100000
set_option maxHeartbeats 4000000
/-! the data layer, part 6: the look at the text -/
namespace Dl
open PySem PySem.Spec PyProof.Rows L2

def isStar : Expr → Bool
  | .Starred _ _ => true
  | _ => false
theorem star_ok {x : Expr} (h : isStar x = false) (es : List Expr) (env : Env) : starEach (x :: es) env = (false, eval x env) :: starEach es env := by
  cases x <;> first | rfl | cases h
def noStars (xs : List Expr) : Bool := xs.all fun x => !isStar x
theorem stars_plain {xs : List Expr} (h : noStars xs = true) (pos : Pos) (env : Env) : (backTo pos (starEach xs env)).any (·.1) = false := by
  induction xs with
  | nil => rfl
  | cons x r ih =>
    unfold noStars at h
    simp only [List.all_cons, Bool.and_eq_true, Bool.not_eq_true'] at h
    rw [star_ok h.1]
    show (false || (backTo pos (starEach r env)).any (·.1)) = false
    rw [Bool.false_or]
    exact ih (by unfold noStars; exact h.2)
/-- a test that is no special form -/
def plainTest : Expr → Bool
  | .BoolOp .. | .IfExp .. | .Compare .. => false
  | .UnaryOp .Not _ _ => false
  | _ => true
theorem plain_test {x : Expr} (h : plainTest x = true) (env : Env) : ∀ whole, isTrue x env whole = (do let v ← whole; standAt x.pos; holding [v] (truthy v)) := by
  intro whole
  cases x <;> first | rfl | (cases h; done) | skip
  rename_i op a pos
  cases op <;> first | rfl | cases h
def plainIx : Expr → Bool
  | .Slice .. => false
  | _ => true
theorem plain_ix {x : Expr} (h : plainIx x = true) : PlainIx x := by
  intro o i
  cases x <;> first | rfl | cases h
def isComp : Expr → Bool
  | .ListComp .. | .SetComp .. | .DictComp .. => true
  | _ => false
theorem no_swap {x : Expr} (h : isComp x = false) (t : Option Expr) (l : Nat) (env : Env) : swapsWith x t l env = pure false := by
  cases x <;> first | rfl | cases h
def isSetD : Expr → Bool
  | .Set .. => true
  | _ => false
theorem no_fold {x : Expr} (h : isSetD x = false) (env : Env) : ∀ v, foldedSetIterable x env v = pure v := by
  intro v
  cases x <;> first | rfl | cases h
def visB (sc : Scope) (x : Str) : Bool := match sc.names.lookup x with
  | some .local => true | some .cell => true | some .free => true | _ => false
theorem vis_of {sc : Scope} {x : Str} (h : visB sc x = true) : Vis sc x := by
  unfold visB at h
  split at h
  · exact .inl (by assumption)
  · exact .inr (.inl (by assumption))
  · exact .inr (.inr (by assumption))
  · cases h
def locB (sc : Scope) (x : Str) : Bool := match sc.names.lookup x with
  | some .local => true | some .cell => true | _ => false
theorem loc_of {sc : Scope} {x : Str} (h : locB sc x = true) : Loc sc x := by
  unfold locB at h
  split at h
  · exact .inl (by assumption)
  · exact .inr (by assumption)
  · cases h
def nameOk (x : Str) : Bool := !(x == ("__debug__" : Str)) && !(x == ("__classdict__" : Str)) && !(x == ("__name__" : Str))
def chkVar (N : List Str) (sc : Scope) (i : Nat) (x : Str) : Bool := decide (N[i]? = some x) && visB sc x && nameOk x
def chkGl (sc : Scope) (x : Str) : Bool := decide (sc.names.lookup x = some .globalImplicit) && nameOk x
def chkCst : Cst → Const → Bool
  | .non, .none => true
  | .bl b, .bool c => b == c
  | .int i, .int j => decide (i = j)
  | .str x, .str y => decide (x = y) && PyData.strOk x
  | _, _ => false
mutual
def chkP (N : List Str) (sc : Scope) (st : Str → Bool) : Pat → Expr → Bool
  | .name i x, .Name y _ => decide (x = y) && decide (N[i]? = some x) && locB sc x && st x
  | .tup ps, .Tuple xs _ _ => noStars xs && chkPs N sc st ps xs
  | _, _ => false
def chkPs (N : List Str) (sc : Scope) (st : Str → Bool) : Pats → List Expr → Bool
  | .nil, [] => true
  | .cons p r, x :: xs => chkP N sc st p x && chkPs N sc st r xs
  | _, _ => false
end
def stAll (_ : Str) : Bool := true
def stBlk (scope sc : Scope) (x : Str) : Bool := decide (scope.names.lookup x = some .cell) || decide ((relS scope sc).names.lookup x = some .local)
mutual
def Pat.slots : Pat → List Nat
  | .name i _ => [i]
  | .tup ps => ps.slots
def Pats.slots : Pats → List Nat
  | .nil => []
  | .cons p r => p.slots ++ r.slots
end
def bltIs (f : Blt) (g : Str) : Bool := decide (f.name = g)
def EL.len : EL → Nat
  | .nil => 0
  | .cons _ r => r.len + 1
def noRds : EL → Bool
  | .nil => true
  | .cons e r => !e.isRd && noRds r
def kwNames : List Keyword → Option (List Str)
  | [] => some []
  | ⟨some n, _, _⟩ :: r => (kwNames r).map (n :: ·)
  | ⟨none, _, _⟩ :: _ => none
def kwVals : List Keyword → List Expr
  | [] => []
  | ⟨_, v, _⟩ :: r => v :: kwVals r
def noParams : Arguments → Bool
  | ⟨[], [], none, [], [], none, []⟩ => true
  | _ => false
def isM1 : Expr → Bool
  | .UnaryOp .USub (.Constant (.int i) _ _) _ => decide (i = 1)
  | _ => false
/-- what may be super() -/
def isSupC : Expr → Bool
  | .Call (.Name _ _) [] [] _ => true
  | _ => false
theorem base_ok {o : Expr} (h : isSupC o = false) (name : Str) (env : Env) (whole : Sem Value) : attributeBase o name env whole = whole := by
  cases o <;> try rfl
  rename_i f as kw pos
  cases f <;> try rfl
  cases as with
  | cons _ _ => rfl
  | nil =>
    cases kw with
    | cons _ _ => rfl
    | nil => cases h
/-- the one argument of a special form -/
def spArg (k : SpF) (sc : Scope) (x : Expr) : Option Expr := match k, x with
  | .rev, .Subscript x (.Slice none none (some m) _) _ => if isM1 m = true then some x else none
  | .setLen, .Call (.Name f _) [.Call (.Name g _) [x] [] _] [] _ => if (decide (f = "len") && chkGl sc f && (decide (g = "set") && chkGl sc g && !isStar x)) = true then some x else none
  | .setSort, .Call (.Name f _) [.Call (.Name g _) [x] [] _] [] _ => if (decide (f = "sorted") && chkGl sc f && (decide (g = "set") && chkGl sc g && !isStar x)) = true then some x else none
  | .enumL, .Call (.Name f _) [.Call (.Name g _) [x] [] _] [] _ => if (decide (f = "list") && chkGl sc f && (decide (g = "enumerate") && chkGl sc g && !isStar x)) = true then some x else none
  | .zfill n, .Call (.Attribute x m ap) [.Constant (.int i) _ _] [] cp => if (decide (m = "zfill") && (decide (i = (n : Int)) && ((ap.endLine == cp.line) && !isSupC x))) = true then some x else none
  | .split s, .Call (.Attribute x m ap) [.Constant (.str t) _ _] [] cp => if (decide (m = "split") && (decide (t = s) && ((ap.endLine == cp.line) && !isSupC x))) = true then some x else none
  | .join s, .Call (.Attribute (.Constant (.str t) _ _) m ap) [x] [] cp => if (decide (m = "join") && (decide (t = s) && ((ap.endLine == cp.line) && !isStar x))) = true then some x else none
  | _, _ => none
/-- sorted of a name; in of a name; a name's item -/
def dsrtArg (sc : Scope) (x : Expr) : Option Str := match x with
  | .Call (.Name f _) [.Name y _] [] _ => if (decide (f = "sorted") && chkGl sc f) = true then some y else none
  | _ => none
def dinOp (neg : Bool) : CmpOp := match neg with
  | true => .NotIn
  | false => .In
def dinArg (neg : Bool) (x : Expr) : Option (Expr × Str) := match x with
  | .Compare a [op] [.Name y _] _ => if decide (op = dinOp neg) = true then some (a, y) else none
  | _ => none
def dgetArg (x : Expr) : Option (Str × Expr) := match x with
  | .Subscript (.Name y _) ix _ => if plainIx ix = true then some (y, ix) else none
  | _ => none
theorem dsrtArg_eq {sc : Scope} {x : Expr} {y : Str} (h : dsrtArg sc x = some y) : ∃ p p2 pos, x = .Call (.Name "sorted" p) [.Name y p2] [] pos ∧ chkGl sc "sorted" = true := by
  unfold dsrtArg at h
  split at h
  · split at h <;> cases h
    rename_i hb
    simp only [Bool.and_eq_true, decide_eq_true_eq] at hb
    obtain ⟨rfl, hb⟩ := hb
    exact ⟨_, _, _, rfl, hb⟩
  · cases h
theorem dinArg_eq {neg : Bool} {x : Expr} {a : Expr} {y : Str} (h : dinArg neg x = some (a, y)) : ∃ p pos, x = .Compare a [dinOp neg] [.Name y p] pos := by
  unfold dinArg at h
  split at h
  · split at h <;> cases h
    rename_i hb
    have := of_decide_eq_true hb
    subst this
    exact ⟨_, _, rfl⟩
  · cases h
theorem dgetArg_eq {x : Expr} {y : Str} {ix : Expr} (h : dgetArg x = some (y, ix)) : ∃ p pos, x = .Subscript (.Name y p) ix pos ∧ plainIx ix = true := by
  unfold dgetArg at h
  split at h
  · split at h <;> cases h
    rename_i hb
    exact ⟨_, _, rfl, hb⟩
  · cases h
mutual
def chkE (N : List Str) (sc : Scope) (l : Bool) : E → Expr → Bool
  | .var i, .Name x _ => chkVar N sc i x
  | .rd i, .Name x _ => chkVar N sc i x
  | .cst c, .Constant k _ _ => chkCst c k
  | .glob g, .Name x _ => decide (g = x) && chkGl sc x
  | .bin op a b, .BinOp x op' y _ => decide (op = op') && chkE N sc l a x && chkE N sc l b y
  | .un op a, .UnaryOp op' x _ => decide (op = op') && chkE N sc l a x
  | .cmp op a b, .Compare x [op'] [y] _ => decide (op = op') && !behindInMarks op y && chkE N sc l a x && chkE N sc l b y
  | .chn o p a b c, .Compare x [o', p'] [y, z] _ => decide (o = o') && decide (p = p') && !lastMarks [o, p] [y, z] && chkE N sc l a x && chkE N sc l b y && chkE N sc l c z
  | .ands as, .BoolOp .And xs _ => chkEs N sc l as xs && noRds as
  | .ors as, .BoolOp .Or xs _ => chkEs N sc l as xs && noRds as
  | .not a, .UnaryOp .Not x _ => chkE N sc l a x
  | .ite c a b, .IfExp t x y _ => chkT N sc l c t && chkE N sc l a x && chkE N sc l b y && !a.isRd && !b.isRd
  | .isi a T, .Call (.Name f _) [x, .Name t _] [] _ => decide (f = "isinstance") && chkGl sc f && decide (t = PySem.Str.ofString T) && chkGl sc t && decide (T ∈ isTys) && chkE N sc l a x && !isStar x
  | .call f r as ks kws, .Call (.Name g _) xs kw _ => decide (f = g) && !(xs.isEmpty && (kw.isEmpty || !(as.len == 0) || r.isSome)) && chkGl sc g && noRds as && noRds kws && noStars xs && decide (kwNames kw = some ks) && chkEs N sc l kws (kwVals kw) &&
      (match r, xs with
      | none, xs => chkEs N sc l as xs
      | some i, .Name x _ :: xs => chkVar N sc i x && chkEs N sc l as xs
      | _, _ => false)
  | .blt f as, .Call (.Name g _) xs [] _ => bltIs f g && chkGl sc g && noStars xs && !xs.isEmpty && chkEs N sc l as xs
  | .idx a i, .Subscript x y _ => plainIx y && chkE N sc l a x && chkE N sc l i y
  | .slc a lo hi, .Subscript x (.Slice lx hx none _) _ => chkE N sc l a x && chkO N sc l lo lx && chkO N sc l hi hx
  | .tup as, .Tuple xs _ _ => noStars xs && noRds as && decide (as.len ≤ 1000) && chkEs N sc l as xs
  | .lst as, .List xs _ => noStars xs && noRds as && decide (as.len ≤ 1000) && chkEs N sc l as xs
  | .lc elt own tg it cs, .ListComp ex [⟨tx, ix, ifs, n⟩] scope _ => decide (n = 0) && blkC N sc scope own && chkI N sc l it tx ix && !isSetD ix && chkP N (relS scope sc) (stBlk scope sc) tg tx && decide (∀ i ∈ tg.slots, i ∈ own.map (·.2)) &&
      chkTs N (relS scope sc) cs ifs && chkE N (relS scope sc) false elt ex && !elt.isRd
  | .lc2 elt own tg it cs vs1 tg1 it1 cs1, .ListComp ex [⟨tx, ix, ifs, n⟩, ⟨tx1, ix1, ifs1, n1⟩] scope _ => decide (n = 0) && decide (n1 = 0) && blkC N sc scope own && chkI N sc l it tx ix && !isSetD ix && chkP N (relS scope sc) (stBlk scope sc) tg tx && decide (∀ i ∈ tg.slots, i ∈ own.map (·.2)) &&
      chkTs N (relS scope sc) cs ifs && chkI N (relS scope sc) false it1 tx1 ix1 && !isSetD ix1 && chkP N (relS scope sc) (stBlk scope sc) tg1 tx1 && decide (∀ i ∈ tg1.slots, i ∈ vs1) && decide (∀ i ∈ vs1, i ∈ own.map (·.2)) &&
      chkTs N (relS scope sc) cs1 ifs1 && chkE N (relS scope sc) false elt ex && !elt.isRd
  | .told e, .Call (.Name f _) [.Lambda params body scope _] [] _ => l && decide (f = "_law_refused") && chkGl sc f && LamX.lamSB sc scope && noParams params && chkE N scope false e body && !e.isRd
  | .sp k a, x => (match spArg k sc x with
    | some y => chkE N sc l a y
    | none => false)
  | .dx k i a, x => (match k with
    | .srt => (match dsrtArg sc x with
      | some y => chkVar N sc i y
      | none => false)
    | .isin neg => (match dinArg neg x with
      | some (z, y) => chkE N sc l a z && chkVar N sc i y
      | none => false)
    | .get => (match dgetArg x with
      | some (y, z) => chkVar N sc i y && chkE N sc l a z
      | none => false))
  | .lrg tu a b, .Call (.Name g _) [.Call (.Name f _) [x, y] [] _] [] _ => decide (g = seqN tu) && chkGl sc g && decide (f = "range") && chkGl sc f && chkE N sc l a x && chkE N sc l b y && !isStar x && !isStar y
  | .lrg1 tu a, .Call (.Name g _) [.Call (.Name f _) [x] [] _] [] _ => decide (g = seqN tu) && chkGl sc g && decide (f = "range") && chkGl sc f && chkE N sc l a x && !isStar x
  | .lrg3 a b c, .Call (.Name g _) [.Call (.Name f _) [x, y, z] [] _] [] _ => decide (g = "list") && chkGl sc g && decide (f = "range") && chkGl sc f && chkE N sc l a x && chkE N sc l b y && chkE N sc l c z && !isStar x && !isStar y && !isStar z
  | _, _ => false
def chkT (N : List Str) (sc : Scope) (l : Bool) : E → Expr → Bool
  | .ands as, .BoolOp .And xs _ => !xs.isEmpty && chkTs2 N sc l as xs
  | .ors as, .BoolOp .Or xs _ => !xs.isEmpty && chkTs2 N sc l as xs
  | .not a, .UnaryOp .Not x _ => chkT N sc l a x
  | .cmp op a b, .Compare x [op'] [y] _ => decide (op = op') && !behindInMarks op y && chkE N sc l a x && chkE N sc l b y
  | .chn o p a b c, .Compare x [o', p'] [y, z] _ => decide (o = o') && decide (p = p') && !lastMarks [o, p] [y, z] && chkE N sc l a x && chkE N sc l b y && chkE N sc l c z
  | .var i, .Name x _ => chkVar N sc i x
  | .rd i, .Name x _ => chkVar N sc i x
  | .cst c, .Constant k _ _ => chkCst c k
  | .isi a T, .Call (.Name f _) [x, .Name t _] [] _ => decide (f = "isinstance") && chkGl sc f && decide (t = PySem.Str.ofString T) && chkGl sc t && decide (T ∈ isTys) && chkE N sc l a x && !isStar x
  | .call f r as ks kws, .Call (.Name g _) xs kw _ => decide (f = g) && !(xs.isEmpty && (kw.isEmpty || !(as.len == 0) || r.isSome)) && chkGl sc g && noRds as && noRds kws && noStars xs && decide (kwNames kw = some ks) && chkEs N sc l kws (kwVals kw) &&
      (match r, xs with
      | none, xs => chkEs N sc l as xs
      | some i, .Name x _ :: xs => chkVar N sc i x && chkEs N sc l as xs
      | _, _ => false)
  | .blt f as, .Call (.Name g _) xs [] _ => bltIs f g && chkGl sc g && noStars xs && !xs.isEmpty && chkEs N sc l as xs
  | .idx a i, .Subscript x y _ => plainIx y && chkE N sc l a x && chkE N sc l i y
  | .slc a lo hi, .Subscript x (.Slice lx hx none _) _ => chkE N sc l a x && chkO N sc l lo lx && chkO N sc l hi hx
  | .dx k i a, x => (match k with
    | .isin neg => (match dinArg neg x with
      | some (z, y) => chkE N sc l a z && chkVar N sc i y
      | none => false)
    | _ => false)
  | _, _ => false
def chkEs (N : List Str) (sc : Scope) (l : Bool) : EL → List Expr → Bool
  | .nil, [] => true
  | .cons e r, x :: xs => chkE N sc l e x && chkEs N sc l r xs
  | _, _ => false
def chkTs (N : List Str) (sc : Scope) : EL → List Expr → Bool
  | .nil, [] => true
  | .cons e .nil, [x] => chkT N sc false e x
  | _, _ => false
def chkTs2 (N : List Str) (sc : Scope) (l : Bool) : EL → List Expr → Bool
  | .nil, [] => true
  | .cons e r, x :: xs => chkT N sc l e x && chkTs2 N sc l r xs
  | _, _ => false
def chkO (N : List Str) (sc : Scope) (l : Bool) : EO → Option Expr → Bool
  | .none, none => true
  | .some e, some x => chkE N sc l e x
  | _, _ => false
def chkI (N : List Str) (sc : Scope) (l : Bool) : It1 → Expr → Expr → Bool
  | .of e, _, x => chkE N sc l e x && !e.isRd
  | .txt e, _, x => chkE N sc l e x && !e.isRd
  | .rng1 a, _, .Call (.Name f _) [x] [] _ => decide (f = "range") && chkGl sc f && chkE N sc l a x && !isStar x
  | .rng2 a b, _, .Call (.Name f _) [x, y] [] _ => decide (f = "range") && chkGl sc f && chkE N sc l a x && chkE N sc l b y && !isStar x && !isStar y
  | .rng3 a b c, _, .Call (.Name f _) [x, y, z] [] _ => decide (f = "range") && chkGl sc f && chkE N sc l a x && chkE N sc l b y && chkE N sc l c z && !isStar x && !isStar y && !isStar z
  | .enum a, .Tuple _ _ _, .Call (.Name f _) [x] [] _ => decide (f = "enumerate") && chkGl sc f && chkE N sc l a x && !isStar x && !a.isRd
  | .zip a b, .Tuple _ _ _, .Call (.Name f _) [x, y] [] _ => decide (f = "zip") && chkGl sc f && chkE N sc l a x && chkE N sc l b y && !isStar x && !isStar y && !a.isRd && !b.isRd
  | _, _, _ => false
end
end Dl

set_option Elab.async false
set_option linter.all false
set_option maxRecDepth 100000
set_option maxHeartbeats 8000000
/-! the data layer, part 7: the look is sound, for expressions -/
namespace Dl
open PySem PySem.Spec PyProof.Rows L2

def XOK (W : Wd) (EX : XK) (F H : Hp) (Xd : Str → Prop) : Prop := ∀ n cls dd F' H', Ext W F H F' H' → IsX W n cls dd H' → Xd n → EX cls dd H'
theorem XOK.ext {W : Wd} {EX : XK} {F H F' H' : Hp} {Xd : Str → Prop} (x : XOK W EX F H Xd) (e : Ext W F H F' H') : XOK W EX F' H' Xd := fun n cls dd F2 H2 e2 i h => x n cls dd F2 H2 (e.trans e2) i h
section
variable (W : Wd) (Γ : Gam) (EX : XK)
def tE (e : E) : TE := fun σ H Q => ∃ F ρ Qd Xd, St W F ρ σ H ∧ wpE Γ e ρ Qd Xd ∧ (∀ d v F' H', Ext W F H F' H' → Dat W.K F' v d → Qd d → Q v H') ∧ XOK W EX F H Xd
def tR (e : E) : TE := fun σ H Q => ∃ F ρ Qd Xd, St W F ρ σ H ∧ wpE Γ e ρ Qd Xd ∧ (∀ d v F' H', Ext W F H F' H' → Rdv W F' H' v d → Qd d → Q v H') ∧ XOK W EX F H Xd
def tZ (e : E) : TE := fun σ H Q => ∃ F ρ Qd Xd, St W F ρ σ H ∧ wpE Γ e ρ Qd Xd ∧ (∀ d F' H', Ext W F H F' H' → Qd d → Res W F' H' d Q) ∧ XOK W EX F H Xd
def tT (e : E) : TT := fun σ H Q => ∃ F ρ Qd Xd, St W F ρ σ H ∧ wpT Γ e ρ Qd Xd ∧ (∀ b F' H', Ext W F H F' H' → Qd b → Q b H') ∧ XOK W EX F H Xd
def tEs (e : EL) : TA := fun σ H Q => ∃ F ρ Qd Xd, St W F ρ σ H ∧ wpEs Γ e ρ Qd Xd ∧ (∀ ds vs F' H', Ext W F H F' H' → Dats W.K F' vs ds → ds.length = e.len → Qd ds → Q vs H') ∧ XOK W EX F H Xd
def tRs (e : EL) : TA := fun σ H Q => ∃ F ρ Qd Xd, St W F ρ σ H ∧ wpEs Γ e ρ Qd Xd ∧ (∀ ds vs F' H', Ext W F H F' H' → Rdvs W F' H' vs ds → Qd ds → Q vs H') ∧ XOK W EX F H Xd
def tOo (e : EO) : TO := fun σ H Q => ∃ F ρ Qd Xd, St W F ρ σ H ∧ wpO Γ e ρ Qd Xd ∧ (∀ o F' H', Ext W F H F' H' → Qd o → Q o H') ∧ XOK W EX F H Xd
end
/-- what a walk gives: items of data, of which each is so when it comes -/
def ItOk (W : Wd) (F : Hp) (J : It) (items : List D) : Prop :=
  ∃ (G : Hp → Prop) (Y : Nat → Hp → V → Hp → Prop), Walk J items.length G Y ∧ (∀ F' H', Same F F' → FOk W F' H' → G H') ∧
    ∀ (i : Nat) F1 H1 x H2, Same F F1 → FOk W F1 H1 → Good W H1 → i < items.length → Y i H1 x H2 → ∃ F2 d, Ext W F1 H1 F2 H2 ∧ items[i]? = some d ∧ Dat W.K F2 x d
def tIt (W : Wd) (Γ : Gam) (EX : XK) (e : It1) : TI := fun σ H R => ∃ F ρ Qd Xd, St W F ρ σ H ∧ wpI Γ e ρ Qd Xd ∧ (∀ items J F' H', Ext W F H F' H' → ItOk W F' J items → items.length ≤ 16777216 → Qd items → R J H') ∧ XOK W EX F H Xd

theorem _root_.L2.PE.impD {X : Cx} {e : Expr} {t t' : TE} (h : PE X e t) (i : ∀ σ H Q, t' σ H Q → t σ H Q) : PE X e t' := ⟨fun pins s σ H Q I q => h.run pins s σ H Q I (i _ _ _ q)⟩
theorem _root_.L2.PT.impD {X : Cx} {e : Expr} {t t' : TT} (h : PT X e t) (i : ∀ σ H Q, t' σ H Q → t σ H Q) : PT X e t' := ⟨fun pins s σ H Q I q => h.run pins s σ H Q I (i _ _ _ q)⟩
theorem _root_.L2.PW.impD {X : Cx} {e : Expr} {t t' : TT} (h : PW X e t) (i : ∀ σ H Q, t' σ H Q → t σ H Q) : PW X e t' := ⟨fun wh pins s σ H Q I q => h.run wh pins s σ H Q I (i _ _ _ q)⟩
theorem _root_.L2.PA.impD {X : Cx} {e : List Expr} {t t' : TA} (h : PA X e t) (i : ∀ σ H Q, t' σ H Q → t σ H Q) : PA X e t' := ⟨fun pos pins s σ H Q I q => h.run pos pins s σ H Q I (i _ _ _ q)⟩
theorem _root_.L2.PO.impD {X : Cx} {e : Option Expr} {t t' : TO} (h : PO X e t) (i : ∀ σ H Q, t' σ H Q → t σ H Q) : PO X e t' := ⟨fun pins s σ H Q I q => h.run pins s σ H Q I (i _ _ _ q)⟩
theorem _root_.L2.PI.impD {X : Cx} {tg e : Expr} {t t' : TI} (h : PI X tg e t) (i : ∀ σ H Q, t' σ H Q → t σ H Q) : PI X tg e t' := ⟨fun pins s σ H Q I q => h.run pins s σ H Q I (i _ _ _ q)⟩

section
variable {W : Wd} {Γ : Gam} {EX : XK} {X : Cx} {k : Nat} {N : List Str} {sc : Scope} {l : Bool}
theorem CtxOk.units (C : CtxOk W Γ k EX N sc l X) : X.A.units + 64 < cLine := C.room.units
theorem Rdv.ofDat {F H : Hp} {v : V} {d : D} (h : Dat W.K F v d) : Rdv W F H v d := .inl h
theorem Rdvs.ofDats {F H : Hp} : ∀ {vs : List V} {ds : List D}, Dats W.K F vs ds → Rdvs W F H vs ds
  | [], [], _ => .nil
  | v :: vs, d :: ds, h => by cases h with | cons a b => exact .cons (.inl a) (Rdvs.ofDats b)
  | [], _ :: _, h => by cases h
  | _ :: _, [], h => by cases h
theorem tR_of_tE {e : E} {σ : L2.St} {H : Hp} {Q : VK} (h : tR W Γ EX e σ H Q) : tE W Γ EX e σ H Q := by
  obtain ⟨F, ρ, Qd, Xd, s, w, q, x⟩ := h
  exact ⟨F, ρ, Qd, Xd, s, w, fun d v F' H' e r z => q d v F' H' e (.inl r) z, x⟩
theorem tE_of_tZ {e : E} {σ : L2.St} {H : Hp} {Q : VK} (h : tE W Γ EX e σ H Q) : tZ W Γ EX e σ H Q := by
  obtain ⟨F, ρ, Qd, Xd, s, w, q, x⟩ := h
  exact ⟨F, ρ, Qd, Xd, s, w, fun d F' H' e z => Res.of e.ok e.gd fun v F2 H2 e2 r => q d v F2 H2 (e.trans e2) r z, x⟩
theorem s_var (C : CtxOk W Γ k EX N sc l X) {i : Nat} {x : Str} {pos : Pos} (h : chkVar N sc i x = true) : PE X (.Name x pos) (tE W Γ EX (.var i)) ∧ PE X (.Name x pos) (tR W Γ EX (.rd i)) := by
  unfold chkVar nameOk at h
  simp only [Bool.and_eq_true, decide_eq_true_eq, Bool.not_eq_true'] at h
  have hp : PE X (.Name x pos) (tVar i) := pe_var (by rw [C.hN]; exact h.1.1) (by rw [C.hsc]; exact vis_of h.1.2) h.2.1.1 h.2.1.2
  refine ⟨hp.impD fun σ H Q q => ?_, hp.impD fun σ H Q q => ?_⟩
  · obtain ⟨F, ρ, Qd, Xd, s, ⟨d, h1, w⟩, q, x⟩ := q
    obtain ⟨v, e1, e2⟩ := s.val h1
    exact ⟨v, e1, q d v F H (.refl s.f s.g) e2 w⟩
  · obtain ⟨F, ρ, Qd, Xd, s, ⟨d, h1, w⟩, q, x⟩ := q
    obtain ⟨a, vs, e1, e2, e3, e4, e5, e6⟩ := s.own h1
    exact ⟨_, e1, q (.list d) _ F H (.refl s.f s.g) (.inr ⟨a, vs, d, rfl, rfl, e2, e5, e3, e4, e6⟩) (w e6)⟩
theorem cst_dat {K : PySem.W.Frag} {F : Hp} {c : Cst} {kk : Const} {j : Nat} {pos : Pos} (h : chkCst c kk = true) : ∃ v, PE X (.Constant kk j pos) (tC v) ∧ Dat K F v c.d := by
  unfold chkCst at h
  split at h
  · exact ⟨_, pe_non, .non⟩
  · have := eq_of_beq h; subst this; exact ⟨_, pe_bl, .bl _⟩
  · have := of_decide_eq_true h; subst this; exact ⟨_, pe_int, .int _⟩
  · simp only [Bool.and_eq_true, decide_eq_true_eq] at h
    obtain ⟨rfl, h⟩ := h
    exact ⟨_, pe_str, .str _ h⟩
  · cases h
theorem s_cst {c : Cst} {kk : Const} {j : Nat} {pos : Pos} (h : chkCst c kk = true) : PE X (.Constant kk j pos) (tE W Γ EX (.cst c)) := by
  refine ⟨fun pins s σ H Q I q => ?_⟩
  obtain ⟨F, ρ, Qd, Xd, s', w, q, x⟩ := q
  obtain ⟨v, hp, hd⟩ := cst_dat (X := X) (K := W.K) (F := F) (j := j) (pos := pos) h
  exact hp.run pins s σ H Q I (q _ v F H (.refl s'.f s'.g) hd w)
theorem gl_of (C : CtxOk W Γ k EX N sc l X) {x : Str} (h : chkGl sc x = true) : Gl X x ∧ (x == ("__debug__" : Str)) = false ∧ x ≠ "__name__" := by
  unfold chkGl nameOk at h
  simp only [Bool.and_eq_true, decide_eq_true_eq, Bool.not_eq_true', beq_eq_false_iff_ne] at h
  refine ⟨?_, by simpa using h.2.1.1, h.2.2⟩
  unfold Gl Env.kindOf
  rw [C.hsc]
  exact h.1
theorem s_glob (C : CtxOk W Γ k EX N sc l X) {x : Str} {pos : Pos} (h : chkGl sc x = true) : PE X (.Name x pos) (tE W Γ EX (.glob x)) := by
  obtain ⟨g, d, _⟩ := gl_of C h
  refine ⟨fun pins s σ H Q I q => ?_⟩
  obtain ⟨F, ρ, Qd, Xd, s', ⟨c, h1, w⟩, q, x⟩ := q
  obtain ⟨u, v, h2, h3, h4⟩ := C.cons _ c h1
  exact (pe_glob (pos := pos) g h2 h3 d).run pins s σ H Q I (q c v F H (.refl s'.f s'.g) (h4 F) w)
/-- two in a row -/
theorem two {a b : E} {σ : L2.St} {H : Hp} {F : Hp} {ρ : Env1} {Xd : Str → Prop} {P : D → D → Prop} {R : V → V → Hp → Prop} (s : St W F ρ σ H) (w : wpE Γ a ρ (fun d => wpE Γ b ρ (fun e => P d e) Xd) Xd)
    (x : XOK W EX F H Xd) (q : ∀ d e v u F' H', Ext W F H F' H' → Rdv W F' H' v d → Rdv W F' H' u e → P d e → R v u H') :
    tR W Γ EX a σ H fun v H1 => tR W Γ EX b σ H1 fun u H2 => R v u H2 := by
  refine ⟨F, ρ, _, Xd, s, w, fun d v F' H' e r w' => ?_, x⟩
  exact ⟨F', ρ, _, Xd, s.ext e, w', fun d' u F2 H2 e2 r2 p => q d d' v u F2 H2 (e.trans e2) (r.ext e2) r2 p, x.ext e⟩
theorem s_bin (C : CtxOk W Γ k EX N sc l X) {op : Operator} {a b : E} {x y : Expr} {pos : Pos} (ha : PE X x (tR W Γ EX a)) (hb : PE X y (tR W Γ EX b)) : PE X (.BinOp x op y pos) (tZ W Γ EX (.bin op a b)) := by
  refine (pe_op (op_bin C.hK op) ha hb).impD fun σ H Q q => ?_
  obtain ⟨F, ρ, Qd, Xd, s, w, q, x⟩ := q
  exact two s w x fun d e v u F' H' e1 r1 r2 ⟨r, h1, h2⟩ => ⟨F', d, e, r, e1.ok, e1.gd, r1, r2, h1, q r F' H' e1 h2⟩
theorem s_un {op : UnaryOp} {a : E} {x : Expr} {pos : Pos} (ha : PE X x (tR W Γ EX a)) : PE X (.UnaryOp op x pos) (tE W Γ EX (.un op a)) := by
  refine (pe_un (un_D (W := W) op) ha).impD fun σ H Q q => ?_
  obtain ⟨F, ρ, Qd, Xd, s, w, q, x⟩ := q
  exact ⟨F, ρ, _, Xd, s, w, fun d v F' H' e r ⟨r', h1, h2⟩ => ⟨F', d, r', e.ok, e.gd, r, h1, Res.of e.ok e.gd fun v' F2 H2 e2 r2 => q r' v' F2 H2 (e.trans e2) r2 h2⟩, x⟩
theorem s_cmp (C : CtxOk W Γ k EX N sc l X) {op : CmpOp} {a b : E} {x y : Expr} {pos : Pos} (ha : PE X x (tR W Γ EX a)) (hb : PE X y (tR W Γ EX b)) (hm : behindInMarks op y = false) :
    PE X (.Compare x [op] [y] pos) (tE W Γ EX (.cmp op a b)) ∧ PT X (.Compare x [op] [y] pos) (tT W Γ EX (.cmp op a b)) := by
  refine ⟨(pe_cmpR (op_cmp C.hK C.units op) ha hb hm).impD fun σ H Q q => ?_, (pt_cmpR (op_cmp C.hK C.units op) ha hb hm).impD fun σ H Q q => ?_⟩
  · obtain ⟨F, ρ, Qd, Xd, s, w, q, x⟩ := q
    exact two s w x fun d e v u F' H' e1 r1 r2 ⟨r, h1, h2⟩ => ⟨F', d, e, .bool r, e1.ok, e1.gd, r1, r2, by unfold cmpSemD; rw [h1]; rfl, Res.of e1.ok e1.gd fun v' F2 H2 e2 r2 => q _ v' F2 H2 (e1.trans e2) r2 h2⟩
  · obtain ⟨F, ρ, Qd, Xd, s, w, q, x⟩ := q
    exact two s w x fun d e v u F' H' e1 r1 r2 ⟨r, h1, h2⟩ => ⟨F', d, e, .bool r, e1.ok, e1.gd, r1, r2, by unfold cmpSemD; rw [h1]; rfl, Res.of e1.ok e1.gd fun v' F2 H2 e2 r2 => by
      cases r2
      exact ⟨r, rfl, q r F2 H2 (e1.trans e2) h2⟩⟩
theorem s_chn (C : CtxOk W Γ k EX N sc l X) {o p : CmpOp} {a b c : E} {x y z : Expr} {pos : Pos} (ha : PE X x (tR W Γ EX a)) (hb : PE X y (tR W Γ EX b)) (hc : PE X z (tR W Γ EX c)) (hm : lastMarks [o, p] [y, z] = false) :
    PE X (.Compare x [o, p] [y, z] pos) (tE W Γ EX (.chn o p a b c)) ∧ PT X (.Compare x [o, p] [y, z] pos) (tT W Γ EX (.chn o p a b c)) := by
  refine ⟨(pe_chain (op_cmp C.hK C.units o) (op_cmp C.hK C.units p) ha hb hc hm).impD fun σ H Q q => ?_, (pt_chain (op_cmp C.hK C.units o) (op_cmp C.hK C.units p) ha hb hc hm).impD fun σ H Q q => ?_⟩
  · obtain ⟨F, ρ, Qd, Xd, s, w, q, x⟩ := q
    refine two s w x fun d e v u F' H' e1 r1 r2 ⟨r, h1, h2⟩ => ⟨F', d, e, .bool r, e1.ok, e1.gd, r1, r2, by unfold cmpSemD; rw [h1]; rfl, Res.of e1.ok e1.gd fun v' F2 H2 e2 rv => ?_⟩
    cases rv
    refine ⟨r, rfl, ?_⟩
    cases r with
    | false =>
      rw [if_neg Bool.false_ne_true] at h2 ⊢
      exact q _ _ F2 H2 (e1.trans e2) (.bl false) h2
    | true =>
      rw [if_pos rfl] at h2 ⊢
      exact ⟨F2, ρ, _, Xd, s.ext (e1.trans e2), h2, fun d3 v3 F3 H3 e3 r3 ⟨b3, h3, w3⟩ => ⟨F3, e, d3, .bool b3, e3.ok, e3.gd, (r2.ext e2).ext e3, r3, by unfold cmpSemD; rw [h3]; rfl, Res.of e3.ok e3.gd fun v' F4 H4 e4 r4 => q _ v' F4 H4 ((e1.trans e2).trans (e3.trans e4)) r4 w3⟩, x.ext (e1.trans e2)⟩
  · obtain ⟨F, ρ, Qd, Xd, s, w, q, x⟩ := q
    refine two s w x fun d e v u F' H' e1 r1 r2 ⟨r, h1, h2⟩ => ⟨F', d, e, .bool r, e1.ok, e1.gd, r1, r2, by unfold cmpSemD; rw [h1]; rfl, Res.of e1.ok e1.gd fun v' F2 H2 e2 rv => ?_⟩
    cases rv
    refine ⟨r, rfl, ?_⟩
    cases r with
    | false =>
      rw [if_neg Bool.false_ne_true] at h2 ⊢
      exact ⟨_, rfl, q _ F2 H2 (e1.trans e2) h2⟩
    | true =>
      rw [if_pos rfl] at h2 ⊢
      refine ⟨F2, ρ, _, Xd, s.ext (e1.trans e2), h2, fun d3 v3 F3 H3 e3 r3 ⟨b3, h3, w3⟩ => ⟨F3, e, d3, .bool b3, e3.ok, e3.gd, (r2.ext e2).ext e3, r3, by unfold cmpSemD; rw [h3]; rfl, Res.of e3.ok e3.gd fun v' F4 H4 e4 r4 => ?_⟩, x.ext (e1.trans e2)⟩
      cases r4
      exact ⟨_, rfl, q _ F4 H4 ((e1.trans e2).trans (e3.trans e4)) w3⟩
theorem s_not (C : CtxOk W Γ k EX N sc l X) {a : E} {x : Expr} {pos : Pos} (ha : PE X x (tR W Γ EX a)) : PE X (.UnaryOp .Not x pos) (tE W Γ EX (.not a)) := by
  refine (pe_notT ha).impD fun σ H Q q => ?_
  obtain ⟨F, ρ, Qd, Xd, s, w, q, x⟩ := q
  exact ⟨F, ρ, _, Xd, s, w, fun d v F' H' e r ⟨b, h1, h2⟩ => ⟨b, r.truth C.hK e.ok h1, q _ _ F' H' e (.bl _) h2⟩, x⟩
theorem t_not {a : E} {x : Expr} {pos : Pos} (ha : PT X x (tT W Γ EX a)) : PT X (.UnaryOp .Not x pos) (tT W Γ EX (.not a)) := by
  refine (pt_not ha).impD fun σ H Q q => ?_
  obtain ⟨F, ρ, Qd, Xd, s, w, q, x⟩ := q
  exact ⟨F, ρ, _, Xd, s, w, fun b F' H' e h => q _ F' H' e h, x⟩
theorem s_ite {c a b : E} {z x y : Expr} {pos : Pos} (hc : PT X z (tT W Γ EX c)) (ha : PE X x (tE W Γ EX a)) (hb : PE X y (tE W Γ EX b)) : PE X (.IfExp z x y pos) (tE W Γ EX (.ite c a b)) := by
  refine (pe_ifExp hc ha hb).impD fun σ H Q q => ?_
  obtain ⟨F, ρ, Qd, Xd, s, w, q, x⟩ := q
  refine ⟨F, ρ, _, Xd, s, w, fun b F' H' e h => ?_, x⟩
  cases b with
  | true =>
    rw [if_pos rfl] at h ⊢
    exact ⟨F', ρ, Qd, Xd, s.ext e, h, fun d v F2 H2 e2 r z => q d v F2 H2 (e.trans e2) r z, x.ext e⟩
  | false =>
    rw [if_neg Bool.false_ne_true] at h ⊢
    exact ⟨F', ρ, Qd, Xd, s.ext e, h, fun d v F2 H2 e2 r z => q d v F2 H2 (e.trans e2) r z, x.ext e⟩
/-- any expression as a test, by its truth -/
theorem t_truth (C : CtxOk W Γ k EX N sc l X) {e : E} {x : Expr} (hp : plainTest x = true) (ha : PE X x (tR W Γ EX e)) :
    PT X x (fun σ H Q => ∃ F ρ Qd Xd, St W F ρ σ H ∧ wpE Γ e ρ (fun d => opt (truth d) Qd) Xd ∧ (∀ b F' H', Ext W F H F' H' → Qd b → Q b H') ∧ XOK W EX F H Xd) := by
  refine (pt_truth ha (plain_test hp X.env)).impD fun σ H Q q => ?_
  obtain ⟨F, ρ, Qd, Xd, s, w, q, x⟩ := q
  exact ⟨F, ρ, _, Xd, s, w, fun d v F' H' e r ⟨b, h1, h2⟩ => ⟨b, r.truth C.hK e.ok h1, q b F' H' e h2⟩, x⟩
end
end Dl

set_option Elab.async false
set_option linter.all false
set_option maxRecDepth 100000
set_option maxHeartbeats 8000000
/-! the data layer, part 8: the look is sound, for expressions (calls, displays, walks) -/
namespace Dl
open PySem PySem.Spec PyProof.Rows L2
section
variable {W : Wd} {Γ : Gam} {EX : XK} {X : Cx} {k : Nat} {N : List Str} {sc : Scope} {l : Bool}

/-! ### lists of expressions -/
theorem s_nil : PA X [] (tEs W Γ EX .nil) ∧ PA X [] (tRs W Γ EX .nil) := by
  refine ⟨pa_nil.impD fun σ H Q q => ?_, pa_nil.impD fun σ H Q q => ?_⟩
  · obtain ⟨F, ρ, Qd, Xd, s, w, q, x⟩ := q
    exact q _ _ F H (.refl s.f s.g) .nil rfl w
  · obtain ⟨F, ρ, Qd, Xd, s, w, q, x⟩ := q
    exact q _ _ F H (.refl s.f s.g) .nil w
theorem s_cons {e : E} {r : EL} {x : Expr} {xs : List Expr} (hs : isStar x = false) (ha : PE X x (tE W Γ EX e)) (hr : PA X xs (tEs W Γ EX r)) : PA X (x :: xs) (tEs W Γ EX (.cons e r)) := by
  refine (pa_cons ha hr (star_ok hs xs X.env)).impD fun σ H Q q => ?_
  obtain ⟨F, ρ, Qd, Xd, s, w, q, x⟩ := q
  refine ⟨F, ρ, _, Xd, s, w, fun d v F' H' e1 r1 w1 => ?_, x⟩
  exact ⟨F', ρ, _, Xd, s.ext e1, w1, fun ds vs F2 H2 e2 r2 l2 w2 => q _ _ F2 H2 (e1.trans e2) (.cons (r1.mono e2.sub) r2) (by simp [EL.len, l2]) w2, x.ext e1⟩
theorem s_consR {e : E} {r : EL} {x : Expr} {xs : List Expr} (hs : isStar x = false) (ha : PE X x (tR W Γ EX e)) (hr : PA X xs (tRs W Γ EX r)) : PA X (x :: xs) (tRs W Γ EX (.cons e r)) := by
  refine (pa_cons ha hr (star_ok hs xs X.env)).impD fun σ H Q q => ?_
  obtain ⟨F, ρ, Qd, Xd, s, w, q, x⟩ := q
  refine ⟨F, ρ, _, Xd, s, w, fun d v F' H' e1 r1 w1 => ?_, x⟩
  exact ⟨F', ρ, _, Xd, s.ext e1, w1, fun ds vs F2 H2 e2 r2 w2 => q _ _ F2 H2 (e1.trans e2) (.cons (r1.ext e2) r2) w2, x.ext e1⟩
/-! ### displays -/
theorem s_tup {as : EL} {xs : List Expr} {j : Nat} {pos : Pos} (hl : as.len ≤ 1000) (h : PA X xs (tEs W Γ EX as)) : PE X (.Tuple xs j pos) (tZ W Γ EX (.tup as)) := by
  refine (pe_tup h).impD fun σ H Q q => ?_
  obtain ⟨F, ρ, Qd, Xd, s, w, q, x⟩ := q
  refine ⟨F, ρ, _, Xd, s, w, fun ds vs F' H' e1 r1 w0 w1 => ⟨?_, fun p n => ?_⟩, x⟩
  · rw [r1.length, w0, sizeLine_eq]; omega
  · exact (q _ F' H' e1 w1).tup e1.ok e1.gd n r1 (by omega)
theorem s_lst {as : EL} {xs : List Expr} {pos : Pos} (hl : as.len ≤ 1000) (h : PA X xs (tEs W Γ EX as)) : PE X (.List xs pos) (tZ W Γ EX (.lst as)) := by
  refine (pe_lst h).impD fun σ H Q q => ?_
  obtain ⟨F, ρ, Qd, Xd, s, w, q, x⟩ := q
  refine ⟨F, ρ, _, Xd, s, w, fun ds vs F' H' e1 r1 w0 w1 => ⟨?_, fun p n => ?_⟩, x⟩
  · rw [r1.length, w0, sizeLine_eq]; omega
  · exact (q _ F' H' e1 w1) p vs n r1 (by omega)
/-! ### and, or as values -/
theorem s_and1 {op : BoolOp} {e : E} {x : Expr} {pos : Pos} (hx : PE X x (tE W Γ EX e)) : PE X (.BoolOp .And [x] pos) (tE W Γ EX (.ands (.cons e .nil))) ∧ PE X (.BoolOp .Or [x] pos) (tE W Γ EX (.ors (.cons e .nil))) := by
  exact ⟨(pe_one hx).impD fun σ H Q q => q, (pe_one hx).impD fun σ H Q q => q⟩
theorem s_and (C : CtxOk W Γ k EX N sc l X) {e e2 : E} {r : EL} {x y : Expr} {xs : List Expr} {pos : Pos} (hx : PE X x (tE W Γ EX e)) (hr : PE X (.BoolOp .And (y :: xs) pos) (tE W Γ EX (.ands (.cons e2 r)))) :
    PE X (.BoolOp .And (x :: y :: xs) pos) (tE W Γ EX (.ands (.cons e (.cons e2 r)))) := by
  refine (pe_andT hx hr).impD fun σ H Q q => ?_
  obtain ⟨F, ρ, Qd, Xd, s, w, q, x⟩ := q
  refine ⟨F, ρ, _, Xd, s, w, fun d v F' H' e1 r1 ⟨b, h1, h2⟩ => ⟨b, (Rdv.ofDat r1).truth C.hK e1.ok h1, ?_⟩, x⟩
  cases b with
  | true =>
    rw [if_pos rfl] at h2 ⊢
    exact ⟨F', ρ, Qd, Xd, s.ext e1, h2, fun d v F2 H2 e2 r z => q d v F2 H2 (e1.trans e2) r z, x.ext e1⟩
  | false =>
    rw [if_neg Bool.false_ne_true] at h2 ⊢
    exact q d v F' H' e1 r1 h2
theorem s_or (C : CtxOk W Γ k EX N sc l X) {e e2 : E} {r : EL} {x y : Expr} {xs : List Expr} {pos : Pos} (hx : PE X x (tE W Γ EX e)) (hr : PE X (.BoolOp .Or (y :: xs) pos) (tE W Γ EX (.ors (.cons e2 r)))) :
    PE X (.BoolOp .Or (x :: y :: xs) pos) (tE W Γ EX (.ors (.cons e (.cons e2 r)))) := by
  refine (pe_orT hx hr).impD fun σ H Q q => ?_
  obtain ⟨F, ρ, Qd, Xd, s, w, q, x⟩ := q
  refine ⟨F, ρ, _, Xd, s, w, fun d v F' H' e1 r1 ⟨b, h1, h2⟩ => ⟨b, (Rdv.ofDat r1).truth C.hK e1.ok h1, ?_⟩, x⟩
  cases b with
  | true =>
    rw [if_pos rfl] at h2 ⊢
    exact q d v F' H' e1 r1 h2
  | false =>
    rw [if_neg Bool.false_ne_true] at h2 ⊢
    exact ⟨F', ρ, Qd, Xd, s.ext e1, h2, fun d v F2 H2 e2 r z => q d v F2 H2 (e1.trans e2) r z, x.ext e1⟩
/-! ### .. as tests -/
theorem t_and1 {e : E} {x : Expr} {pos : Pos} (hx : PT X x (tT W Γ EX e)) : PW X (.BoolOp .And [x] pos) (tT W Γ EX (.ands (.cons e .nil))) := by
  refine (pw_and1 hx).impD fun σ H Q q => ?_
  obtain ⟨F, ρ, Qd, Xd, s, w, q, x⟩ := q
  refine ⟨F, ρ, _, Xd, s, w, fun b F' H' e1 h => ?_, x⟩
  cases b with
  | true => exact q _ F' H' e1 h
  | false => exact q _ F' H' e1 h
theorem t_or1 {e : E} {x : Expr} {pos : Pos} (hx : PT X x (tT W Γ EX e)) : PW X (.BoolOp .Or [x] pos) (tT W Γ EX (.ors (.cons e .nil))) := by
  refine (pw_or1 hx).impD fun σ H Q q => ?_
  obtain ⟨F, ρ, Qd, Xd, s, w, q, x⟩ := q
  refine ⟨F, ρ, _, Xd, s, w, fun b F' H' e1 h => ?_, x⟩
  cases b with
  | true => exact q _ F' H' e1 h
  | false => exact q _ F' H' e1 h
theorem t_and {e e2 : E} {r : EL} {x y : Expr} {xs : List Expr} {pos : Pos} (hx : PT X x (tT W Γ EX e)) (hr : PW X (.BoolOp .And (y :: xs) pos) (tT W Γ EX (.ands (.cons e2 r)))) :
    PW X (.BoolOp .And (x :: y :: xs) pos) (tT W Γ EX (.ands (.cons e (.cons e2 r)))) := by
  refine (pw_and hx hr).impD fun σ H Q q => ?_
  obtain ⟨F, ρ, Qd, Xd, s, w, q, x⟩ := q
  refine ⟨F, ρ, _, Xd, s, w, fun b F' H' e1 h => ?_, x⟩
  cases b with
  | true =>
    rw [if_pos rfl] at h ⊢
    exact ⟨F', ρ, Qd, Xd, s.ext e1, h, fun b F2 H2 e2 z => q b F2 H2 (e1.trans e2) z, x.ext e1⟩
  | false =>
    rw [if_neg Bool.false_ne_true] at h ⊢
    exact q _ F' H' e1 h
theorem t_or {e e2 : E} {r : EL} {x y : Expr} {xs : List Expr} {pos : Pos} (hx : PT X x (tT W Γ EX e)) (hr : PW X (.BoolOp .Or (y :: xs) pos) (tT W Γ EX (.ors (.cons e2 r)))) :
    PW X (.BoolOp .Or (x :: y :: xs) pos) (tT W Γ EX (.ors (.cons e (.cons e2 r)))) := by
  refine (pw_or hx hr).impD fun σ H Q q => ?_
  obtain ⟨F, ρ, Qd, Xd, s, w, q, x⟩ := q
  refine ⟨F, ρ, _, Xd, s, w, fun b F' H' e1 h => ?_, x⟩
  cases b with
  | true =>
    rw [if_pos rfl] at h ⊢
    exact q _ F' H' e1 h
  | false =>
    rw [if_neg Bool.false_ne_true] at h ⊢
    exact ⟨F', ρ, Qd, Xd, s.ext e1, h, fun b F2 H2 e2 z => q b F2 H2 (e1.trans e2) z, x.ext e1⟩
/-! ### subscripts -/
theorem s_idx (C : CtxOk W Γ k EX N sc l X) {a i : E} {x y : Expr} {pos : Pos} (hi : plainIx y = true) (ha : PE X x (tR W Γ EX a)) (hb : PE X y (tR W Γ EX i)) : PE X (.Subscript x y pos) (tE W Γ EX (.idx a i)) := by
  refine (pe_ix (ix_D C.hK) ha hb (plain_ix hi)).impD fun σ H Q q => ?_
  obtain ⟨F, ρ, Qd, Xd, s, w, q, x⟩ := q
  exact two s w x fun d e v u F' H' e1 r1 r2 ⟨r, h1, h2⟩ => ⟨F', d, e, r, e1.ok, e1.gd, r1, r2, h1, fun v' F2 H2 e2 r2 => q r v' F2 H2 (e1.trans e2) r2 h2⟩
theorem o_none : PO X none (tOo W Γ EX .none) := by
  refine po_none.impD fun σ H Q q => ?_
  obtain ⟨F, ρ, Qd, Xd, s, w, q, x⟩ := q
  exact q _ F H (.refl s.f s.g) w
theorem o_some {e : E} {x : Expr} (h : PE X x (tR W Γ EX e)) : PO X (some x) (tOo W Γ EX (.some e)) := by
  refine (po_some h).impD fun σ H Q q => ?_
  obtain ⟨F, ρ, Qd, Xd, s, w, q, x⟩ := q
  refine ⟨F, ρ, _, Xd, s, w, fun d v F' H' e1 r1 w1 => ?_, x⟩
  cases d with
  | int i => cases r1.int; exact ⟨i, rfl, q _ F' H' e1 w1⟩
  | none => cases w1
  | bool _ => cases w1
  | str _ => cases w1
  | list _ => cases w1
  | tuple _ => cases w1
  | dict _ => cases w1
theorem s_slc (C : CtxOk W Γ k EX N sc l X) {a : E} {lo hi : EO} {x : Expr} {lx hx : Option Expr} {p2 pos : Pos} (ha : PE X x (tR W Γ EX a)) (hl : PO X lx (tOo W Γ EX lo)) (hh : PO X hx (tOo W Γ EX hi)) :
    PE X (.Subscript x (.Slice lx hx none p2) pos) (tZ W Γ EX (.slc a lo hi)) := by
  refine (pe_slice (sl_D C.hK) ha hl hh).impD fun σ H Q q => ?_
  obtain ⟨F, ρ, Qd, Xd, s, w, q, x⟩ := q
  refine ⟨F, ρ, _, Xd, s, w, fun d v F' H' e1 r1 w1 => ?_, x⟩
  refine ⟨F', ρ, _, Xd, s.ext e1, w1, fun o F2 H2 e2 w2 => ?_, x.ext e1⟩
  exact ⟨F2, ρ, _, Xd, s.ext (e1.trans e2), w2, fun o2 F3 H3 e3 ⟨r, h1, h2⟩ => ⟨F3, d, r, e3.ok, e3.gd, (r1.ext e2).ext e3, h1, q r F3 H3 ((e1.trans e2).trans e3) h2⟩, x.ext (e1.trans e2)⟩
/-! ### calls of built-in functions -/
theorem s_blt (C : CtxOk W Γ k EX N sc l X) {f : Blt} {g : Str} {as : EL} {xs : List Expr} {p pos : Pos} (hf : bltIs f g = true) (hg : chkGl sc g = true) (hs : noStars xs = true) (hne : xs ≠ []) (ha : PA X xs (tRs W Γ EX as)) :
    PE X (.Call (.Name g p) xs [] pos) (tZ W Γ EX (.blt f as)) := by
  have eg : f.name = g := of_decide_eq_true hf
  obtain ⟨h1, h2, h3⟩ := gl_of C hg
  have hm : X.mg g = none := C.blt g (by rw [← eg]; cases f <;> decide)
  cases xs with
  | nil => exact absurd rfl hne
  | cons y ys =>
    unfold noStars at hs
    simp only [List.all_cons, Bool.and_eq_true, Bool.not_eq_true'] at hs
    have hst := star_ok hs.1 ys X.env
    have hpl := stars_plain (xs := ys) hs.2 pos X.env
    have hc := call_D (W := W) C.calm C.hK C.units f
    have key : PE X (.Call (.Name g p) (y :: ys) [] pos) (fun σ H Q => tRs W Γ EX as σ H fun vs H1 => rBlt W (bltSem f) vs H1 Q) := by
      subst eg
      by_cases ht : f.isTy = true
      · have hc' : CallR X (.type f.id) (rBlt W (bltSem f)) := by
          unfold Blt.val at hc; rw [if_pos ht] at hc; exact hc
        exact pe_callTy hc' h1 hm (by cases f <;> first | (cases ht; done) | decide +kernel) ha h3 h2 hst hpl
      · have hc' : CallR X (.builtin f.id) (rBlt W (bltSem f)) := by
          unfold Blt.val at hc; rw [if_neg ht] at hc; exact hc
        exact pe_callB hc' h1 hm (by cases f <;> first | exact absurd rfl ht | decide +kernel) ha h3 h2 hst hpl
    refine key.impD fun σ H Q q => ?_
    obtain ⟨F, ρ, Qd, Xd, s, w, q, x⟩ := q
    exact ⟨F, ρ, _, Xd, s, w, fun ds vs F' H' e1 r1 ⟨r, h1, h2⟩ => ⟨F', ds, r, e1.ok, e1.gd, r1, h1, q r F' H' e1 h2⟩, x⟩
theorem s_isi (C : CtxOk W Γ k EX N sc l X) {a : E} {T : String} {f t : Str} {x : Expr} {p p2 pos : Pos} (hf : f = "isinstance") (hg : chkGl sc f = true) (ht : t = PySem.Str.ofString T) (hgt : chkGl sc t = true) (hT : T ∈ isTys) (hs : isStar x = false)
    (ha : PE X x (tR W Γ EX a)) : PE X (.Call (.Name f p) [x, .Name t p2] [] pos) (tE W Γ EX (.isi a T)) := by
  obtain ⟨h1, h2, h3⟩ := gl_of C hg
  obtain ⟨g1, g2, g3⟩ := gl_of C hgt
  have hm : X.mg f = none := C.blt f (by rw [hf]; decide)
  have hbt : ∀ T ∈ isTys, PySem.Str.ofString T ∈ bltNames ∧ bootBuiltins (PySem.Str.ofString T) = some (.type T) := by decide +kernel
  have hmt : X.mg t = none := C.blt t (by rw [ht]; exact (hbt T hT).1)
  have pt : PE X (.Name t p2) (tC (.ty T)) := pe_bltn g1 hmt (by rw [ht]; exact (hbt T hT).2) rfl g3 g2
  have key := pe_callB (pos := pos) (p := p) (call_isi1 (W := W) C.hK T) h1 hm (by rw [hf]; decide +kernel) (pa_cons ha (pa_cons pt pa_nil rfl) (star_ok hs _ X.env)) h3 h2 (star_ok hs _ X.env) (by rfl)
  refine key.impD fun σ H Q q => ?_
  obtain ⟨F, ρ, Qd, Xd, s, w, q, x⟩ := q
  exact ⟨F, ρ, _, Xd, s, w, fun d v F' H' e1 r1 w1 => ⟨F', v, d, rfl, e1.ok, r1, hT, q _ _ F' H' e1 (.bl _) w1⟩, x⟩
end
end Dl

set_option Elab.async false
set_option linter.all false
set_option maxRecDepth 100000
set_option maxHeartbeats 8000000
/-! the data layer, part 9: calls of defs, walks, comprehensions -/
namespace Dl
open PySem PySem.Spec PyProof.Rows L2
section
variable {W : Wd} {Γ : Gam} {EX : XK} {X : Cx} {k : Nat} {N : List Str} {sc : Scope} {l : Bool}

/-! ### calls of defs -/
def rowV (W : Wd) (r : Option Nat) : List V := if r.isSome then [V.ref W.R] else []
def tAs (W : Wd) (Γ : Gam) (EX : XK) (r : Option Nat) (e : EL) : TA := fun σ H Q => ∃ F ρ Qd Xd, St W F ρ σ H ∧ rowAt ρ r = true ∧ wpEs Γ e ρ Qd Xd ∧ (∀ ds vs F' H', Ext W F H F' H' → Dats W.K F' vs ds → ds.length = e.len → Qd ds → Q (rowV W r ++ vs) H') ∧ XOK W EX F H Xd
theorem as_none {as : EL} {xs : List Expr} (h : PA X xs (tEs W Γ EX as)) : PA X xs (tAs W Γ EX none as) := by
  refine h.impD fun σ H Q q => ?_
  obtain ⟨F, ρ, Qd, Xd, s, _, w, q, x⟩ := q
  exact ⟨F, ρ, Qd, Xd, s, w, q, x⟩
theorem as_some (C : CtxOk W Γ k EX N sc l X) {i : Nat} {x : Str} {pos : Pos} {as : EL} {xs : List Expr} (hx : chkVar N sc i x = true) (h : PA X xs (tEs W Γ EX as)) : PA X (.Name x pos :: xs) (tAs W Γ EX (some i) as) := by
  unfold chkVar nameOk at hx
  simp only [Bool.and_eq_true, decide_eq_true_eq, Bool.not_eq_true'] at hx
  have hp : PE X (.Name x pos) (tVar i) := pe_var (by rw [C.hN]; exact hx.1.1) (by rw [C.hsc]; exact vis_of hx.1.2) hx.2.1.1 hx.2.1.2
  refine (pa_cons hp h rfl).impD fun σ H Q q => ?_
  obtain ⟨F, ρ, Qd, Xd, s, hr, w, q, x⟩ := q
  exact ⟨_, s.row hr, F, ρ, Qd, Xd, s, w, fun ds vs F' H' e1 r1 l1 w1 => q ds vs F' H' e1 r1 l1 w1, x⟩
/-- keywords -/
inductive KwPE (X : Cx) (W : Wd) (Γ : Gam) (EX : XK) : List Keyword → EL → Prop
  | nil : KwPE X W Γ EX [] .nil
  | cons {n : Option Str} {x : Expr} {p : Pos} {kw : List Keyword} {e : E} {r : EL} : PE X x (tE W Γ EX e) → KwPE X W Γ EX kw r → KwPE X W Γ EX (⟨n, x, p⟩ :: kw) (.cons e r)
theorem KwPE.pk : ∀ {kw : List Keyword} {kws : EL}, KwPE X W Γ EX kw kws → PK X kw (tEs W Γ EX kws)
  | _, _, .nil => ⟨fun pos pins s σ H Q I q => pk_nil.run pos pins s σ H Q I (by
      obtain ⟨F, ρ, Qd, Xd, s, w, q, x⟩ := q
      exact q _ _ F H (.refl s.f s.g) .nil rfl w)⟩
  | _, _, .cons h r => ⟨fun pos pins s σ H Q I q => (pk_cons h r.pk).run pos pins s σ H Q I (by
      obtain ⟨F, ρ, Qd, Xd, s, w, q, x⟩ := q
      refine ⟨F, ρ, _, Xd, s, w, fun d v F' H' e1 r1 w1 => ?_, x⟩
      exact ⟨F', ρ, _, Xd, s.ext e1, w1, fun ds vs F2 H2 e2 r2 l2 w2 => q _ _ F2 H2 (e1.trans e2) (.cons (r1.mono e2.sub) r2) (by simp [EL.len, l2]) w2, x.ext e1⟩)⟩
theorem kw_facts (pos : Pos) (env : Env) : ∀ {kw : List Keyword} {ks : List Str}, kwNames kw = some ks →
    (backToKw pos (keywordEach kw env)).all (·.1.isSome) = true ∧ (backToKw pos (keywordEach kw env)).filterMap (·.1) = ks ∧ (backToKw pos (keywordEach kw env)).any (·.1.isNone) = false
  | [], ks, h => by cases h; exact ⟨rfl, rfl, rfl⟩
  | ⟨some n, v, p⟩ :: r, ks, h => by
    obtain ⟨l, h1, rfl⟩ := Option.map_eq_some_iff.mp (show (kwNames r).map (n :: ·) = some ks from h)
    obtain ⟨a, b, c⟩ := kw_facts pos env h1
    refine ⟨?_, ?_, ?_⟩
    · show (true && (backToKw pos (keywordEach r env)).all (·.1.isSome)) = true
      rw [a]; rfl
    · show n :: (backToKw pos (keywordEach r env)).filterMap (·.1) = n :: l
      rw [b]
    · show (false || (backToKw pos (keywordEach r env)).any (·.1.isNone)) = false
      rw [c]; rfl
  | ⟨none, v, p⟩ :: r, ks, h => by cases h
theorem kw_len {kw : List Keyword} {kws : EL} (h : KwPE X W Γ EX kw kws) : ∀ {ks : List Str}, kwNames kw = some ks → ks.length = kws.len := by
  induction h with
  | nil => intro ks e; cases e; rfl
  | @cons n x p kw e r hx hr ih =>
    intro ks e
    cases n with
    | none => cases e
    | some n =>
      obtain ⟨l, h1, rfl⟩ := Option.map_eq_some_iff.mp (show (kwNames kw).map (n :: ·) = some ks from e)
      simp [EL.len, ih h1]
theorem run_call (C : CtxOk W Γ k EX N sc l X) {f : Str} {r : Option Nat} {as kws : EL} {ks : List Str} {xs : List Expr} {kw : List Keyword} {p pos : Pos} (hg : chkGl sc f = true) (hs : noStars xs = true) (hk : kwNames kw = some ks)
    (ha : PA X xs (tAs W Γ EX r as)) (hkw : KwPE X W Γ EX kw kws) (hne : xs = [] → kw ≠ [] ∧ as = .nil ∧ r = none) : PE X (.Call (.Name f p) xs kw pos) (tE W Γ EX (.call f r as ks kws)) := by
  obtain ⟨g1, g2, g3⟩ := gl_of C hg
  refine ⟨fun pins s σ H Q I q => ?_⟩
  obtain ⟨F, ρ, Qd, Xd, st, ⟨sg, hsg, ⟨hrow, hok⟩, w⟩, q, x⟩ := q
  obtain ⟨fa, fd, h1, h2, h3, h4, h5⟩ := (C.funs f sg hsg).ex
  unfold sgOk at hok
  simp only [Bool.and_eq_true, Bool.or_eq_true, decide_eq_true_eq, beq_iff_eq] at hok
  obtain ⟨hok1, hok2⟩ := hok
  have erow : ∀ vs : List V, rowV W r ++ vs = (if sg.row then [V.ref W.R] else []) ++ vs := fun vs => by
    unfold rowV; rw [hok1]
  -- the end, from all values
  have fin : ∀ (ds es : List D) (vs zs : List V) F1 H1, Ext W F H F1 H1 → Dats W.K F1 vs ds → Dats W.K F1 zs es → sg.sp (ds ++ es) Qd Xd → spV W sg ((rowV W r ++ vs) ++ zs) H1 Q EX := fun ds es vs zs F1 H1 e1 r1 r2 w1 =>
    ⟨F1, ds ++ es, vs ++ zs, Qd, Xd, e1.ok, e1.gd, by rw [erow, List.append_assoc], r1.append r2, w1, fun d v F2 H2 e2 rd wd => q d v F2 H2 (e1.trans e2) rd wd, x.ext e1⟩
  cases kw with
  | nil =>
    have ek : ks = [] := by cases hk; rfl
    subst ek
    cases hkw
    have key : tAs W Γ EX r as σ H (fun vs H1 => spV W sg (vs ++ []) H1 Q EX) := by
      refine ⟨F, ρ, _, Xd, st, hrow, w, fun ds vs F1 H1 e1 r1 l1 w1 => ?_, x⟩
      exact fin ds [] vs [] F1 H1 e1 r1 .nil w1
    cases xs with
    | nil => exact absurd rfl (hne rfl).1
    | cons y ys =>
      have hs' := hs
      unfold noStars at hs'
      simp only [List.all_cons, Bool.and_eq_true, Bool.not_eq_true'] at hs'
      exact (pe_call (x := f) (p := p) (pos := pos) h3 C.room g1 h1 h2 h4 (dvs := []) .nil C.pass ha g2 (star_ok hs'.1 ys X.env) (stars_plain (xs := ys) hs'.2 pos X.env)).run pins s σ H Q I key
  | cons z zs =>
    obtain ⟨k1, k2, k3⟩ := kw_facts pos X.env hk
    have hlen := kw_len hkw hk
    have hks : ks ∈ sg.kws := by
      rcases hok2 with e | e
      · cases ks with
        | nil => cases hkw; cases hlen
        | cons _ _ => cases e
      · exact e
    have B := h5 ks hks
    have key : ∀ σ H F ρ (Qd : D → Prop) (Xd : Str → Prop) (Q : VK), St W F ρ σ H → wpEs Γ as ρ (fun ds => wpEs Γ kws ρ (fun es => sg.sp (ds ++ es) Qd Xd) Xd) Xd → rowAt ρ r = true → XOK W EX F H Xd →
        (∀ d v F' H', Ext W F H F' H' → Dat W.K F' v d → Qd d → Q v H') → tAs W Γ EX r as σ H (fun vs H1 => tEs W Γ EX kws σ H1 fun us H2 => spV W sg (kwG ks.length vs us) H2 Q EX) := fun σ H F ρ Qd Xd Q st w hrow x q => by
      refine ⟨F, ρ, _, Xd, st, hrow, w, fun ds vs F1 H1 e1 r1 l1 w1 => ?_, x⟩
      refine ⟨F1, ρ, _, Xd, st.ext e1, w1, fun es us F2 H2 e2 r2 l2 w2 => ?_, x.ext e1⟩
      show spV W sg (kwG ks.length (rowV W r ++ vs) us) H2 Q EX
      unfold kwG
      rw [if_pos (by rw [r2.length, l2, hlen])]
      exact ⟨F2, ds ++ es, vs ++ us, Qd, Xd, e2.ok, e2.gd, by rw [erow, List.append_assoc], (r1.mono e2.sub).append r2, w2, fun d v F3 H3 e3 rd wd => q d v F3 H3 ((e1.trans e2).trans e3) rd wd, (x.ext e1).ext e2⟩
    cases xs with
    | nil =>
      obtain ⟨_, ha0, hr0⟩ := hne rfl
      subst ha0 hr0
      refine wpAny_Call_Name_kw (ld_glob I g1 h1 ?_ g2)
      refine PySem.W.callWith_KW0 (h₀ := X.base) I.ok.mod.kin h2 k1 ?_ (by rw [k3]; rfl)
      have w' : wpEs Γ kws ρ (fun es => sg.sp ([] ++ es) Qd Xd) Xd := w
      refine thn ((hkw.pk).run pos pins s σ H (fun us H2 => spV W sg (kwG ks.length [] us) H2 Q EX) I ?_) fun ws s2 ⟨zs', H2, I2, rz, q2⟩ => ⟨I2.kIn, ?_⟩
      · refine ⟨F, ρ, _, Xd, st, w', fun es us F2 H2 e2 r2 l2 w2 => ?_, x⟩
        show spV W sg (kwG ks.length [] us) H2 Q EX
        unfold kwG
        rw [if_pos (by rw [r2.length, l2, hlen])]
        exact ⟨F2, [] ++ es, [] ++ us, Qd, Xd, e2.ok, e2.gd, by rw [← erow]; rfl, r2, w2, fun d v F3 H3 e3 rd wd => q d v F3 H3 (e2.trans e3) rd wd, x.ext e2⟩
      · rw [k2]
        exact run_fnk h3 C.room B C.pass I2 .nil rz q2
    | cons y ys =>
      have hs' := hs
      unfold noStars at hs'
      simp only [List.all_cons, Bool.and_eq_true, Bool.not_eq_true'] at hs'
      refine (pe_callK (x := f) (p := p) (pos := pos) h3 C.room g1 h1 h2 B C.pass ha hkw.pk k1 k2 g2 (star_ok hs'.1 ys X.env) ?_).run pins s σ H Q I (key σ H F ρ Qd Xd Q st w hrow x q)
      rw [stars_plain (xs := y :: ys) hs pos X.env, k3]
      rfl
end
end Dl

set_option Elab.async false
set_option linter.all false
set_option maxRecDepth 100000
set_option maxHeartbeats 8000000
/-! the data layer, part 10: what is walked -/
namespace Dl
open PySem PySem.Spec PyProof.Rows L2

/-! ### enumerate of a tuple -/
def IteT (K : PySem.W.Frag) (a : Addr) : It :=
  ⟨fun i H => ∃ (xs : List V) (x : V), SqT K H a xs ∧ xs[i]? = some x,
    fun i H v H' => ∃ T x, v = .ref T ∧ H T = none ∧ H' = upd H T (.tup [.int (i : Nat), x]) ∧ ∀ xs, SqT K H a xs → xs[i]? = some x,
    fun i H => ∃ xs : List V, SqT K H a xs ∧ xs.length = i⟩
theorem tupIter_ne {h : Heap} {a it : Addr} {i : Nat} {items : Array Value} (ht : h.IsTuple a items) (hi : h.IsTupleIter it a i) : a ≠ it := by
  rintro rfl
  obtain ⟨o, e, c, _⟩ := ht
  obtain ⟨o', e', c', _⟩ := hi
  rw [e] at e'
  cases e'
  rw [c] at c'
  exact absurd c' (by decide)
theorem turn_enumT {P : Program} {w : World} {K : PySem.W.Frag} {elts : List Expr} {kk : Nat} {tpos : Pos} (a e it : Addr) :
    Turn P w K (.Tuple elts kk tpos) (IteT K a) [e, it] e (fun i h => (∃ old, IsEnum h e it ((i : Nat) : Int) old) ∧ h.IsTupleIter it a i ∧ e ≠ it) where
  mem := by simp
  obj := fun i h st b hb => by
    obtain ⟨⟨old, he⟩, ⟨o, ho, hc, hd⟩, _⟩ := st
    have e' : b = e ∨ b = it := by simpa using hb
    rcases e' with z | z
    · rw [z]; exact ⟨_, he, fun v q => nomatch q⟩
    · rw [z]; exact ⟨o, ho, fun v q => by rw [hd] at q; cases q⟩
  keep := fun i h h' st k => let ⟨⟨old, he⟩, hi, hne⟩ := st; ⟨⟨old, k e (by simp) _ he⟩, hi.at fun o q => k it (by simp) o q, hne⟩
  item := by
    intro X hP hw hK hc i pins s σ H E I hf st hg
    subst hP hw hK
    obtain ⟨⟨old, he⟩, hit, hne⟩ := st
    obtain ⟨xs, x, hq, hx⟩ := hg
    obtain ⟨its, rv, p, hz⟩ := I.tuple hq
    have hT : s.heap.IsTuple a its.toArray := p
    obtain ⟨u, hu, ru⟩ := rv.get hx
    have hel : e < s.heap.objs.size := Heap.lt_size he
    have hil : it < s.heap.objs.size := by obtain ⟨_, q, _⟩ := hit; exact Heap.lt_size q
    have hai := tupIter_ne hT hit
    have hae : e ≠ a := by
      rintro rfl
      obtain ⟨o, q, c, _⟩ := hT
      rw [he] at q
      cases q
      exact absurd (show Value.type "enumerate" = Value.type "tuple" from c) (by decide)
    have D := Draws.tuple (prog := X.prog) (w := X.w) (A := X.A.in1) (I.ok.hd hc) it a hai its.toArray
    have hlt : i < its.toArray.size := by simpa using (List.getElem?_eq_some_iff.mp hu).1
    refine wpAny_pyNext_enum_itemD D he ⟨hit, hT⟩ hlt hne (by simp [hne, hae]) fun v h' tk hPv ho hit' hT' hsz hk => ?_
    have ev : v = u := by
      have h1 : its.toArray[i]? = some v := hPv
      have h2 : its[i]? = some v := by simpa using h1
      rw [hu] at h2
      exact (Option.some.inj h2).symm
    subst ev
    refine ⟨_, rfl, wpAny_letOwnedTupleGo_enum (s := { s with heap := h', toks := tk + 1 }) ho fun h'' he' sb => ?_⟩
    have hT2 : h''.get? s.heap.objs.size = some { cls := .type "tuple", data := .seq #[.int i tk, v] } := (sb.2 _ (Nat.ne_of_gt hel)).trans hT'
    have new : ObjOk X.prog X.w (upd H s.heap.objs.size (.tup [.int (i : Nat), x])) h'' s.heap.objs.size (.tup [.int (i : Nat), x]) :=
      ⟨by show 2 ≤ sizeLine; decide, [.int i tk, v], .cons ⟨_, rfl⟩ (.cons ru .nil), ⟨_, hT2, rfl, _, rfl⟩⟩
    have I1 : Inv X pins σ (upd H s.heap.objs.size (.tup [.int (i : Nat), x])) { s with heap := h'', toks := tk + 1 } :=
      I.turnedNew (ch := [e, it]) (fun b ob hb q => (sb.2 b (fun z => hb (by simp [z]))).trans (hk b ob (fun z => hb (by simp [z])) (fun z => hb (by simp [z])) q)) hf (Nat.le_refl _) new
    refine ⟨.ref s.heap.objs.size, _, I1, rfl, ⟨_, x, rfl, I.hok.fresh (Nat.le_refl _), rfl, fun ys hy => by rw [I.tuple_inj hy hq]; exact hx⟩, ⟨⟨v, ?_⟩, hit'.1.at fun o q => (sb.2 it (Ne.symm hne)).trans q, hne⟩, fun b hb => ?_⟩
    · have e1 : ((i + 1 : Nat) : Int) = (i : Int) + 1 := by omega
      rw [e1]; exact he'
    · have hb' : b < s.heap.objs.size := by
        have e' : b = e ∨ b = it := by simpa using hb
        rcases e' with z | z
        · rw [z]; exact hel
        · rw [z]; exact hil
      rw [upd_ne (Nat.ne_of_lt hb')]
      exact (hf b hb).1
  done := by
    intro X hP hw hK hc i pins s σ H E I hf st hg
    subst hP hw hK
    obtain ⟨⟨old, he⟩, hit, hne⟩ := st
    obtain ⟨xs, hq, hx⟩ := hg
    obtain ⟨its, rv, p, hz⟩ := I.tuple hq
    have hT : s.heap.IsTuple a its.toArray := p
    obtain ⟨f0, f1, f2, f3, f4, f5⟩ := hf it (by simp)
    have hl := rv.length
    have D := Draws.tuple (prog := X.prog) (w := X.w) (A := X.A.in1) (I.ok.hd hc) it a (tupIter_ne hT hit) its.toArray
    have hn : i = its.toArray.size := by simp; omega
    refine wpAny_pyNext_enum_endD D he ⟨hn ▸ hit, hT⟩ fun h' eb => ⟨rfl, I.turned (t' := s.toks) (fun b o hb q => eb b o hb q) f0 f1 f3 f4 f5⟩
  self := fun A i s Q E st h => let ⟨⟨_, he⟩, _⟩ := st; wpAny_pyIter_enum he h
theorem meets_enumerate_newT (l : Addr) (items : Array Value) (n : Nat) (dct : Option Addr) (sl : Array (Option Value)) :
    Meets (Builtin.«enumerate.__new__» ⟨[.type "enumerate", .ref l], []⟩) (fun _ R s => s.heap.get? l = some { cls := .type "tuple", dict := dct, data := .seq items n, slots := sl } ∧
      R (.ok (.ret (.ref (s.heap.push { cls := .type "tuple_iterator", data := .fields #[.ref l, .int 0 0] }).objs.size)))
        { s with heap := (s.heap.push { cls := .type "tuple_iterator", data := .fields #[.ref l, .int 0 0] }).push { cls := .type "enumerate", data := .fields #[.none, .bool false, .ref s.heap.objs.size, rawInt 0, .none, .none] } }) :=
  .of_wp fun prog w A R s h => by
    obtain ⟨hp, g, d, tk, os⟩ := s
    obtain ⟨hl, h⟩ := h
    have hsub := sub_enumerate
    have hL : Heap.IsTuple (Shared.heap ⟨hp, g, d, tk, os⟩) l items := ⟨_, hl, rfl, n, rfl⟩
    wp_walk using wpAny_loadPart' hl
    refine wpAny_stack_any fun st => wpAny_pure ?_
    split
    · rename_i c _ _ _ _ _
      cases (c == Value.type "enumerate")
      · wp_walk using wpAny_loadPart' hl, wpAny_pyIter_tuple hL
        exact ⟨_, rfl, h⟩
      · wp_walk using wpAny_loadPart' hl, wpAny_pyIter_tuple hL
        exact ⟨_, rfl, h⟩
    · wp_walk using wpAny_loadPart' hl, wpAny_pyIter_tuple hL
      exact ⟨_, rfl, h⟩
theorem call_enumerate_tuple {prog : Program} {w : World} {A : Around} {E : Value → Shared → Prop} {s : Shared} {l : Addr} {items : Array Value} {Q : Value → Shared → Prop} (hL : s.heap.IsTuple l items)
    (h : ∀ h', IsEnum h' (s.heap.objs.size + 1) s.heap.objs.size 0 .none → h'.IsTupleIter s.heap.objs.size l 0 → h'.objs.size = s.heap.objs.size + 2 →
      (∀ b o, s.heap.get? b = some o → h'.get? b = some o) → Q (.ref (s.heap.objs.size + 1)) { s with heap := h' }) :
    wpAny (model prog w) A (call (.type "enumerate") [.ref l]) Q E s := by
  obtain ⟨⟨c, dct, dt, sl⟩, hl, hc, n, hd⟩ := hL
  replace hc : c = .type "tuple" := hc
  replace hd : dt = .seq items n := hd
  subst hc hd
  refine callType_new F.called_enumerate (by decide) (F.typeCall_enumerate_1 _) (F.newCall_enumerate_1 _) (fun obj => F.args_object_init_2 obj _) F.entry_enumerate_new
    (meets_enumerate_newT l items n dct sl) ⟨hl, ?_⟩
  have hz : (s.heap.push { cls := .type "tuple_iterator", data := .fields #[.ref l, .int 0 0] }).objs.size = s.heap.objs.size + 1 := Heap.size_push ..
  show _ ∧ _
  rw [hz]
  have he : IsEnum ((s.heap.push { cls := .type "tuple_iterator", data := .fields #[.ref l, .int 0 0] }).push
      { cls := .type "enumerate", data := .fields #[.none, .bool false, .ref s.heap.objs.size, rawInt 0, .none, .none] }) (s.heap.objs.size + 1) s.heap.objs.size 0 .none := by
    have := Heap.get?_push_size (s.heap.push { cls := .type "tuple_iterator", data := .fields #[.ref l, .int 0 0] })
      (o := { cls := .type "enumerate", data := .fields #[.none, .bool false, .ref s.heap.objs.size, rawInt 0, .none, .none] }) rfl
    rw [hz] at this; exact this
  refine ⟨⟨_, he, rfl⟩, h _ he ⟨_, Heap.get?_push_of_some _ (Heap.get?_push_size _ rfl), rfl, rfl⟩ (by rw [Heap.size_push, hz]) fun b o x => Heap.get?_push_of_some _ (Heap.get?_push_of_some _ x)⟩
def iEnumA (K : PySem.W.Frag) (ta : TA) : TI := fun σ H R => ta σ H fun vs H1 => ∃ a xs, vs = [.ref a] ∧ ((SqL K H1 a xs ∧ R (Ite K a) H1) ∨ (SqT K H1 a xs ∧ R (IteT K a) H1))
theorem pi_enumA {X : Cx} {e : Expr} {ta : TA} {p pos tpos : Pos} {elts : List Expr} {kk : Nat} (hg : Gl X "enumerate") (hm : X.mg "enumerate" = none) (ha : PA X [e] ta) (hs : starEach [e] X.env = [(false, eval e X.env)]) :
    PI X (.Tuple elts kk tpos) (.Call (.Name "enumerate" p) [e] [] pos) (iEnumA X.K ta) := by
  refine ⟨fun pins s σ H R I h => ?_⟩
  refine Call_ (ld_blt I hg hm boot_enumerate (PyProof.Rows.callWith_type1 (thn (ha.run pos pins s σ H _ I h) fun us s1 ⟨vs, H1, I1, r1, q1⟩ => ?_) hs rfl))
  obtain ⟨a, xs, ex, q1⟩ := q1
  subst ex
  have fin : ∀ b, b ∈ [s1.heap.objs.size + 1, s1.heap.objs.size] → FpOk X pins H1 b := fun b hb => by
    have e' : b = s1.heap.objs.size + 1 ∨ b = s1.heap.objs.size := by simpa using hb
    have hle : s1.heap.objs.size ≤ b := by
      rcases e' with z | z
      · rw [z]; exact Nat.le_add_right _ _
      · rw [z]; exact Nat.le_refl _
    exact I1.fpOk hle (I1.hok.fresh hle)
  cases r1 with
  | cons r rr =>
    cases rr
    cases r
    rcases q1 with ⟨hq, q⟩ | ⟨hq, q⟩
    · obtain ⟨its, rv, p', hz⟩ := I1.list hq
      refine call_enumerate_list p'.isList fun h' he hit hsz hk => wpAny_pyIter_enum he ?_
      have I2 : Inv X pins σ H1 { s1 with heap := h' } := I1.kept (t' := s1.toks) hk
      exact ⟨s1.heap.objs.size + 1, [s1.heap.objs.size + 1, s1.heap.objs.size], _, _, H1, rfl, I2, turn_enum a (s1.heap.objs.size + 1) s1.heap.objs.size, ⟨⟨.none, he⟩, hit, Nat.succ_ne_self _⟩, fin, q⟩
    · obtain ⟨its, rv, p', hz⟩ := I1.tuple hq
      refine call_enumerate_tuple (show s1.heap.IsTuple a its.toArray from p') fun h' he hit hsz hk => wpAny_pyIter_enum he ?_
      have I2 : Inv X pins σ H1 { s1 with heap := h' } := I1.kept (t' := s1.toks) hk
      exact ⟨s1.heap.objs.size + 1, [s1.heap.objs.size + 1, s1.heap.objs.size], _, _, H1, rfl, I2, turn_enumT a (s1.heap.objs.size + 1) s1.heap.objs.size, ⟨⟨.none, he⟩, hit, Nat.succ_ne_self _⟩, fin, q⟩
/-- a list or a tuple is walked -/
def iSeq (K : PySem.W.Frag) (te : TE) : TI := fun σ H R => te σ H fun x H1 => ∃ a xs, x = .ref a ∧ ((SqL K H1 a xs ∧ R (Itl K a) H1) ∨ (SqT K H1 a xs ∧ R (Itt K a) H1))
theorem pi_seq {X : Cx} {tg l : Expr} {tl : TE} (hl : PE X l tl) : PI X tg l (iSeq X.K tl) := by
  refine ⟨fun pins s σ H R I h => ?_⟩
  refine thn (hl.run pins s σ H _ I h) fun v s1 ⟨x, H1, I1, r1, q1⟩ => ?_
  obtain ⟨a, xs, e, q⟩ := q1
  subst e
  cases r1
  have fin : ∀ b, b ∈ [s1.heap.objs.size] → FpOk X pins H1 b := fun b hb => by
    have e : b = s1.heap.objs.size := by simpa using hb
    subst e
    exact I1.fpOk (Nat.le_refl _) (I1.hok.fresh (Nat.le_refl _))
  rcases q with ⟨hq, q⟩ | ⟨hq, q⟩
  · obtain ⟨its, rv, p, hz⟩ := I1.list hq
    refine wpAny_pyIter_list p.isList ?_
    exact ⟨s1.heap.objs.size, [s1.heap.objs.size], _, _, H1, rfl, I1.kept (t' := s1.toks) fun b o e => Heap.get?_push_of_some _ e, turn_list a _, ⟨_, Heap.get?_push_size _ rfl, rfl, rfl⟩, fin, q⟩
  · obtain ⟨its, rv, p, hz⟩ := I1.tuple hq
    refine wpAny_pyIter_tuple (show s1.heap.IsTuple a its.toArray from p) ?_
    exact ⟨s1.heap.objs.size, [s1.heap.objs.size], _, _, H1, rfl, I1.kept (t' := s1.toks) fun b o e => Heap.get?_push_of_some _ e, turn_tuple a _, ⟨_, Heap.get?_push_size _ rfl, rfl, rfl⟩, fin, q⟩
theorem walk_enumT {K : PySem.W.Frag} {a : Addr} {xs : List V} : Walk (IteT K a) xs.length (fun H => SqT K H a xs) (YPair (fun i => some (.int (i : Nat))) (fun i => xs[i]?)) :=
  ⟨fun i H hi g => ⟨xs, xs[i], g, List.getElem?_eq_getElem hi⟩, fun H g => ⟨xs, g, rfl⟩, fun i H x H' hi g y => by
    obtain ⟨T, z, e1, e2, e3, e4⟩ := y
    exact ⟨T, _, z, e1, e2, e3, rfl, e4 xs g⟩⟩
end Dl

set_option Elab.async false
set_option linter.all false
set_option maxRecDepth 100000
set_option maxHeartbeats 8000000
/-! the data layer, part 40: list(enumerate(a tuple)) -/
namespace Dl
open PySem PySem.Spec PyProof.Rows L2
section
variable {prog : Program} {w : World} {A : Around} {E : Value → Shared → Prop} {s : Shared}
/-- an enumerate object with its two fields for the tuple it gave out -/
abbrev EnA (h : Heap) (e it : Addr) (i : Int) (old f0 f1 : Value) : Prop :=
  h.get? e = some { cls := .type "enumerate", dict := none, data := .fields #[f0, f1, .ref it, rawInt i, .none, old], slots := #[] }
theorem wpAny_loadIfAlive {a : Addr} {Q : Option Obj → Shared → Prop} (h : Q (s.heap.get? a) s) : wpAny (model prog w) A (loadIfAlive a) Q E s := fun _ _ _ => h
/-- its next item while the tuple that it gave out is still there -/
theorem enum_next_out {e it : Addr} {fp : List Addr} {n i : Nat} {P : Nat → Value → Prop} {St : Nat → Heap → Prop} {old : Value} {a : Addr} {fl : Bool} {Q : Value → Shared → Prop}
    (D : Draws prog w A it fp n P St) (he : EnA s.heap e it i old (rawInt a) (.bool fl)) (hae : a ≠ e) (hai : a ≠ it) (ha : ∃ oa, s.heap.get? a = some oa) (hst : St i s.heap) (hlt : i < n) (hne : e ≠ it) (hef : e ∉ fp)
    (hQ : ∀ x h' tk, P i x → EnA h' e it ((i : Int) + 1) old (rawInt a) (.bool true) → St (i + 1) h' →
      h'.get? s.heap.objs.size = some { cls := .type "tuple", data := .seq #[.int i tk, x] } → h'.objs.size = s.heap.objs.size + 1 →
      (∀ b o, b ≠ e → b ≠ it → s.heap.get? b = some o → h'.get? b = some o) → Q (.ref s.heap.objs.size) { s with heap := h', toks := tk + 1 }) :
    wpAny (model prog w) A (Builtin.«enumerate.__next__» ⟨[.ref e], []⟩) (fun fin s' => ∃ v, fin = .done (.ret v) ∧ Q v s') E s := by
  obtain ⟨hp, g, d, tk₀, os⟩ := s
  obtain ⟨oa, ha⟩ := ha
  show wpAny _ _ (field (.ref e) 2 >>= _) _ _ _
  refine wpAny_bind (wpAny_field he rfl (x := .ref it) rfl ?_)
  refine wpAny_bind (D.item i _ _ _ hlt hst fun x h₁ tk hPx hit₁ hs₁ => ?_)
  replace hs₁ : Heap.SameBut it hp h₁ := hs₁
  have he₁ : EnA h₁ e it i old (rawInt a) (.bool fl) := (hs₁.2 e hne).trans he
  show wpAny _ _ (field (.ref e) 3 >>= _) _ _ ⟨h₁, g, d, tk, os⟩
  refine wpAny_bind (wpAny_field he₁ rfl (x := rawInt i) rfl ?_)
  show wpAny _ _ (field (.ref e) 4 >>= _) _ _ ⟨h₁, g, d, tk, os⟩
  refine wpAny_bind (wpAny_field he₁ rfl (x := .none) rfl ?_)
  show wpAny _ _ (mkInt i >>= _) _ _ ⟨h₁, g, d, tk, os⟩
  refine wpAny_bind (wpAny_mkInt ?_)
  show wpAny _ _ (setField (.ref e) 3 (rawInt ((i : Int) + 1)) >>= _) _ _ ⟨h₁, g, d, tk + 1, os⟩
  refine wpAny_bind (wpAny_setField_rec he₁ (by simp) fun h₂ he₂ hs₂ => ?_)
  replace hs₂ : Heap.SameBut e h₁ h₂ := hs₂
  replace he₂ : EnA h₂ e it ((i : Int) + 1) old (rawInt a) (.bool fl) := he₂
  show wpAny _ _ (setField (.ref e) 4 .none >>= _) _ _ ⟨h₂, g, d, tk + 1, os⟩
  refine wpAny_bind (wpAny_setField_rec he₂ (by simp) fun h₃ he₃ hs₃ => ?_)
  replace hs₃ : Heap.SameBut e h₂ h₃ := hs₃
  replace he₃ : EnA h₃ e it ((i : Int) + 1) old (rawInt a) (.bool fl) := he₃
  show wpAny _ _ (newTuple [.int i tk, x] >>= _) _ _ ⟨h₃, g, d, tk + 1, os⟩
  refine wpAny_bind (wpAny_newTuple ?_)
  have he₄ : EnA (h₃.push { cls := .type "tuple", data := .seq #[.int i tk, x] }) e it ((i : Int) + 1) old (rawInt a) (.bool fl) := Heap.get?_push_of_some _ he₃
  generalize hh₄ : h₃.push { cls := .type "tuple", data := .seq #[.int i tk, x] } = h₄ at he₄
  have hsz : h₃.objs.size = hp.objs.size := by rw [hs₃.1, hs₂.1, hs₁.1]
  have hel : e < hp.objs.size := Heap.lt_size he
  have ht₄ : h₄.get? hp.objs.size = some { cls := .type "tuple", data := .seq #[.int i tk, x] } := by rw [← hh₄, ← hsz]; exact Heap.get?_push_size _ rfl
  have hz₄ : h₄.objs.size = hp.objs.size + 1 := by rw [← hh₄, Heap.size_push, hsz]
  have hk₄ : ∀ b o, b ≠ e → b ≠ it → hp.get? b = some o → h₄.get? b = some o := fun b o hbe hbi hb => by
    rw [← hh₄]; exact Heap.get?_push_of_some _ (hs₃.extBut b o hbe (hs₂.extBut b o hbe (hs₁.extBut b o hbi hb)))
  have hit₄ : St (i + 1) h₄ := D.frame _ _ _ hit₁ fun b hb o y => by
    have hbe : b ≠ e := fun q => hef (q ▸ hb)
    rw [← hh₄]; exact Heap.get?_push_of_some _ (hs₃.extBut b o hbe (hs₂.extBut b o hbe y))
  show wpAny _ _ (Builtin.SmallTypes.ownedTupleIsFree (.ref e) >>= _) _ _ ⟨h₄, g, d, tk + 1, os⟩
  rw [hsz]
  clear hh₄ he₃ hs₃ he₂ hs₂ he₁ hs₁ hit₁ hsz h₃ h₂ h₁
  have ha₄ : h₄.get? a = some oa := hk₄ a oa hae hai ha
  refine wpAny_bind ?_
  unfold Builtin.SmallTypes.ownedTupleIsFree
  refine wpAny_bind (wpAny_field he₄ rfl (x := rawInt a) rfl ?_)
  refine wpAny_bind (wpAny_loadIfAlive ?_)
  rw [show ((a : Int).toNat : Nat) = a from Int.toNat_natCast a]
  show wpAny _ _ (if ((Shared.mk h₄ g d (tk + 1) os).heap.get? a).isNone = true then _ else _) _ _ _
  rw [show (Shared.mk h₄ g d (tk + 1) os).heap.get? a = some oa from ha₄]
  simp only [Option.isNone_some, Bool.false_eq_true, if_false]
  refine wpAny_bind (wpAny_field he₄ rfl (x := .bool fl) rfl ?_)
  cases fl with
  | true =>
    refine wpAny_pure ?_
    exact wpAny_pure ⟨_, rfl, hQ x h₄ tk hPx he₄ hit₄ ht₄ hz₄ hk₄⟩
  | false =>
    show wpAny _ _ (setField (.ref e) 1 (.bool true) >>= _) _ _ _
    refine wpAny_bind (wpAny_setField_rec he₄ (by simp) fun h₅ he₅ hs₅ => ?_)
    replace hs₅ : Heap.SameBut e h₄ h₅ := hs₅
    replace he₅ : EnA h₅ e it ((i : Int) + 1) old (rawInt a) (.bool true) := he₅
    refine wpAny_pure ?_
    refine wpAny_pure ⟨_, rfl, hQ x h₅ tk hPx he₅ ?_ ?_ ?_ ?_⟩
    · exact D.frame _ _ _ hit₄ fun b hb o y => hs₅.extBut b o (fun q => hef (q ▸ hb)) y
    · exact hs₅.extBut _ _ (Nat.ne_of_gt hel) ht₄
    · rw [hs₅.1, hz₄]
    · exact fun b o hbe hbi hb => hs₅.extBut b o hbe (hk₄ b o hbe hbi hb)
theorem pyNext_enum_out {e it : Addr} {fp : List Addr} {n i : Nat} {P : Nat → Value → Prop} {St : Nat → Heap → Prop} {old : Value} {a : Addr} {fl : Bool} {Q : Option Value → Shared → Prop}
    (D : Draws prog w A.in1 it fp n P St) (he : EnA s.heap e it i old (rawInt a) (.bool fl)) (hae : a ≠ e) (hai : a ≠ it) (ha : ∃ oa, s.heap.get? a = some oa) (hst : St i s.heap) (hlt : i < n) (hne : e ≠ it) (hef : e ∉ fp)
    (hQ : ∀ x h' tk, P i x → EnA h' e it ((i : Int) + 1) old (rawInt a) (.bool true) → St (i + 1) h' →
      h'.get? s.heap.objs.size = some { cls := .type "tuple", data := .seq #[.int i tk, x] } → h'.objs.size = s.heap.objs.size + 1 →
      (∀ b o, b ≠ e → b ≠ it → s.heap.get? b = some o → h'.get? b = some o) → Q (some (.ref s.heap.objs.size)) { s with heap := h', toks := tk + 1 }) :
    wpAny (model prog w) A (pyNext (.ref e)) Q E s := by
  have hT : s.TypeIs (.ref e) "enumerate" := ⟨_, he, rfl⟩
  unfold pyNext
  exact wpAny_bind (wpAny_attempt (wpAny_callSpecial?_slot (name := Str.ofString "__next__") hT F.slot_enumerate_next
    (wpAny_call_entry F.slot_enumerate_next hT F.entry_enumerate_next
      (enum_next_out D he hae hai ha hst hlt hne hef fun x h' tk a b c d k q => wpAny_pure (hQ x h' tk a b c d k q)) (F.args_enumerate_next_1 _))))
theorem pyNext_enum_end {e it : Addr} {fp : List Addr} {n : Nat} {P : Nat → Value → Prop} {St : Nat → Heap → Prop} {i : Int} {old f0 f1 : Value} {Q : Option Value → Shared → Prop}
    (D : Draws prog w A.in1 it fp n P St) (he : EnA s.heap e it i old f0 f1) (hst : St n s.heap)
    (hQ : ∀ h', Heap.ExtBut it s.heap h' → Q none { s with heap := h' }) : wpAny (model prog w) A (pyNext (.ref e)) Q E s := by
  have hT : s.TypeIs (.ref e) "enumerate" := ⟨_, he, rfl⟩
  unfold pyNext
  refine wpAny_bind (wpAny_attempt (wpAny_callSpecial?_slot (name := Str.ofString "__next__") hT F.slot_enumerate_next
    (wpAny_call_entry F.slot_enumerate_next hT F.entry_enumerate_next ?_ (F.args_enumerate_next_1 _))))
  show wpAny _ _ (field (.ref e) 2 >>= _) _ _ _
  refine wpAny_bind (wpAny_field he rfl (x := .ref it) rfl ?_)
  refine wpAny_bind (D.done _ _ _ hst fun h' x he' hx' => ?_)
  obtain ⟨o, ho, hc⟩ := hx'
  refine wpAny_bind (wpAny_isInstance (T := "StopIteration") (b := true) ⟨o, ho, hc⟩ isSubtype_stop ?_)
  exact wpAny_pure (hQ _ he')
/-- what is made so far: each thing a pair of its number and what was drawn, at an address of its own -/
def Made (h : Heap) (lo : Nat) (P : Nat → Value → Prop) (acc : Array Value) : Prop :=
  ∀ j, j < acc.size → ∃ T t x, acc[j]? = some (.ref T) ∧ lo ≤ T ∧ P j x ∧ h.get? T = some { cls := .type "tuple", data := .seq #[.int (j : Nat) t, x] }
/-- where an enumerate object stands: nothing given, or the first tuple out -/
def EnSt (h : Heap) (e it : Addr) (i : Nat) (acc : Array Value) : Prop :=
  (i = 0 ∧ ∃ old, IsEnum h e it (i : Nat) old) ∨ ∃ (a : Addr) (old : Value) (fl : Bool), 0 < i ∧ acc[0]? = some (.ref a) ∧ EnA h e it (i : Nat) old (rawInt a) (.bool fl)
theorem code_extend_enum {R : Result → Shared → Prop} {e it : Addr} {fp : List Addr} {n : Nat} {P : Nat → Value → Prop} {St : Nat → Heap → Prop} (D : Draws prog w A.in1.in1 it fp n P St) (hn : n ≤ sizeLine) (S : Addr) (lo : Nat) (res : Value)
    (hSe : S ≠ e) (hSi : S ≠ it) (hSf : S ∉ fp) (hne : e ≠ it) (hef : e ∉ fp) (hlo : e < lo) (hli : it < lo) :
    ∀ (k i : Nat) (s : Shared) (acc : Array Value) (c : Nat), n - i = k → i ≤ n → lo ≤ s.heap.objs.size → S < lo → acc.size = i → EnSt s.heap e it i acc → St i s.heap → Made s.heap lo P acc →
      s.heap.get? S = some { cls := .type "list", dict := none, data := .seq acc c, slots := #[] } →
      (∀ h' tk acc' c', (∀ b o, b < lo → b ≠ S → b ≠ e → b ≠ it → s.heap.get? b = some o → h'.get? b = some o) → acc'.size = n → Made h' lo P acc' →
        h'.get? S = some { cls := .type "list", dict := none, data := .seq acc' c', slots := #[] } → R (.ok (.ret res)) { s with heap := h', toks := tk }) →
      codeAny (model prog w) A (.builtin "list.extend.loop" ⟨[.ref S, .ref e, res], []⟩) R s := by
  intro k
  induction k with
  | zero =>
    intro i s acc c hk hi hlo' hSl hacc hen hst hm hS hR
    have hin : i = n := by omega
    subst hin
    refine codeAny_builtin F.entry_extend_loop ?_
    rw [Around.under_plainId F.plain_extend_loop _]
    show wpAny _ A.in1 (pyNext (.ref e) >>= _) _ _ s
    have fin : ∀ h', Heap.ExtBut it s.heap h' → R (.ok (.ret res)) { s with heap := h' } := fun h' hx => hR h' s.toks acc c (fun b o _ _ _ hb q => hx b o hb q) hacc (fun j hj => by
        obtain ⟨T, t, x, a1, a2, a3, a4⟩ := hm j hj
        exact ⟨T, t, x, a1, a2, a3, hx T _ (Nat.ne_of_gt (Nat.lt_of_lt_of_le hli a2)) a4⟩) (hx S _ hSi hS)
    refine wpAny_bind ?_
    rcases hen with ⟨_, old, he⟩ | ⟨a, old, fl, _, _, he⟩
    · exact pyNext_enum_end D he hst fun h' hx => wpAny_pure (fin h' hx)
    · exact pyNext_enum_end D he hst fun h' hx => wpAny_pure (fin h' hx)
  | succ k ih =>
    intro i s acc c hk hi hlo' hSl hacc hen hst hm hS hR
    have hlt : i < n := by omega
    refine codeAny_builtin F.entry_extend_loop ?_
    rw [Around.under_plainId F.plain_extend_loop _]
    show wpAny _ A.in1 (pyNext (.ref e) >>= _) _ _ s
    have step : ∀ x h' tk f0 f1 old, P i x → EnA h' e it ((i : Int) + 1) old f0 f1 → (∃ (a : Addr) (fl : Bool), f0 = rawInt a ∧ f1 = .bool fl ∧ (acc.push (.ref s.heap.objs.size))[0]? = some (.ref a)) → St (i + 1) h' →
        h'.get? s.heap.objs.size = some { cls := .type "tuple", data := .seq #[.int i tk, x] } → h'.objs.size = s.heap.objs.size + 1 →
        (∀ b o, b ≠ e → b ≠ it → s.heap.get? b = some o → h'.get? b = some o) →
        wpAny (model prog w) A.in1 (updateSeq S (·.push (.ref s.heap.objs.size)) >>= fun _ => again (.builtin "list.extend.loop" ⟨[.ref S, .ref e, res], []⟩)) (fun fin s' => match fin with | .done f => R (.ok f) s' | .again c' => c'.quiet = true ∧ codeAny (model prog w) A c' R s') (fun e s' => R (.error e) s') { s with heap := h', toks := tk + 1 } := by
      intro x h' tk f0 f1 old hP he ⟨a, fl, e0, e1, ea⟩ hst' hT hsz hk'
      subst e0 e1
      have hS' : h'.get? S = some { cls := .type "list", dict := none, data := .seq acc c, slots := #[] } := hk' S _ hSe hSi hS
      have hTS : s.heap.objs.size ≠ S := Nat.ne_of_gt (Nat.lt_of_lt_of_le hSl hlo')
      refine wpAny_bind ?_
      refine wpAny_updateSeq hS' rfl (wpAny_pure ⟨plainId_quiet F.plain_extend_loop _, ih (i + 1) _ (acc.push (.ref s.heap.objs.size)) _ (by omega) hlt ?_ hSl (by rw [Array.size_push, hacc]) ?_ ?_ ?_ (Heap.get?_update_self _ hS' rfl) ?_⟩) (by rw [hacc]; omega) (by show (acc.push _).size ≤ sizeLine + 1; rw [Array.size_push, hacc]; omega)
      · show lo ≤ (h'.update S _).objs.size
        rw [Heap.size_update, hsz]
        exact Nat.le_trans hlo' (Nat.le_succ _)
      · refine .inr ⟨a, old, fl, Nat.succ_pos _, ea, ?_⟩
        have : ((i + 1 : Nat) : Int) = (i : Int) + 1 := by omega
        rw [this]
        exact (Heap.get?_update_other _ _ hSe).trans he
      · exact D.frame _ _ _ hst' fun b hb o y => (Heap.get?_update_other _ _ (fun q : S = b => hSf (q ▸ hb))).trans y
      · intro j hj
        rw [Array.size_push] at hj
        by_cases hji : j < acc.size
        · obtain ⟨T, t, x', a1, a2, a3, a4⟩ := hm j hji
          have aT : h'.get? T = some { cls := .type "tuple", data := .seq #[.int (j : Nat) t, x'] } := hk' T _ (Nat.ne_of_gt (Nat.lt_of_lt_of_le hlo a2)) (Nat.ne_of_gt (Nat.lt_of_lt_of_le hli a2)) a4
          refine ⟨T, t, x', ?_, a2, a3, (Heap.get?_update_other _ _ (Nat.ne_of_lt (Nat.lt_of_lt_of_le hSl a2))).trans aT⟩
          rw [Array.getElem?_push_lt hji, ← Array.getElem?_eq_getElem hji]
          exact a1
        · have ej : j = i := by omega
          subst ej
          refine ⟨s.heap.objs.size, tk, x, ?_, hlo', hP, (Heap.get?_update_other _ _ (Ne.symm hTS)).trans hT⟩
          rw [← hacc]
          exact Array.getElem?_push_size
      · intro h'' tk' acc' c' f1 f2 f3 f4
        refine hR h'' tk' acc' c' (fun b o hb h1 h2 h3 q => f1 b o hb h1 h2 h3 ((Heap.get?_update_other _ _ (Ne.symm h1)).trans (hk' b o h2 h3 q))) f2 f3 f4
    refine wpAny_bind ?_
    rcases hen with ⟨i0, old, he⟩ | ⟨a, old, fl, i0, ea, he⟩
    · refine wpAny_pyNext_enum_itemD D he hst hlt hne hef fun x h' tk hP ho hs' hT hsz hk => ?_
      have e0 : acc.size = 0 := by omega
      exact step x h' tk _ _ _ hP ho ⟨s.heap.objs.size, false, rfl, rfl, by rw [← e0]; exact Array.getElem?_push_size⟩ hs' hT hsz hk
    · have h0 : 0 < acc.size := by omega
      obtain ⟨T, t, x', a1, a2, a3, a4⟩ := hm 0 h0
      rw [ea] at a1
      have e1 : a = T := by
        have := Option.some.inj a1
        injection this
      subst e1
      refine pyNext_enum_out D he (Nat.ne_of_gt (Nat.lt_of_lt_of_le hlo a2)) (Nat.ne_of_gt (Nat.lt_of_lt_of_le hli a2)) ⟨_, a4⟩ hst hlt hne hef fun x h' tk hP ho hs' hT hsz hk => ?_
      refine step x h' tk _ _ _ hP ho ⟨a, true, rfl, rfl, ?_⟩ hs' hT hsz hk
      rw [Array.getElem?_push_lt h0, ← Array.getElem?_eq_getElem h0]
      exact ea
theorem enum_no_len : typeLookup (.type "enumerate") "__len__" = pure none := by rw [typeLookup_type, builtinLookup_eq_fast]; kernel_rfl
theorem enum_no_hint : typeLookup (.type "enumerate") "__length_hint__" = pure none := by rw [typeLookup_type, builtinLookup_eq_fast]; kernel_rfl
theorem extend_enum {R : Result → Shared → Prop} {e it : Addr} {fp : List Addr} {n : Nat} {P : Nat → Value → Prop} {St : Nat → Heap → Prop} (D : Draws prog w A.in1.in1 it fp n P St) (hn : n ≤ sizeLine) (S : Addr) (res : Value) (c₀ : Nat)
    (hSe : S ≠ e) (hSi : S ≠ it) (hSf : S ∉ fp) (hne : e ≠ it) (hef : e ∉ fp) (he : IsEnum s.heap e it 0 .none) (hst : St 0 s.heap) (hil : it < s.heap.objs.size)
    (hS : s.heap.get? S = some { cls := .type "list", data := .seq #[] c₀ })
    (hR : ∀ h' tk acc' c', (∀ b o, b < s.heap.objs.size → b ≠ S → b ≠ e → b ≠ it → s.heap.get? b = some o → h'.get? b = some o) → acc'.size = n → Made h' s.heap.objs.size P acc' →
        h'.get? S = some { cls := .type "list", dict := none, data := .seq acc' c', slots := #[] } → R (.ok (.ret res)) { s with heap := h', toks := tk }) :
    wpAny (model prog w) A.in1 (Builtin.List.listExtendWith (.ref S) (.ref e) res)
      (fun fin s' => match fin with | .done f => R (.ok f) s' | .again c' => c'.quiet = true ∧ codeAny (model prog w) A c' R s') (fun e s' => R (.error e) s') s := by
  have hT : s.TypeIs (.ref e) "enumerate" := ⟨_, he, rfl⟩
  unfold Builtin.List.listExtendWith
  refine wpAny_bind (wpAny_typeOf hT ?_)
  have h1 : Builtin.List.listSameRef (.ref S) (.ref e) = false := by simp [Builtin.List.listSameRef, hSe]
  have h2 : (Value.type "enumerate" == Value.type "list") = false := by decide
  have h3 : (Value.type "enumerate" == Value.type "tuple") = false := by decide
  simp only [h1, h2, h3, Bool.or_false, Bool.false_eq_true, if_false]
  refine wpAny_bind (wpAny_pyIter_enum he ?_)
  refine wpAny_bind (wpAny_holding ?_)
  unfold Builtin.List.listLengthHint
  refine wpAny_bind (wpAny_specialOf hT enum_no_len ?_)
  show wpAny _ A.in1 (specialOf (Value.ref e) (Str.ofString "__length_hint__") >>= _) _ _ _
  refine wpAny_bind (wpAny_specialOf hT enum_no_hint ?_)
  refine wpAny_pure ?_
  show wpAny _ A.in1 (rule "list.extend.makes-room" >>= fun _ => Builtin.List.listTouch (.ref S) >>= fun _ =>
    again (.builtin "list.extend.loop" ⟨[.ref S, .ref e, res], []⟩)) _ _ _
  refine wpAny_bind (wpAny_rule ?_)
  refine wpAny_bind ?_
  show wpAny _ A.in1 (updateSeq S (·.push .none) >>= fun _ => updateSeq S (·.pop)) _ _ _
  refine wpAny_bind (wpAny_updateSeq hS rfl ?_)
  have hS₂ := Heap.get?_update_self (Obj.mapSeq (·.push Value.none)) hS rfl
  refine wpAny_updateSeq (hz := by seq_fits) hS₂ rfl ?_
  have hS₃ := Heap.get?_update_self (Obj.mapSeq (·.pop)) hS₂ rfl
  have oth : ∀ b o, b ≠ S → s.heap.get? b = some o → ((s.heap.update S (Obj.mapSeq (·.push Value.none))).update S (Obj.mapSeq (·.pop))).get? b = some o :=
    fun b o hb e => (Heap.get?_update_other _ _ (Ne.symm hb)).trans ((Heap.get?_update_other _ _ (Ne.symm hb)).trans e)
  refine wpAny_pure ⟨plainId_quiet F.plain_extend_loop _, code_extend_enum D hn S s.heap.objs.size res hSe hSi hSf hne hef (Heap.lt_size he) hil n 0 _ #[] _ rfl (Nat.zero_le _) ?_ (Heap.lt_size hS) rfl (.inl ⟨rfl, _, oth _ _ (Ne.symm hSe) he⟩)
    (D.frame _ _ _ hst fun b hb o y => oth b o (fun q => hSf (q ▸ hb)) y) (fun j hj => absurd hj (Nat.not_lt_zero _)) hS₃ fun h' tk acc' c' f1 f2 f3 f4 => ?_⟩
  · show s.heap.objs.size ≤ ((s.heap.update S _).update S _).objs.size
    rw [Heap.size_update, Heap.size_update]
    exact Nat.le_refl _
  · exact hR h' tk acc' c' (fun b o hb h1 h2 h3 q => f1 b o hb h1 h2 h3 (oth b o h1 q)) f2 f3 f4
theorem list_init_enum {R : Result → Shared → Prop} {e it : Addr} {fp : List Addr} {n : Nat} {P : Nat → Value → Prop} {St : Nat → Heap → Prop} (D : Draws prog w A.in1.in1 it fp n P St) (hn : n ≤ sizeLine) (S : Addr)
    (hSe : S ≠ e) (hSi : S ≠ it) (hSf : S ∉ fp) (hne : e ≠ it) (hef : e ∉ fp) (he : IsEnum s.heap e it 0 .none) (hst : St 0 s.heap) (hil : it < s.heap.objs.size)
    (hS : s.heap.get? S = some { cls := .type "list", data := .seq #[] })
    (hR : ∀ h' tk acc' c', (∀ b o, b < s.heap.objs.size → b ≠ S → b ≠ e → b ≠ it → s.heap.get? b = some o → h'.get? b = some o) → acc'.size = n → Made h' s.heap.objs.size P acc' →
        h'.get? S = some { cls := .type "list", dict := none, data := .seq acc' c', slots := #[] } → R (.ok (.ret .none)) { s with heap := h', toks := tk }) :
    wpAny (model prog w) A.in1 (Builtin.«list.__init__» ⟨[.ref S, .ref e], []⟩)
      (fun fin s' => match fin with | .done f => R (.ok f) s' | .again c' => c'.quiet = true ∧ codeAny (model prog w) A c' R s') (fun e s' => R (.error e) s') s := by
  show wpAny _ A.in1 (do let old ← Builtin.List.listItems (.ref S); Builtin.List.listUpdate (.ref S) (fun _ => #[]); letGo old.toList.reverse; Builtin.List.listExtendWith (.ref S) (.ref e) .none) _ _ s
  refine wpAny_bind ?_
  unfold Builtin.List.listItems
  refine wpAny_bind (wpAny_seqItems hS rfl (wpAny_pure ?_))
  show wpAny _ A.in1 (updateSeq S (fun _ => #[]) >>= fun _ => letGo (#[] : Array Value).toList.reverse >>= fun _ => Builtin.List.listExtendWith (.ref S) (.ref e) .none) _ _ s
  refine wpAny_bind (wpAny_updateSeq hS rfl ?_)
  have hS₂ := Heap.get?_update_self (Obj.mapSeq (fun _ => (#[] : Array Value))) hS rfl
  have oth : ∀ b o, b ≠ S → s.heap.get? b = some o → (s.heap.update S (Obj.mapSeq (fun _ => (#[] : Array Value)))).get? b = some o :=
    fun b o hb e => (Heap.get?_update_other _ _ (Ne.symm hb)).trans e
  refine wpAny_bind (wpAny_letGo ?_)
  have hz : (s.heap.update S (Obj.mapSeq (fun _ => (#[] : Array Value)))).objs.size = s.heap.objs.size := Heap.size_update ..
  refine extend_enum (s := { s with heap := s.heap.update S (Obj.mapSeq (fun _ => (#[] : Array Value))) }) D hn S .none _ hSe hSi hSf hne hef (oth _ _ (Ne.symm hSe) he) (D.frame _ _ _ hst fun b hb o y => oth b o (fun q => hSf (q ▸ hb)) y) (by rw [hz]; exact hil) hS₂ fun h' tk acc' c' f1 f2 f3 f4 => ?_
  refine hR h' tk acc' c' (fun b o hb h1 h2 h3 q => f1 b o (by rw [hz]; exact hb) h1 h2 h3 (oth b o h1 q)) f2 (by rw [hz] at f3; exact f3) f4
/-- list(an enumerate object that has given nothing) -/
theorem call_list_enum {Q : Value → Shared → Prop} {e it : Addr} {fp : List Addr} {n : Nat} {P : Nat → Value → Prop} {St : Nat → Heap → Prop} (D : Draws prog w A.in1.in1.in1 it fp n P St) (hn : n ≤ sizeLine)
    (hfp : ∀ b ∈ fp, b < s.heap.objs.size) (hne : e ≠ it) (hef : e ∉ fp) (he : IsEnum s.heap e it 0 .none) (hst : St 0 s.heap) (hil : it < s.heap.objs.size)
    (hQ : ∀ h' tk acc' c', (∀ b o, b < s.heap.objs.size → b ≠ e → b ≠ it → s.heap.get? b = some o → h'.get? b = some o) → acc'.size = n → Made h' (s.heap.objs.size + 1) P acc' →
        h'.get? s.heap.objs.size = some { cls := .type "list", dict := none, data := .seq acc' c', slots := #[] } → Q (.ref s.heap.objs.size) { s with heap := h', toks := tk }) :
    wpAny (model prog w) A (call (.type "list") [.ref e]) Q E s := by
  have hel : e < s.heap.objs.size := Heap.lt_size he
  refine callType_codes (Q₁ := fun obj s₁ => obj = .ref s.heap.objs.size ∧ s₁ = { s with heap := s.heap.push { cls := .type "list", data := .seq #[] } }) F.called_list (F.typeCall_list_1 _) F.entry_list_init
    (code_list_new _ ⟨rfl, rfl⟩) fun obj s₁ h₁ => ?_
  obtain ⟨rfl, rfl⟩ := h₁
  have hS : (s.heap.push { cls := .type "list", data := .seq #[] }).get? s.heap.objs.size = some { cls := .type "list", data := .seq #[] } := Heap.get?_push_size _ rfl
  have hz : (s.heap.push { cls := .type "list", data := .seq #[] }).objs.size = s.heap.objs.size + 1 := Heap.size_push ..
  refine ⟨⟨_, hS, rfl⟩, F.args_list_init_2 _ _, list_init_enum (A := A.in1) (s := { s with heap := s.heap.push { cls := .type "list", data := .seq #[] } }) D hn s.heap.objs.size (Nat.ne_of_gt hel) (Nat.ne_of_gt hil) (fun q => Nat.lt_irrefl _ (hfp _ q)) hne hef
    (Heap.get?_push_of_some _ he) (D.frame _ _ _ hst fun b hb o y => Heap.get?_push_of_some _ y) (by rw [hz]; exact Nat.lt_succ_of_lt hil) hS fun h' tk acc' c' f1 f2 f3 f4 => ?_⟩
  refine ⟨rfl, hQ h' tk acc' c' (fun b o hb h1 h2 q => f1 b o (by rw [hz]; exact Nat.lt_succ_of_lt hb) (Nat.ne_of_lt hb) h1 h2 (Heap.get?_push_of_some _ q)) f2 (by rw [hz] at f3; exact f3) f4⟩
end
/-! ### what is tracked behind it -/
def tupsH (H : Hp) (i : Nat) : List (Addr × V) → Hp
  | [] => H
  | p :: r => tupsH (upd H p.1 (.tup [.int (i : Nat), p.2])) (i + 1) r
theorem tupsH_ne {b : Addr} : ∀ {ps : List (Addr × V)} {H : Hp} {i : Nat}, b ∉ ps.map (·.1) → tupsH H i ps b = H b
  | [], _, _, _ => rfl
  | p :: r, H, i, h => by
    rw [List.map_cons, List.mem_cons, not_or] at h
    exact (tupsH_ne h.2).trans (upd_ne h.1)
theorem tupsH_at : ∀ {ps : List (Addr × V)} {H : Hp} {i : Nat}, (ps.map (·.1)).Nodup → ∀ j p, ps[j]? = some p → tupsH H i ps p.1 = some (.tup [.int ((i + j : Nat) : Int), p.2])
  | [], _, _, _, _, _, h => by simp at h
  | q :: r, H, i, nd, 0, p, h => by
    rw [List.getElem?_cons_zero] at h
    cases h
    rw [List.map_cons, List.nodup_cons] at nd
    exact (tupsH_ne nd.1).trans upd_same
  | q :: r, H, i, nd, j + 1, p, h => by
    rw [List.getElem?_cons_succ] at h
    rw [List.map_cons, List.nodup_cons] at nd
    have := tupsH_at (H := upd H q.1 (.tup [.int (i : Nat), q.2])) (i := i + 1) nd.2 j p h
    rw [show i + (j + 1) = i + 1 + j by omega]
    exact this
def enumH (H : Hp) (l : Addr) (ps : List (Addr × V)) : Hp := upd (tupsH H 0 ps) l (.lst (ps.map fun p => .ref p.1))
theorem enumH_old {H : Hp} {l : Addr} {ps : List (Addr × V)} {b : Addr} (h1 : b ≠ l) (h2 : b ∉ ps.map (·.1)) : enumH H l ps b = H b := (upd_ne h1).trans (tupsH_ne h2)
theorem Inv.laidT {X : Cx} {pins : List (Addr × Obj)} {σ : L2.St} {H : Hp} {s : Shared} {h' : Heap} {t' : Nat} {l : Addr} {ps : List (Addr × V)} (I : Inv X pins σ H s) (k : ∀ b u, s.heap.get? b = some u → h'.get? b = some u)
    (nd : (ps.map (·.1)).Nodup) (hs : ∀ p ∈ ps, s.heap.objs.size ≤ p.1) (hl : s.heap.objs.size ≤ l) (hn : l ∉ ps.map (·.1)) (hz : ps.length ≤ sizeLine)
    (tp : ∀ j p, ps[j]? = some p → ∃ t u, RelV p.2 u ∧ h'.get? p.1 = some { cls := .type "tuple", data := .seq #[.int (j : Nat) t, u] })
    (ls : ∃ its n, Vals (ps.map fun p => V.ref p.1) its ∧ h'.get? l = some { cls := .type "list", data := .seq its.toArray n }) :
    Inv X pins σ (enumH H l ps) { s with heap := h', toks := t' } := by
  have old : ∀ b, b < s.heap.objs.size → enumH H l ps b = H b := fun b hb => enumH_old (Nat.ne_of_lt (Nat.lt_of_lt_of_le hb hl)) fun z => by
    obtain ⟨p, hp, e⟩ := List.mem_map.mp z
    have := hs p hp
    rw [e] at this
    exact absurd hb (Nat.not_lt.mpr this)
  have oldS : ∀ b o, H b = some o → enumH H l ps b = some o := fun b o q => (old b (I.hok.lt q)).trans q
  refine I.un (t' := t') ⟨fun b u q _ _ _ => k b u q, fun b u q _ _ _ => ⟨u.slots, k b u q⟩, fun b u q n _ => (old b (Heap.lt_size q)).trans n, fun b u q _ => ⟨u, k b u q⟩, fun b xs q => oldS b _ q, fun b u o q => oldS b _ q, fun b ps' q => ⟨#[], by rw [oldS b _ q]; simp⟩⟩ ?_
  intro b o q
  by_cases hbl : b = l
  · subst hbl
    rw [show enumH H b ps b = _ from upd_same] at q
    cases q
    obtain ⟨its, n, v, e⟩ := ls
    exact ⟨by rw [List.length_map]; exact hz, its, n, v, e⟩
  · by_cases hbt : b ∈ ps.map (·.1)
    · obtain ⟨p, hp, e⟩ := List.mem_map.mp hbt
      subst e
      obtain ⟨j, hj⟩ := List.mem_iff_getElem?.mp hp
      rw [show enumH H l ps p.1 = tupsH H 0 ps p.1 from upd_ne hbl, tupsH_at nd j p hj] at q
      cases q
      obtain ⟨t, u, ru, e⟩ := tp j p hj
      rw [Nat.zero_add]
      exact ⟨by show 2 ≤ sizeLine; decide, [.int ((j : Nat) : Int) t, u], .cons ⟨_, rfl⟩ (.cons ru .nil), ⟨_, e, rfl, _, rfl⟩⟩
    · rw [enumH_old hbl hbt] at q
      exact (I.hok b o q).stay (fun c v _ q => k c v q) (fun c q => oldS c _ q) fun c xs q => oldS c _ q
def tLE (K : PySem.W.Frag) (te : TE) : TE := fun σ H Q => te σ H fun v H1 => ∃ a xs, v = .ref a ∧ SqT K H1 a xs ∧ ∀ l ps, ps.map (·.2) = xs → xs.length ≤ sizeLine → (ps.map (·.1)).Nodup → (∀ p ∈ ps, H1 p.1 = none) → l ∉ ps.map (·.1) → H1 l = none → Q (.ref l) (enumH H1 l ps)
theorem pe_listEnum {X : Cx} {x : Expr} {te : TE} {p p2 pos pos2 : Pos} (hc : X.calm = true) (hg1 : Gl X "list") (hm1 : X.mg "list" = none) (hg2 : Gl X "enumerate") (hm2 : X.mg "enumerate" = none) (ha : PE X x te) (hs : starEach [x] X.env = [(false, eval x X.env)]) :
    PE X (.Call (.Name "list" p) [.Call (.Name "enumerate" p2) [x] [] pos2] [] pos) (tLE X.K te) := by
  refine ⟨fun pins s σ H Q I h => ?_⟩
  refine Call_ (ld_blt I hg1 hm1 PyProof.Rows.boot_list (PyProof.Rows.callWith_type1 ?_ rfl rfl))
  refine Calls.spliced_cons ?_
  refine Call_ (ld_blt I hg2 hm2 boot_enumerate (PyProof.Rows.callWith_type1 ?_ hs rfl))
  rw [hs]
  refine Calls.spliced_cons (thn (ha.run pins s σ H _ I h) fun u s1 ⟨v, H1, I1, r1, q1⟩ => Calls.spliced_nil ?_)
  obtain ⟨a, xs, e, hq, q⟩ := q1
  subst e
  cases r1
  obtain ⟨its, rv, p', hz⟩ := I1.tuple hq
  have hl := rv.length
  refine call_enumerate_tuple (show s1.heap.IsTuple a its.toArray from p') fun h' he hit hsz hk => Calls.spliced_nil ?_
  have hT : h'.IsTuple a its.toArray := (show s1.heap.IsTuple a its.toArray from p').at fun o y => hk _ _ y
  have hai : a ≠ s1.heap.objs.size := tupIter_ne hT hit
  have hae : s1.heap.objs.size + 1 ≠ a := by
    rintro rfl
    obtain ⟨o, q, c, _⟩ := hT
    rw [he] at q
    cases q
    exact absurd (show Value.type "enumerate" = Value.type "tuple" from c) (by decide)
  have D := Draws.tuple (prog := X.prog) (w := X.w) (A := X.A.in1.in1.in1) (by have := I1.ok.hd hc; exact this) s1.heap.objs.size a hai its.toArray
  have hn : its.toArray.size = its.length := List.size_toArray ..
  have hat : s1.heap.objs.size + 1 < h'.objs.size := by rw [hsz]; exact Nat.lt_succ_self _
  have hax : a < h'.objs.size := by obtain ⟨o, e, _⟩ := hT; exact Heap.lt_size e
  refine call_list_enum (s := { s1 with heap := h' }) D (by rw [hn, ← hl]; exact hz) (fun b hb => ?_) (Nat.succ_ne_self _) (by simp [hae]) he ⟨hit, hT⟩ (Nat.lt_of_succ_lt hat) fun h'' tk acc c f1 f2 f3 f4 => ?_
  · have e' : b = s1.heap.objs.size ∨ b = a := by simpa using hb
    rcases e' with z | z
    · rw [z]; exact Nat.lt_of_succ_lt hat
    · rw [z]; exact hax
  have kall : ∀ b o, s1.heap.get? b = some o → h''.get? b = some o := fun b o y => by
    have hb := Heap.lt_size y
    exact f1 b o (Nat.lt_trans hb (Nat.lt_of_succ_lt hat)) (Nat.ne_of_lt (Nat.lt_succ_of_lt hb)) (Nat.ne_of_lt hb) (hk b o y)
  have hna : acc.size = its.length := by rw [f2, hn]
  let f : Value → Addr := fun v => match v with | .ref T => T | _ => 0
  have hf : ∀ j, j < its.length → ∃ T t u, (acc.toList.map f)[j]? = some T ∧ acc.toList[j]? = some (.ref T) ∧ h'.objs.size + 1 ≤ T ∧ its[j]? = some u ∧ h''.get? T = some { cls := .type "tuple", data := .seq #[.int (j : Nat) t, u] } := fun j hj => by
    obtain ⟨T, t, u, b1, b2, b3, b4⟩ := f3 j (by rw [hna]; exact hj)
    have b1' : acc.toList[j]? = some (.ref T) := by rw [Array.getElem?_toList]; exact b1
    refine ⟨T, t, u, ?_, b1', b2, ?_, b4⟩
    · rw [List.getElem?_map, b1']; rfl
    · simpa using b3
  have lf : (acc.toList.map f).length = its.length := by rw [List.length_map, Array.length_toList, hna]
  have mf : ((acc.toList.map f).zip xs).map (·.1) = acc.toList.map f := List.map_fst_zip (by omega)
  have ms : ((acc.toList.map f).zip xs).map (·.2) = xs := List.map_snd_zip (by omega)
  have nd : (acc.toList.map f).Nodup := by
    refine List.pairwise_iff_getElem.mpr fun i j hi hj hij e => ?_
    obtain ⟨T, t, u, c1, _, _, _, c4⟩ := hf i (by omega)
    obtain ⟨T2, t2, u2, d1, _, _, _, d4⟩ := hf j (by omega)
    rw [List.getElem?_eq_getElem hi] at c1
    rw [List.getElem?_eq_getElem hj] at d1
    have e1 := Option.some.inj c1
    have e2 := Option.some.inj d1
    rw [← e1, e, e2, d4] at c4
    injection c4 with c4
    injection c4 with _ _ c4 _
    injection c4 with c4 _
    have := congrArg (fun a : Array Value => a[0]?) c4
    simp at this
    omega
  have mem : ∀ T ∈ acc.toList.map f, h'.objs.size + 1 ≤ T := fun T hT => by
    obtain ⟨j, hj⟩ := List.mem_iff_getElem?.mp hT
    have hlt := (List.getElem?_eq_some_iff.mp hj).1
    obtain ⟨T2, t, u, c1, _, c2, _⟩ := hf j (by omega)
    rw [hj] at c1
    cases c1
    exact c2
  have hln : h'.objs.size ∉ acc.toList.map f := fun z => Nat.not_succ_le_self _ (mem _ z)
  have h1s : s1.heap.objs.size ≤ h'.objs.size := by rw [hsz]; exact Nat.le_add_right _ _
  have fr : ∀ p ∈ (acc.toList.map f).zip xs, s1.heap.objs.size ≤ p.1 := fun p hp => by
    have := mem p.1 (by rw [← mf]; exact List.mem_map_of_mem hp)
    exact Nat.le_trans h1s (Nat.le_of_succ_le this)
  refine ⟨.ref h'.objs.size, enumH H1 h'.objs.size ((acc.toList.map f).zip xs), Inv.laidT (s := s1) (h' := h'') (t' := tk) I1 kall (by rw [mf]; exact nd) fr h1s (by rw [mf]; exact hln) (by rw [List.length_zip, lf, hl]; omega) ?_ ?_, rfl, q _ _ ms hz (by rw [mf]; exact nd) (fun p hp => I1.hok.fresh (fr p hp)) (by rw [mf]; exact hln) (I1.hok.fresh h1s)⟩
  · intro j p hj
    have hlt := (List.getElem?_eq_some_iff.mp hj).1
    rw [List.length_zip] at hlt
    obtain ⟨T, t, u, c1, _, _, c3, c4⟩ := hf j (by omega)
    rw [List.getElem?_zip_eq_some] at hj
    rw [c1] at hj
    have e1 := Option.some.inj hj.1
    obtain ⟨u', hu', ru⟩ := rv.get hj.2
    rw [c3] at hu'
    cases hu'
    exact ⟨t, u, ru, by rw [← e1]; exact c4⟩
  · refine ⟨acc.toList, c, ?_, f4⟩
    have e1 : ((acc.toList.map f).zip xs).map (fun p => V.ref p.1) = (acc.toList.map f).map V.ref := by
      conv => rhs; rw [← mf]
      rw [List.map_map]; rfl
    rw [e1]
    have key : ∀ us : List Value, (∀ v ∈ us, ∃ T, v = .ref T) → Vals ((us.map f).map V.ref) us := by
      intro us
      induction us with
      | nil => intro _; exact .nil
      | cons u r ih =>
        intro h
        obtain ⟨T, rfl⟩ := h u List.mem_cons_self
        exact .cons rfl (ih fun v hv => h v (List.mem_cons_of_mem _ hv))
    refine key _ fun v hv => ?_
    obtain ⟨j, hj⟩ := List.mem_iff_getElem?.mp hv
    have hlt := (List.getElem?_eq_some_iff.mp hj).1
    rw [Array.length_toList, hna] at hlt
    obtain ⟨T, t, u, _, c1, _⟩ := hf j hlt
    rw [hj] at c1
    exact ⟨T, Option.some.inj c1⟩
end Dl

set_option Elab.async false
set_option linter.all false
set_option maxRecDepth 100000
set_option maxHeartbeats 4000000
/-! the data layer, part 38: zip of a tuple and a list -/
namespace Dl
open PySem PySem.Spec PyProof.Rows L2 RZ
abbrev zM1 (h : Heap) (l1 : Addr) : Heap := h.push { cls := .type "tuple_iterator", data := .fields #[.ref l1, .int 0 0] }
abbrev zM2 (h : Heap) (l1 l2 : Addr) : Heap := (zM1 h l1).push { cls := .type "list_iterator", data := .fields #[.ref l2, .int 0 0] }
abbrev zM3 (h : Heap) (l1 l2 : Addr) : Heap := (zM2 h l1 l2).push { cls := .type "tuple", data := .seq #[.ref h.objs.size, .ref (zM1 h l1).objs.size] }
abbrev zM4 (h : Heap) (l1 l2 : Addr) : Heap := (zM3 h l1 l2).push { cls := .type "tuple", data := .seq #[.none, .none] }
abbrev zM5 (h : Heap) (l1 l2 : Addr) : Heap := (zM4 h l1 l2).push { cls := .type "zip", data := .fields #[.none, .bool false, .bool false, .ref (zM2 h l1 l2).objs.size, .ref (zM3 h l1 l2).objs.size] }
theorem meets_zipM_new (l1 l2 : Addr) (xs ys : Array Value) :
    Meets (Builtin.«zip.__new__» ⟨[.type "zip", .ref l1, .ref l2], []⟩) (fun _ R s => s.heap.IsTuple l1 xs ∧ s.heap.IsList l2 ys ∧
      R (.ok (.ret (.ref (zM4 s.heap l1 l2).objs.size))) { s with heap := zM5 s.heap l1 l2 }) :=
  .of_wp fun prog w A R s h => by
    obtain ⟨hp, g, d, tk, os⟩ := s; obtain ⟨hl1, hl2, h⟩ := h
    have hsub := sub_zip
    have hL1 : Heap.IsTuple (Shared.heap ⟨hp, g, d, tk, os⟩) l1 xs := hl1
    have hL2 : Heap.IsList (Shared.heap ⟨hp.push { cls := .type "tuple_iterator", data := .fields #[.ref l1, .int 0 0] }, g, d, tk, os⟩) l2 ys := Heap.IsList.push hl2 _
    wp_walk using wpAny_pyIter_tuple hL1, wpAny_pyIter_list hL2
    exact ⟨_, rfl, h⟩
section
variable {prog : Program} {w : World} {A : Around} {E : Value → Shared → Prop} {s : Shared}
theorem call_zipM {l1 l2 : Addr} {xs ys : Array Value} {Q : Value → Shared → Prop} (hl1 : s.heap.IsTuple l1 xs) (hl2 : s.heap.IsList l2 ys)
    (h : ∀ h', IsZip h' (s.heap.objs.size + 4) (s.heap.objs.size + 2) (s.heap.objs.size + 3) .none → IsPair h' (s.heap.objs.size + 2) (.ref s.heap.objs.size) (.ref (s.heap.objs.size + 1)) →
      IsPair h' (s.heap.objs.size + 3) .none .none → h'.IsTupleIter s.heap.objs.size l1 0 → h'.IsListIter (s.heap.objs.size + 1) l2 0 → h'.objs.size = s.heap.objs.size + 5 →
      (∀ c o, s.heap.get? c = some o → h'.get? c = some o) → Q (.ref (s.heap.objs.size + 4)) { s with heap := h' }) :
    wpAny (model prog w) A (call (.type "zip") [.ref l1, .ref l2]) Q E s := by
  refine callType_new F.called_zip (by decide) (F.typeCall_zip_2 _ _) (F.newCall_zip_2 _ _) (fun obj => F.args_object_init_3 obj _ _) F.entry_zip_new
    (meets_zipM_new l1 l2 xs ys) ⟨hl1, hl2, ?_⟩
  have z1 : (zM1 s.heap l1).objs.size = s.heap.objs.size + 1 := Heap.size_push ..
  have z2 : (zM2 s.heap l1 l2).objs.size = s.heap.objs.size + 2 := by rw [Heap.size_push, z1]
  have z3 : (zM3 s.heap l1 l2).objs.size = s.heap.objs.size + 3 := by rw [Heap.size_push, z2]
  have z4 : (zM4 s.heap l1 l2).objs.size = s.heap.objs.size + 4 := by rw [Heap.size_push, z3]
  have z5 : (zM5 s.heap l1 l2).objs.size = s.heap.objs.size + 5 := by rw [Heap.size_push, z4]
  have g5 : (zM5 s.heap l1 l2).get? (zM4 s.heap l1 l2).objs.size = some _ := Heap.get?_push_size _ rfl
  have g4 : (zM5 s.heap l1 l2).get? (zM3 s.heap l1 l2).objs.size = some _ := Heap.get?_push_of_some _ (Heap.get?_push_size _ rfl)
  have g3 : (zM5 s.heap l1 l2).get? (zM2 s.heap l1 l2).objs.size = some _ := Heap.get?_push_of_some _ (Heap.get?_push_of_some _ (Heap.get?_push_size _ rfl))
  have g2 : (zM5 s.heap l1 l2).get? (zM1 s.heap l1).objs.size = some _ := Heap.get?_push_of_some _ (Heap.get?_push_of_some _ (Heap.get?_push_of_some _ (Heap.get?_push_size _ rfl)))
  have g1 : (zM5 s.heap l1 l2).get? s.heap.objs.size = some _ := Heap.get?_push_of_some _ (Heap.get?_push_of_some _ (Heap.get?_push_of_some _ (Heap.get?_push_of_some _ (Heap.get?_push_size _ rfl))))
  show _ ∧ _
  rw [z2, z3, z4] at g5
  rw [z1, z2] at g3
  rw [z3] at g4
  rw [z1] at g2
  rw [z4]
  exact ⟨⟨_, g5, rfl⟩, h _ g5 g3 g4 ⟨_, g1, rfl, rfl⟩ ⟨_, g2, rfl, rfl⟩ z5 fun c o x =>
    Heap.get?_push_of_some _ (Heap.get?_push_of_some _ (Heap.get?_push_of_some _ (Heap.get?_push_of_some _ (Heap.get?_push_of_some _ x))))⟩
end
/-- the tuple at a and the list at b, the items in new pairs -/
def ItzM (K : PySem.W.Frag) (a b : Addr) : It :=
  ⟨fun i H => ∃ (xs ys : List V) (x y : V), SqT K H a xs ∧ SqL K H b ys ∧ xs[i]? = some x ∧ ys[i]? = some y,
    fun i H v H' => ∃ T x y, v = .ref T ∧ H T = none ∧ H' = upd H T (.tup [x, y]) ∧ (∀ xs, SqT K H a xs → xs[i]? = some x) ∧ ∀ ys, SqL K H b ys → ys[i]? = some y,
    fun i H => ∃ xs ys : List V, SqT K H a xs ∧ SqL K H b ys ∧ i = min xs.length ys.length⟩
theorem sepM {z TI TO i1 i2 a b : Addr} (D : ZipApart z TI TO i1 i2 a b) : ZipSep2 z TI TO i1 i2 [i1, a] [i2, b] where
  TIz := D.TIz
  TOz := D.TOz
  TITO := D.TITO
  TIi1 := D.TIi1
  mem1 := by simp
  zf1 := by simp; exact ⟨fun e => D.i1z e.symm, fun e => D.l1z e.symm⟩
  Tf1 := by simp; exact ⟨D.TOi1, fun e => D.l1TO e.symm⟩
  TIi2 := D.TIi2
  mem2 := by simp
  zf2 := by simp; exact ⟨fun e => D.i2z e.symm, fun e => D.l2z e.symm⟩
  Tf2 := by simp; exact ⟨D.TOi2, fun e => D.l2TO e.symm⟩
  sep1_2 := by simp; exact ⟨D.i12, fun e => D.l2i1 e.symm⟩
  sep2_1 := by simp; exact ⟨fun e => D.i12 e.symm, fun e => D.l1i2 e.symm⟩
theorem turn_zipM {P : Program} {w : World} {K : PySem.W.Frag} {elts : List Expr} {kk : Nat} {tpos : Pos} {a b z TI TO i1 i2 : Addr} (D : ZipApart z TI TO i1 i2 a b) :
    Turn P w K (.Tuple elts kk tpos) (ItzM K a b) [z, TI, TO, i1, i2] z (fun i h => IsZip h z TI TO .none ∧ IsPair h TI (.ref i1) (.ref i2) ∧ (∃ x y, IsPair h TO x y) ∧ h.IsTupleIter i1 a i ∧ h.IsListIter i2 b i) where
  mem := by simp
  obj := fun i h st c hc => by
    obtain ⟨hz, hTI, ⟨x, y, hTO⟩, ⟨o1, e1, _, d1⟩, ⟨o2, e2, _, d2⟩⟩ := st
    have e' : c = z ∨ c = TI ∨ c = TO ∨ c = i1 ∨ c = i2 := by simpa using hc
    rcases e' with q | q | q | q | q
    · rw [q]; exact ⟨_, hz, fun v q => nomatch q⟩
    · rw [q]; exact ⟨_, hTI, fun v q => nomatch q⟩
    · rw [q]; exact ⟨_, hTO, fun v q => nomatch q⟩
    · rw [q]; exact ⟨o1, e1, fun v q => by rw [d1] at q; cases q⟩
    · rw [q]; exact ⟨o2, e2, fun v q => by rw [d2] at q; cases q⟩
  keep := fun i h h' st k => by
    obtain ⟨hz, hTI, ⟨x, y, hTO⟩, h1, h2⟩ := st
    exact ⟨k z (by simp) _ hz, k TI (by simp) _ hTI, ⟨x, y, k TO (by simp) _ hTO⟩, h1.at fun o q => k i1 (by simp) o q, h2.at fun o q => k i2 (by simp) o q⟩
  item := by
    intro X hP hw hK hc i pins s σ H E I hf st hg
    subst hP hw hK
    obtain ⟨hz, hTI, ⟨x0, y0, hTO⟩, h1, h2⟩ := st
    obtain ⟨xs, ys, x, y, hqx, hqy, hx, hy⟩ := hg
    obtain ⟨its, rv, p, _⟩ := I.tuple hqx
    obtain ⟨its2, rv2, p2, _⟩ := I.list hqy
    obtain ⟨u, hu, ru⟩ := rv.get hx
    obtain ⟨u2, hu2, ru2⟩ := rv2.get hy
    have hzl : z < s.heap.objs.size := Heap.lt_size hz
    have hd := I.ok.hd hc
    have l1 : i < its.toArray.size := by
      have := (List.getElem?_eq_some_iff.mp hu).1
      simpa using this
    have l2 : i < its2.toArray.size := by
      have := (List.getElem?_eq_some_iff.mp hu2).1
      simpa using this
    refine wpAny_pyNext_zipD2_item (sepM D) (Draws.tuple (A := X.A.in1) hd i1 a D.l1i1 its.toArray) (Draws.list (A := X.A.in1) hd i2 b D.l2i2 its2.toArray) hz hTI hTO ⟨h1, p⟩ ⟨h2, p2.isList⟩ l1 l2 fun x1 x2 h' tk e1 e2 z' TO' h1' h2' hT hsz hk => ?_
    have e1' : x1 = u := by
      have e1 : its.toArray[i]? = some x1 := e1
      rw [List.getElem?_toArray, hu] at e1
      exact (Option.some.inj e1).symm
    have e2' : x2 = u2 := by
      have e2 : its2.toArray[i]? = some x2 := e2
      rw [List.getElem?_toArray, hu2] at e2
      exact (Option.some.inj e2).symm
    subst e1' e2'
    refine ⟨_, rfl, wpAny_letOwnedTupleGo_zip (s := { s with heap := h', toks := tk }) z' fun h'' z'' sb => ?_⟩
    have hT2 : h''.get? s.heap.objs.size = some { cls := .type "tuple", data := .seq #[x1, x2] } := (sb.2 _ (Nat.ne_of_gt hzl)).trans hT
    have new : ObjOk X.prog X.w (upd H s.heap.objs.size (.tup [x, y])) h'' s.heap.objs.size (.tup [x, y]) :=
      ⟨by show 2 ≤ sizeLine; decide, [x1, x2], .cons ru (.cons ru2 .nil), ⟨_, hT2, rfl, _, rfl⟩⟩
    have I1 : Inv X pins σ (upd H s.heap.objs.size (.tup [x, y])) { s with heap := h'', toks := tk } :=
      I.turnedNew (t' := tk) (ch := [z, TI, TO, i1, i2]) (fun c o hb q => (sb.2 c (fun q' => hb (by simp [q']))).trans (hk c o (fun q' => hb (by simp [q'])) (fun q' => hb (by simp [q'])) (fun q' => hb (by simp [q'])) (fun q' => hb (by simp [q'])) q)) hf (Nat.le_refl _) new
    refine ⟨.ref s.heap.objs.size, _, I1, rfl, ⟨_, x, y, rfl, I.hok.fresh (Nat.le_refl _), rfl, fun l hl => by rw [I.tuple_inj hl hqx]; exact hx, fun l hl => by rw [I.list_inj hl hqy]; exact hy⟩, ⟨z'', ?_, ⟨x1, x2, ?_⟩, ?_, ?_⟩, fun c hcm => ?_⟩
    · exact (sb.2 _ D.TIz).trans (hk _ _ D.TIz D.TITO D.TIi1 D.TIi2 hTI)
    · exact (sb.2 _ D.TOz).trans TO'
    · exact h1'.1.at fun o q => (sb.2 _ D.i1z).trans q
    · exact h2'.1.at fun o q => (sb.2 _ D.i2z).trans q
    · have hlt : c < s.heap.objs.size := by
        have e' : c = z ∨ c = TI ∨ c = TO ∨ c = i1 ∨ c = i2 := by simpa using hcm
        rcases e' with q | q | q | q | q
        · rw [q]; exact hzl
        · rw [q]; exact Heap.lt_size hTI
        · rw [q]; exact Heap.lt_size hTO
        · rw [q]; obtain ⟨_, e1, _⟩ := h1; exact Heap.lt_size e1
        · rw [q]; obtain ⟨_, e2, _⟩ := h2; exact Heap.lt_size e2
      rw [upd_ne (Nat.ne_of_lt hlt)]
      exact (hf c hcm).1
  done := by
    intro X hP hw hK hc i pins s σ H E I hf st hg
    subst hP hw hK
    obtain ⟨hz, hTI, ⟨x0, y0, hTO⟩, h1, h2⟩ := st
    obtain ⟨xs, ys, hqx, hqy, hend⟩ := hg
    obtain ⟨its, rv, p, _⟩ := I.tuple hqx
    obtain ⟨its2, rv2, p2, _⟩ := I.list hqy
    have l1 := rv.length
    have l2 := rv2.length
    have hd := I.ok.hd hc
    have n1 : its.toArray.size = xs.length := by rw [List.size_toArray]; exact l1.symm
    have n2 : its2.toArray.size = ys.length := by rw [List.size_toArray]; exact l2.symm
    refine wpAny_pyNext_zipD2_end (sepM D) (Draws.tuple (A := X.A.in1) hd i1 a D.l1i1 its.toArray) (Draws.list (A := X.A.in1) hd i2 b D.l2i2 its2.toArray) hz hTI hTO ⟨h1, p⟩ ⟨h2, p2.isList⟩ (by rw [n1]; omega) (by rw [n2]; omega) (by rw [n1, n2]; omega) fun h' tk hk => ?_
    exact ⟨rfl, I.turnedL (t' := tk) (ch := [z, TI, TO, i1, i2]) (fun c o hb q =>
      hk c o (fun q' => hb (by simp [q'])) (fun q' => hb (by simp [q'])) (fun q' => hb (by simp [q'])) (fun q' => hb (by simp [q'])) q) hf⟩
  self := fun A i s Q E st h => wpAny_pyIter_zip st.1 h
def iZipM (K : PySem.W.Frag) (ta : TA) : TI := fun σ H R => ta σ H fun vs H1 => ∃ a b xs ys, vs = [.ref a, .ref b] ∧
  ((SqL K H1 a xs ∧ SqL K H1 b ys ∧ R (Itz K a b) H1) ∨ (SqT K H1 a xs ∧ SqT K H1 b ys ∧ R (ItzT K a b) H1) ∨ (SqT K H1 a xs ∧ SqL K H1 b ys ∧ R (ItzM K a b) H1))
theorem pi_zipM {X : Cx} {e e2 : Expr} {ta : TA} {p pos tpos : Pos} {elts : List Expr} {kk : Nat} (hg : Gl X "zip") (hm : X.mg "zip" = none) (ha : PA X [e, e2] ta)
    (hs : starEach [e, e2] X.env = (false, eval e X.env) :: starEach [e2] X.env := by rfl) (hpl : (backTo pos (starEach [e2] X.env)).any (·.1) = false := by rfl) :
    PI X (.Tuple elts kk tpos) (.Call (.Name "zip" p) [e, e2] [] pos) (iZipM X.K ta) := by
  refine ⟨fun pins s σ H R I h => ?_⟩
  refine Call_ (ld_blt I hg hm PyProof.Rows.boot_zip (PyProof.Rows.callWith_type1 (thn (ha.run pos pins s σ H _ I h) fun us s1 ⟨vs, H1, I1, r1, q1⟩ => ?_) hs hpl))
  obtain ⟨a, b, xs, ys, ex, q1⟩ := q1
  subst ex
  cases r1 with
  | cons r rr =>
    cases rr with
    | cons r' rr =>
      cases rr
      cases r
      cases r'
      have fresh5 : ∀ c, c ∈ [s1.heap.objs.size + 4, s1.heap.objs.size + 2, s1.heap.objs.size + 3, s1.heap.objs.size, s1.heap.objs.size + 1] → FpOk X pins H1 c := fun c hcm => by
        have e' : c = s1.heap.objs.size + 4 ∨ c = s1.heap.objs.size + 2 ∨ c = s1.heap.objs.size + 3 ∨ c = s1.heap.objs.size ∨ c = s1.heap.objs.size + 1 := by simpa using hcm
        have hle : s1.heap.objs.size ≤ c := by
          rcases e' with z | z | z | z | z <;> rw [z]
          · exact Nat.le_add_right _ _
          · exact Nat.le_add_right _ _
          · exact Nat.le_add_right _ _
          · exact Nat.le_refl _
          · exact Nat.le_add_right _ _
        exact I1.fpOk hle (I1.hok.fresh hle)
      rcases q1 with ⟨hqx, hqy, q⟩ | ⟨hqx, hqy, q⟩ | ⟨hqx, hqy, q⟩
      · obtain ⟨its, rv, p1, _⟩ := I1.list hqx
        obtain ⟨its2, rv2, p2, _⟩ := I1.list hqy
        refine call_zip_2 p1.isList p2.isList fun h' hz hTI hTO h1 h2 hsz hk => wpAny_pyIter_zip hz ?_
        have I2 : Inv X pins σ H1 { s1 with heap := h' } := I1.kept (t' := s1.toks) hk
        exact ⟨s1.heap.objs.size + 4, [s1.heap.objs.size + 4, s1.heap.objs.size + 2, s1.heap.objs.size + 3, s1.heap.objs.size, s1.heap.objs.size + 1], _, _, H1, rfl, I2, turn_zip (PySem.W.ktu_apart s1.heap.objs.size a b p1.lt p2.lt), ⟨hz, hTI, ⟨_, _, hTO⟩, h1, h2⟩, fresh5, q⟩
      · obtain ⟨its, rv, p1, _⟩ := I1.tuple hqx
        obtain ⟨its2, rv2, p2, _⟩ := I1.tuple hqy
        obtain ⟨o1, ho1, _⟩ := id p1
        obtain ⟨o2, ho2, _⟩ := id p2
        refine call_zipT (show s1.heap.IsTuple a its.toArray from p1) (show s1.heap.IsTuple b its2.toArray from p2) fun h' hz hTI hTO h1 h2 hsz hk => wpAny_pyIter_zip hz ?_
        have I2 : Inv X pins σ H1 { s1 with heap := h' } := I1.kept (t' := s1.toks) hk
        exact ⟨s1.heap.objs.size + 4, [s1.heap.objs.size + 4, s1.heap.objs.size + 2, s1.heap.objs.size + 3, s1.heap.objs.size, s1.heap.objs.size + 1], _, _, H1, rfl, I2, turn_zipT (PySem.W.ktu_apart s1.heap.objs.size a b (Heap.lt_size ho1) (Heap.lt_size ho2)), ⟨hz, hTI, ⟨_, _, hTO⟩, h1, h2⟩, fresh5, q⟩
      · obtain ⟨its, rv, p1, _⟩ := I1.tuple hqx
        obtain ⟨its2, rv2, p2, _⟩ := I1.list hqy
        obtain ⟨o1, ho1, _⟩ := id p1
        refine call_zipM (show s1.heap.IsTuple a its.toArray from p1) p2.isList fun h' hz hTI hTO h1 h2 hsz hk => wpAny_pyIter_zip hz ?_
        have I2 : Inv X pins σ H1 { s1 with heap := h' } := I1.kept (t' := s1.toks) hk
        exact ⟨s1.heap.objs.size + 4, [s1.heap.objs.size + 4, s1.heap.objs.size + 2, s1.heap.objs.size + 3, s1.heap.objs.size, s1.heap.objs.size + 1], _, _, H1, rfl, I2, turn_zipM (PySem.W.ktu_apart s1.heap.objs.size a b (Heap.lt_size ho1) p2.lt), ⟨hz, hTI, ⟨_, _, hTO⟩, h1, h2⟩, fresh5, q⟩
end Dl

set_option Elab.async false
set_option linter.all false
set_option maxRecDepth 100000
set_option maxHeartbeats 8000000
/-! the data layer, part 11: walks over data -/
namespace Dl
open PySem PySem.Spec PyProof.Rows L2
section
variable {W : Wd} {Γ : Gam} {EX : XK} {X : Cx} {k : Nat} {N : List Str} {sc : Scope} {l : Bool}

theorem ItOk.list {F : Hp} {a : Addr} {vs : List V} {items : List D} (e : F a = some (.lst vs)) (d : Dats W.K F vs items) : ItOk W F (Itl W.K a) items := by
  refine ⟨fun H => SqL W.K H a vs, YAt vs, by rw [← d.length]; exact walk_list, fun F' H' s f => .inl (.inl (f.sub _ _ (s _ _ e))), fun i F1 H1 x H2 s f g hi y => ?_⟩
  obtain ⟨rfl, hy⟩ := y
  obtain ⟨d', h1, h2⟩ := d.getV hy
  exact ⟨F1, d', .refl f g, h1, h2.mono s⟩
theorem ItOk.tup {F : Hp} {a : Addr} {vs : List V} {items : List D} (e : TupAt W.K F a vs) (d : Dats W.K F vs items) : ItOk W F (Itt W.K a) items := by
  refine ⟨fun H => SqT W.K H a vs, YAt vs, by rw [← d.length]; exact walk_tup, fun F' H' s f => ((e.mono s).mono f.sub).seq, fun i F1 H1 x H2 s f g hi y => ?_⟩
  obtain ⟨rfl, hy⟩ := y
  obtain ⟨d', h1, h2⟩ := d.getV hy
  exact ⟨F1, d', .refl f g, h1, h2.mono s⟩
theorem rangeL_get {lo c : Int} {n i : Nat} (h : i < n) : (rangeL lo c n)[i]? = some (.int (lo + (i : Int) * c)) := by
  unfold rangeL
  rw [List.getElem?_map, List.getElem?_range h]
  rfl
theorem rangeL_len {lo c : Int} {n : Nat} : (rangeL lo c n).length = n := by simp [rangeL]
theorem ItOk.rng {F : Hp} {lo : Int} {n : Nat} : ItOk W F (Itr lo n) (rangeL lo 1 n) := by
  refine ⟨fun _ => True, YFn fun i => .int (lo + i), by rw [rangeL_len]; exact walk_range, fun _ _ _ _ => trivial, fun i F1 H1 x H2 s f g hi y => ?_⟩
  obtain ⟨rfl, rfl⟩ := y
  rw [rangeL_len] at hi
  refine ⟨F1, _, .refl f g, rangeL_get hi, ?_⟩
  rw [Int.mul_one]
  exact .int _
theorem ItOk.rngC {F : Hp} {lo c : Int} {n : Nat} : ItOk W F (Itc lo c n) (rangeL lo c n) := by
  refine ⟨fun _ => True, YFn fun i => .int (lo + (i : Nat) * c), by rw [rangeL_len]; exact walk_rangeC, fun _ _ _ _ => trivial, fun i F1 H1 x H2 s f g hi y => ?_⟩
  obtain ⟨rfl, rfl⟩ := y
  rw [rangeL_len] at hi
  exact ⟨F1, _, .refl f g, rangeL_get hi, .int _⟩
theorem ItOk.pair {F : Hp} {J : It} {n : Nat} {G : Hp → Prop} {f1 f2 : Nat → Option V} {items : List D} (w : Walk J n G (YPair f1 f2)) (hn : items.length = n) (hG : ∀ F' H', Same F F' → FOk W F' H' → G H')
    (hi : ∀ i x y, i < n → f1 i = some x → f2 i = some y → ∃ d e, Dat W.K F x d ∧ Dat W.K F y e ∧ items[i]? = some (.tuple [d, e])) : ItOk W F J items := by
  refine ⟨G, _, by rw [hn]; exact w, hG, fun i F1 H1 x H2 s f g hlt y => ?_⟩
  obtain ⟨T, u, v, rfl, nT, rfl, e1, e2⟩ := y
  obtain ⟨d, e, r1, r2, h⟩ := hi i u v (by omega) e1 e2
  refine ⟨_, _, Ext.tup f g nT, h, .tup (.inl upd_same) (.cons ?_ (.cons ?_ .nil)) (show 2 ≤ 16777216 by decide)⟩
  · exact (r1.mono s).mono (same_new (f.none nT))
  · exact (r2.mono s).mono (same_new (f.none nT))
theorem enumL_get {xs : List D} {i : Nat} {d : D} (h : xs[i]? = some d) : (enumL xs)[i]? = some (.tuple [.int (i : Int), d]) := by
  have hi : i < xs.length := (List.getElem?_eq_some_iff.mp h).1
  unfold enumL
  rw [List.getElem?_zipWith, List.getElem?_range hi, h]
theorem enumL_len {xs : List D} : (enumL xs).length = xs.length := by simp [enumL]
theorem zipL_get {xs ys : List D} {i : Nat} {d e : D} (h : xs[i]? = some d) (h' : ys[i]? = some e) : (zipL xs ys)[i]? = some (.tuple [d, e]) := by
  unfold zipL
  rw [List.getElem?_zipWith, h, h']
theorem zipL_len {xs ys : List D} : (zipL xs ys).length = min xs.length ys.length := by simp [zipL]
/-! ### the sources -/
theorem i_of (C : CtxOk W Γ k EX N sc l X) {e : E} {tg x : Expr} (h : PE X x (tE W Γ EX e)) : PI X tg x (tIt W Γ EX (.of e)) := by
  refine (pi_seq h).impD fun σ H R q => ?_
  obtain ⟨F, ρ, Qd, Xd, s, w, q, x⟩ := q
  refine ⟨F, ρ, _, Xd, s, w, fun d v F' H' e1 r1 ⟨xs, h1, h2⟩ => ?_, x⟩
  cases d with
  | list ys =>
    cases h1
    cases r1 with
    | lst e d z => exact ⟨_, _, rfl, .inl ⟨.inl (.inl (e1.ok.sub _ _ e)), by rw [C.hK]; exact q _ _ F' H' e1 (.list e d) z (h2 z)⟩⟩
  | tuple ys =>
    cases h1
    cases r1 with
    | tup e d z => exact ⟨_, _, rfl, .inr ⟨by rw [C.hK]; exact (e.mono e1.ok.sub).seq, by rw [C.hK]; exact q _ _ F' H' e1 (.tup e d) z (h2 z)⟩⟩
  | none => cases h1
  | bool _ => cases h1
  | int _ => cases h1
  | str _ => cases h1
  | dict _ => cases h1
theorem ItOk.str {F : Hp} {x : Str} (h : PyData.strOk x = true) : ItOk W F (Its x) (signsD x) := by
  have hl : (signsD x).length = x.cps.size := by unfold signsD; rw [List.length_map, Array.length_toList]
  refine ⟨fun _ => True, fun i H v H' => H' = H ∧ ∃ c, x.cps[i]? = some c ∧ v = .str ⟨#[c]⟩, { goes := fun i H h1 _ => (by rw [hl] at h1; exact h1), yields := fun i H v H' _ _ y => y, stops := fun H _ => (by rw [hl]; exact Nat.le_refl _) }, fun _ _ _ _ => trivial, fun i F1 H1 v H2 s f g hi y => ?_⟩
  obtain ⟨rfl, c, hc, rfl⟩ := y
  refine ⟨F1, .str ⟨#[c]⟩, .refl f g, ?_, .str _ ?_⟩
  · unfold signsD
    rw [List.getElem?_map, Array.getElem?_toList, hc]; rfl
  · rw [strOk_iff] at h ⊢
    intro c' hc'
    have : c' = c := by simpa using hc'
    subst this
    exact h _ (Array.mem_toList_iff.mpr (Array.mem_of_getElem? hc))
theorem i_txt (C : CtxOk W Γ k EX N sc l X) {e : E} {tg x : Expr} (h : PE X x (tE W Γ EX e)) : PI X tg x (tIt W Γ EX (.txt e)) := by
  refine (pi_str h).impD fun σ H R q => ?_
  obtain ⟨F, ρ, Qd, Xd, s, w, q, x⟩ := q
  refine ⟨F, ρ, _, Xd, s, w, fun d v F' H' e1 r1 w1 => ?_, x⟩
  cases d <;> try (cases w1; done)
  rename_i x
  cases r1 with
  | str _ hk =>
    obtain ⟨hl, h2⟩ := w1
    refine ⟨x, rfl, q _ _ F' H' e1 (.str hk) ?_ h2⟩
    unfold signsD
    rw [List.length_map, Array.length_toList]
    exact hl
theorem i_rng1 (C : CtxOk W Γ k EX N sc l X) {a : E} {tg x : Expr} {f : Str} {p pos : Pos} (hf : f = "range") (hg : chkGl sc f = true) (hs : isStar x = false) (h : PE X x (tR W Γ EX a)) : PI X tg (.Call (.Name f p) [x] [] pos) (tIt W Γ EX (.rng1 a)) := by
  obtain ⟨g1, g2, g3⟩ := gl_of C hg
  have hm : X.mg f = none := C.blt f (by rw [hf]; decide)
  subst hf
  refine (pi_range1 g1 hm (pa_cons h pa_nil (star_ok hs [] X.env)) (star_ok hs [] X.env)).impD fun σ H R q => ?_
  obtain ⟨F, ρ, Qd, Xd, s, w, q, x⟩ := q
  refine ⟨F, ρ, _, Xd, s, w, fun d v F' H' e1 r1 w1 => ?_, x⟩
  cases d with
  | int j =>
    cases r1.int
    obtain ⟨h1, h2, h3⟩ := w1
    exact ⟨j, rfl, by omega, by omega, q _ _ F' H' e1 .rng (by rw [rangeL_len]; omega) h3⟩
  | none => cases w1
  | bool _ => cases w1
  | str _ => cases w1
  | list _ => cases w1
  | tuple _ => cases w1
  | dict _ => cases w1
theorem i_rng2 (C : CtxOk W Γ k EX N sc l X) {a b : E} {tg x y : Expr} {f : Str} {p pos : Pos} (hf : f = "range") (hg : chkGl sc f = true) (hs : isStar x = false) (hs' : isStar y = false) (h : PE X x (tR W Γ EX a)) (h' : PE X y (tR W Γ EX b)) :
    PI X tg (.Call (.Name f p) [x, y] [] pos) (tIt W Γ EX (.rng2 a b)) := by
  obtain ⟨g1, g2, g3⟩ := gl_of C hg
  have hm : X.mg f = none := C.blt f (by rw [hf]; decide)
  subst hf
  have h1 := star_ok hs [y] X.env
  have h2 := star_ok hs' [] X.env
  refine (pi_range2 g1 hm (pa_cons h (pa_cons h' pa_nil h2) h1) (by rw [h1, h2]; rfl) h2).impD fun σ H R q => ?_
  obtain ⟨F, ρ, Qd, Xd, s, w, q, x⟩ := q
  refine two s w x fun d e v u F' H' e1 r1 r2 w1 => ?_
  cases d <;> try (cases w1; done)
  cases e <;> try (cases w1; done)
  rename_i i j
  cases r1.int
  cases r2.int
  obtain ⟨⟨b1, b2, b3, b4, b5⟩, h3⟩ := w1
  exact ⟨i, j, rfl, ⟨by omega, by omega, by omega, by omega⟩, q _ _ F' H' e1 .rng (by rw [rangeL_len]; omega) h3⟩
theorem rg_ints (i : Int) (n : Nat) : rangeL i 1 n = ((List.range n).map fun k : Nat => i + (k : Int)).map PyData.int := by
  unfold rangeL; rw [List.map_map]; simp [Function.comp_def]
theorem rgV_ints (i j : Int) : rgV i j = ((List.range (j - i).toNat).map fun k : Nat => i + (k : Int)).map V.int := by
  unfold rgV; rw [List.map_map]; rfl
theorem s_lrg (C : CtxOk W Γ k EX N sc l X) {tu : Bool} {a b : E} {x y : Expr} {g f : Str} {p pos p2 pos2 : Pos} (hn : g = seqN tu) (hgg : chkGl sc g = true) (hf : f = "range") (hg : chkGl sc f = true) (hs : isStar x = false) (hs' : isStar y = false) (h : PE X x (tR W Γ EX a)) (h' : PE X y (tR W Γ EX b)) :
    PE X (.Call (.Name g p2) [.Call (.Name f p) [x, y] [] pos] [] pos2) (tZ W Γ EX (.lrg tu a b)) := by
  obtain ⟨g1, g2, g3⟩ := gl_of C hg
  have hm : X.mg f = none := C.blt f (by rw [hf]; decide)
  obtain ⟨k1, k2, k3⟩ := gl_of C hgg
  have km : X.mg g = none := C.blt g (by rw [hn]; cases tu <;> decide)
  subst hf
  have h1 := star_ok hs [y] X.env
  have h2 := star_ok hs' [] X.env
  have hr := prg_2 (p := p) (pos := pos) g1 hm h h' h1 h2 (by rw [h2]; rfl)
  have ok : ∀ {i j : Int}, -(2 ^ 60) ≤ i → i ≤ 2 ^ 60 → -(2 ^ 60) ≤ j → j ≤ 2 ^ 60 → j - i ≤ 16777216 → RgOk i j := fun a b c d e => ⟨by omega, by omega, by omega, by omega, by omega⟩
  cases tu with
  | false =>
    subst hn
    refine (pe_listRg C.calm k1 km hr (star_ok rfl [] X.env)).impD fun σ H Q q => ?_
    obtain ⟨F, ρ, Qd, Xd, s, w, q, x⟩ := q
    refine two s w x fun d e v u F' H' e1 r1 r2 w1 => ?_
    cases d <;> try (cases w1; done)
    cases e <;> try (cases w1; done)
    rename_i i j
    cases r1.int
    cases r2.int
    obtain ⟨⟨b1, b2, b3, b4, b5⟩, h3⟩ := w1
    refine ⟨i, j, rfl, rfl, ok b1 b2 b3 b4 b5, fun r n => ?_⟩
    exact q _ F' H' e1 h3 r _ n (by rw [rg_ints, rgV_ints]; exact Dats.ofInts _) (by rw [rangeL_len]; omega)
  | true =>
    subst hn
    refine (pe_tupRg C.calm k1 km hr (star_ok rfl [] X.env)).impD fun σ H Q q => ?_
    obtain ⟨F, ρ, Qd, Xd, s, w, q, x⟩ := q
    refine two s w x fun d e v u F' H' e1 r1 r2 w1 => ?_
    cases d <;> try (cases w1; done)
    cases e <;> try (cases w1; done)
    rename_i i j
    cases r1.int
    cases r2.int
    obtain ⟨⟨b1, b2, b3, b4, b5⟩, h3⟩ := w1
    refine ⟨i, j, rfl, rfl, ok b1 b2 b3 b4 b5, fun r n => ?_⟩
    exact (show Res W F' H' (.tuple (rangeL i 1 (j - i).toNat)) Q from q _ F' H' e1 h3).tup e1.ok e1.gd n (by rw [rg_ints, rgV_ints]; exact Dats.ofInts _) (by rw [rangeL_len]; omega)
theorem s_lrg1 (C : CtxOk W Γ k EX N sc l X) {tu : Bool} {a : E} {x : Expr} {g f : Str} {p pos p2 pos2 : Pos} (hn : g = seqN tu) (hgg : chkGl sc g = true) (hf : f = "range") (hg : chkGl sc f = true) (hs : isStar x = false) (h : PE X x (tR W Γ EX a)) :
    PE X (.Call (.Name g p2) [.Call (.Name f p) [x] [] pos] [] pos2) (tZ W Γ EX (.lrg1 tu a)) := by
  obtain ⟨g1, g2, g3⟩ := gl_of C hg
  have hm : X.mg f = none := C.blt f (by rw [hf]; decide)
  obtain ⟨k1, k2, k3⟩ := gl_of C hgg
  have km : X.mg g = none := C.blt g (by rw [hn]; cases tu <;> decide)
  subst hf
  have h1 := star_ok hs [] X.env
  have hr := prg_1 (p := p) (pos := pos) g1 hm h h1
  have ok : ∀ {i j : Int}, -(2 ^ 60) ≤ i → i ≤ 2 ^ 60 → -(2 ^ 60) ≤ j → j ≤ 2 ^ 60 → j - i ≤ 16777216 → RgOk i j := fun a b c d e => ⟨by omega, by omega, by omega, by omega, by omega⟩
  cases tu with
  | false =>
    subst hn
    refine (pe_listRg C.calm k1 km hr (star_ok rfl [] X.env)).impD fun σ H Q q => ?_
    obtain ⟨F, ρ, Qd, Xd, s, w, q, x⟩ := q
    refine ⟨F, ρ, _, Xd, s, w, fun d v F' H' e1 r1 w1 => ?_, x⟩
    cases d <;> try (cases w1; done)
    rename_i j
    cases r1.int
    obtain ⟨⟨b1, b2⟩, h3⟩ := w1
    refine ⟨j, rfl, ok (by decide) (by decide) b2 (by omega) (by omega), fun r n => ?_⟩
    exact q _ F' H' e1 h3 r _ n (by rw [rg_ints, rgV_ints, Int.sub_zero]; exact Dats.ofInts _) (by rw [rangeL_len]; omega)
  | true =>
    subst hn
    refine (pe_tupRg C.calm k1 km hr (star_ok rfl [] X.env)).impD fun σ H Q q => ?_
    obtain ⟨F, ρ, Qd, Xd, s, w, q, x⟩ := q
    refine ⟨F, ρ, _, Xd, s, w, fun d v F' H' e1 r1 w1 => ?_, x⟩
    cases d <;> try (cases w1; done)
    rename_i j
    cases r1.int
    obtain ⟨⟨b1, b2⟩, h3⟩ := w1
    refine ⟨j, rfl, ok (by decide) (by decide) b2 (by omega) (by omega), fun r n => ?_⟩
    exact (show Res W F' H' (.tuple (rangeL 0 1 j.toNat)) Q from q _ F' H' e1 h3).tup e1.ok e1.gd n (by rw [rg_ints, rgV_ints, Int.sub_zero]; exact Dats.ofInts _) (by rw [rangeL_len]; omega)
theorem rg3_ints (i c : Int) (n : Nat) : rangeL i c n = ((List.range n).map fun k : Nat => i + (k : Int) * c).map PyData.int := by
  unfold rangeL; rw [List.map_map]; rfl
def rgV3 (i c : Int) (n : Nat) : List V := (List.range n).map fun k : Nat => V.int (i + (k : Int) * c)
theorem rgV3_ints (i c : Int) (n : Nat) : rgV3 i c n = ((List.range n).map fun k : Nat => i + (k : Int) * c).map V.int := by
  unfold rgV3; rw [List.map_map]; rfl
theorem vals_rg3 {i c : Int} {n : Nat} {acc : Array Value} (h : ItemsOf (fun k v => ∃ t, v = .int (i + k * c) t) acc n) : Vals (rgV3 i c n) acc.toList := by
  have e : acc.toList.length = n := by rw [Array.length_toList]; exact h.1
  unfold rgV3
  rw [← e]
  refine vals_of_get acc.toList _ fun j u hj => ?_
  obtain ⟨t, rfl⟩ := h.2 j u (by rw [← hj, Array.getElem?_toList])
  exact ⟨t, rfl⟩
def tLst3 (ta : TA) : TE := fun σ H Q => ta σ H fun vs H1 => ∃ (i j c : Int) (n : Nat), vs = [.int i, .int j, .int c] ∧ RgC i j c n ∧ n ≤ 16777216 ∧ ∀ q, H1 q = none → Q (.ref q) (upd H1 q (.lst (rgV3 i c n)))
theorem pe_listRg3 {X : Cx} {a b c : Expr} {ta : TA} {p pos p2 pos2 : Pos} (hc : X.calm = true) (hg : Gl X "range") (hm : X.mg "range" = none) (kg : Gl X "list") (km : X.mg "list" = none) (ha : PA X [a, b, c] ta)
    (hs : starEach [a, b, c] X.env = (false, eval a X.env) :: starEach [b, c] X.env) (hpl : (backTo pos (starEach [b, c] X.env)).any (·.1) = false)
    (na : starEach [Expr.Call (.Name "range" p) [a, b, c] [] pos] X.env = (false, eval (Expr.Call (.Name "range" p) [a, b, c] [] pos) X.env) :: starEach [] X.env) :
    PE X (.Call (.Name "list" p2) [.Call (.Name "range" p) [a, b, c] [] pos] [] pos2) (tLst3 ta) := by
  refine ⟨fun pins s σ H Q I h => ?_⟩
  have run : wpAny (model X.prog X.w) X.A (eval (Expr.Call (.Name "range" p) [a, b, c] [] pos) X.env) (fun x s' => ∃ r i j c n t u v H', x = .ref r ∧ IsRange s'.heap r i j c t u v ∧ RgC i j c n ∧ n ≤ 16777216 ∧ Inv X pins σ H' s' ∧ ∀ q, H' q = none → Q (.ref q) (upd H' q (.lst (rgV3 i c n)))) X.xe s := by
    refine Call_ (ld_blt I hg hm boot_range (PyProof.Rows.callWith_type1 (thn (ha.run pos pins s σ H _ I h) fun us s1 ⟨vs, H1, I1, r1, q1⟩ => ?_) hs hpl))
    obtain ⟨i, j, k, n, e, ⟨c0, c1, c2, c3⟩, hn, q⟩ := q1
    subst e
    cases r1 with
    | cons r rr =>
      cases rr with
      | cons r' rr =>
        cases rr with
        | cons r'' rr =>
          cases rr
          obtain ⟨t, rfl⟩ := r
          obtain ⟨t', rfl⟩ := r'
          obtain ⟨t'', rfl⟩ := r''
          exact call_range_3 c0 ⟨_, i, j, k, n, _, _, _, H1, rfl, IsRange.new _ _ _ _ _ _ _, ⟨c0, c1, c2, c3⟩, hn, I1.kept fun b u e => Heap.get?_push_of_some _ e, q⟩ (.inl (PyProof.noPylong_small c1))
  refine Call_ (ld_blt I kg km boot_list (PyProof.Rows.callWith_type1 (args_cons (thn run fun x s1 ⟨r, i, j, k, n, t, u, v, H1, ex, hr, ok, hn, I1, q⟩ => args_nil ?_) na) na))
  subst ex
  obtain ⟨c0, c1, c2, c3⟩ := ok
  refine call_list_range (n := n) (I1.ok.hd hc) hr c2 c3 hn fun h' tk acc c' hk e' hi => ?_
  refine ⟨.ref s1.heap.objs.size, upd H1 s1.heap.objs.size (.lst (rgV3 i k n)), I1.laid hk (Nat.le_refl _) (show ObjOk X.prog X.w _ _ _ (.lst (rgV3 i k n)) from ⟨?_, acc.toList, c', vals_rg3 hi, ?_⟩), rfl, q _ (I1.hok.fresh (Nat.le_refl _))⟩
  · unfold rgV3; rw [List.length_map, List.length_range, sizeLine_eq]; omega
  · rw [Array.toArray_toList]; exact e'
theorem s_lrg3 (C : CtxOk W Γ k EX N sc l X) {a b c : E} {x y z : Expr} {g f : Str} {p pos p2 pos2 : Pos} (hn : g = "list") (hgg : chkGl sc g = true) (hf : f = "range") (hg : chkGl sc f = true) (hs : isStar x = false) (hs' : isStar y = false) (hs'' : isStar z = false) (h : PE X x (tR W Γ EX a)) (h' : PE X y (tR W Γ EX b)) (h'' : PE X z (tR W Γ EX c)) :
    PE X (.Call (.Name g p2) [.Call (.Name f p) [x, y, z] [] pos] [] pos2) (tZ W Γ EX (.lrg3 a b c)) := by
  obtain ⟨g1, g2, g3⟩ := gl_of C hg
  have hm : X.mg f = none := C.blt f (by rw [hf]; decide)
  obtain ⟨k1, k2, k3⟩ := gl_of C hgg
  have km : X.mg g = none := C.blt g (by rw [hn]; decide)
  subst hf hn
  have h1 := star_ok hs [y, z] X.env
  have h2 := star_ok hs' [z] X.env
  have h3 := star_ok hs'' [] X.env
  refine (pe_listRg3 C.calm g1 hm k1 km (pa_cons h (pa_cons h' (pa_cons h'' pa_nil h3) h2) h1) h1 (by rw [h2, h3]; rfl) (star_ok rfl [] X.env)).impD fun σ H Q q => ?_
  obtain ⟨F, ρ, Qd, Xd, s, w, q, x⟩ := q
  refine ⟨F, ρ, _, Xd, s, w, fun d v F' H' e1 r1 w1 => ⟨F', ρ, _, Xd, s.ext e1, w1, fun d2 v2 F2 H2 e2 r2 w2 => ⟨F2, ρ, _, Xd, (s.ext e1).ext e2, w2, fun d3 v3 F3 H3 e3 r3 w3 => ?_, (x.ext e1).ext e2⟩, x.ext e1⟩, x⟩
  cases d <;> try (cases w3; done)
  cases d2 <;> try (cases w3; done)
  cases d3 <;> try (cases w3; done)
  rename_i i j c
  cases r1.int
  cases r2.int
  cases r3.int
  obtain ⟨b1, b2, h4⟩ := w3
  refine ⟨i, j, c, _, rfl, b1, b2, fun r n => ?_⟩
  exact q _ F3 H3 ((e1.trans e2).trans e3) h4 r _ n (by rw [rg3_ints, rgV3_ints]; exact Dats.ofInts _) (by rw [rangeL_len]; omega)
theorem i_enum (C : CtxOk W Γ k EX N sc l X) {a : E} {x : Expr} {elts : List Expr} {kk : Nat} {tpos : Pos} {f : Str} {p pos : Pos} (hf : f = "enumerate") (hg : chkGl sc f = true) (hs : isStar x = false) (h : PE X x (tE W Γ EX a)) :
    PI X (.Tuple elts kk tpos) (.Call (.Name f p) [x] [] pos) (tIt W Γ EX (.enum a)) := by
  obtain ⟨g1, g2, g3⟩ := gl_of C hg
  have hm : X.mg f = none := C.blt f (by rw [hf]; decide)
  subst hf
  refine (pi_enumA g1 hm (pa_cons h pa_nil (star_ok hs [] X.env)) (star_ok hs [] X.env)).impD fun σ H R q => ?_
  obtain ⟨F, ρ, Qd, Xd, s, w, q, x⟩ := q
  refine ⟨F, ρ, _, Xd, s, w, fun d v F' H' e1 r1 ⟨xs, h1, h2⟩ => ?_, x⟩
  have hit : ∀ {vs : List V}, Dats W.K F' vs xs → ∀ i x y, i < vs.length → some (V.int (i : Nat)) = some x → vs[i]? = some y → ∃ d e, Dat W.K F' x d ∧ Dat W.K F' y e ∧ (enumL xs)[i]? = some (.tuple [d, e]) := fun {vs} dd i x y hi ex ey => by
    obtain ⟨d', e1, e2⟩ := dd.getV ey
    cases ex
    exact ⟨_, _, .int _, e2, enumL_get e1⟩
  cases d with
  | list ys =>
    cases h1
    cases r1 with
    | lst e d z => exact ⟨_, _, rfl, .inl ⟨.inl (.inl (e1.ok.sub _ _ e)), by rw [C.hK]; exact q _ _ F' H' e1 (.pair walk_enum (by rw [enumL_len, d.length]) (fun F2 H2 s f => .inl (.inl (f.sub _ _ (s _ _ e)))) (hit d)) (by rw [enumL_len]; exact z) (h2 z)⟩⟩
  | tuple ys =>
    cases h1
    cases r1 with
    | tup e d z => exact ⟨_, _, rfl, .inr ⟨by rw [C.hK]; exact (e.mono e1.ok.sub).seq, by rw [C.hK]; exact q _ _ F' H' e1 (.pair walk_enumT (by rw [enumL_len, d.length]) (fun F2 H2 s f => ((e.mono s).mono f.sub).seq) (hit d)) (by rw [enumL_len]; exact z) (h2 z)⟩⟩
  | none => cases h1
  | bool _ => cases h1
  | int _ => cases h1
  | str _ => cases h1
  | dict _ => cases h1
theorem i_rng3 (C : CtxOk W Γ k EX N sc l X) {a b c : E} {tg x y z : Expr} {f : Str} {p pos : Pos} (hf : f = "range") (hg : chkGl sc f = true) (hs : isStar x = false) (hs' : isStar y = false) (hs'' : isStar z = false) (h : PE X x (tR W Γ EX a)) (h' : PE X y (tR W Γ EX b)) (h'' : PE X z (tR W Γ EX c)) :
    PI X tg (.Call (.Name f p) [x, y, z] [] pos) (tIt W Γ EX (.rng3 a b c)) := by
  obtain ⟨g1, g2, g3⟩ := gl_of C hg
  have hm : X.mg f = none := C.blt f (by rw [hf]; decide)
  subst hf
  have h1 := star_ok hs [y, z] X.env
  have h2 := star_ok hs' [z] X.env
  have h3 := star_ok hs'' [] X.env
  refine (pi_range3 g1 hm (pa_cons h (pa_cons h' (pa_cons h'' pa_nil h3) h2) h1) h1 (by rw [h2, h3]; rfl)).impD fun σ H R q => ?_
  obtain ⟨F, ρ, Qd, Xd, s, w, q, x⟩ := q
  refine ⟨F, ρ, _, Xd, s, w, fun d v F' H' e1 r1 w1 => ⟨F', ρ, _, Xd, s.ext e1, w1, fun d2 v2 F2 H2 e2 r2 w2 => ⟨F2, ρ, _, Xd, (s.ext e1).ext e2, w2, fun d3 v3 F3 H3 e3 r3 w3 => ?_, (x.ext e1).ext e2⟩, x.ext e1⟩, x⟩
  cases d <;> try (cases w3; done)
  cases d2 <;> try (cases w3; done)
  cases d3 <;> try (cases w3; done)
  rename_i i j c
  cases r1.int
  cases r2.int
  cases r3.int
  obtain ⟨b1, b2, h3⟩ := w3
  exact ⟨i, j, c, _, rfl, b1, q _ _ F3 H3 ((e1.trans e2).trans e3) .rngC (by rw [rangeL_len]; exact b2) h3⟩
theorem walk_zipT {K : PySem.W.Frag} {a b : Addr} {xs ys : List V} {n : Nat} (hn : n = min xs.length ys.length) : Walk (RZ.ItzT K a b) n (fun H => SqT K H a xs ∧ SqT K H b ys) (YPair (fun i => xs[i]?) (fun i => ys[i]?)) := by
  subst hn
  refine ⟨fun i _ hi q => ?_, fun _ q => ⟨xs, ys, q.1, q.2, by omega⟩, fun i H v H' _ q y => ?_⟩
  · have h1 : i < xs.length := by omega
    have h2 : i < ys.length := by omega
    exact ⟨xs, ys, xs[i], ys[i], q.1, q.2, by simp [h1], by simp [h2]⟩
  · obtain ⟨T, x, z, h1, h2, h3, h4, h5⟩ := y
    exact ⟨T, x, z, h1, h2, h3, h4 xs q.1, h5 ys q.2⟩
theorem walk_zipM {K : PySem.W.Frag} {a b : Addr} {xs ys : List V} {n : Nat} (hn : n = min xs.length ys.length) : Walk (ItzM K a b) n (fun H => SqT K H a xs ∧ SqL K H b ys) (YPair (fun i => xs[i]?) (fun i => ys[i]?)) := by
  subst hn
  refine ⟨fun i _ hi q => ?_, fun _ q => ⟨xs, ys, q.1, q.2, rfl⟩, fun i H v H' _ q y => ?_⟩
  · have h1 : i < xs.length := by omega
    have h2 : i < ys.length := by omega
    exact ⟨xs, ys, xs[i], ys[i], q.1, q.2, by simp [h1], by simp [h2]⟩
  · obtain ⟨T, x, z, h1, h2, h3, h4, h5⟩ := y
    exact ⟨T, x, z, h1, h2, h3, h4 xs q.1, h5 ys q.2⟩
theorem i_zip (C : CtxOk W Γ k EX N sc l X) {a b : E} {x y : Expr} {elts : List Expr} {kk : Nat} {tpos : Pos} {f : Str} {p pos : Pos} (hf : f = "zip") (hg : chkGl sc f = true) (hs : isStar x = false) (hs' : isStar y = false) (h : PE X x (tE W Γ EX a)) (h' : PE X y (tE W Γ EX b)) :
    PI X (.Tuple elts kk tpos) (.Call (.Name f p) [x, y] [] pos) (tIt W Γ EX (.zip a b)) := by
  obtain ⟨g1, g2, g3⟩ := gl_of C hg
  have hm : X.mg f = none := C.blt f (by rw [hf]; decide)
  subst hf
  have h1 := star_ok hs [y] X.env
  have h2 := star_ok hs' [] X.env
  refine (pi_zipM g1 hm (pa_cons h (pa_cons h' pa_nil h2) h1) h1 (by rw [h2]; rfl)).impD fun σ H R q => ?_
  obtain ⟨F, ρ, Qd, Xd, s, w, q, x⟩ := q
  refine ⟨F, ρ, _, Xd, s, w, fun d v F1 H1 e1 r1 w1 => ⟨F1, ρ, _, Xd, s.ext e1, w1, fun d2 v2 F' H' e2 r2 w2 => ?_, x.ext e1⟩, x⟩
  obtain ⟨⟨xs, ys⟩, h3, w3⟩ := w2
  have r1 := r1.mono e2.sub
  have hit : ∀ {vs us : List V}, Dats W.K F' vs xs → Dats W.K F' us ys → ∀ i x y, i < min vs.length us.length → vs[i]? = some x → us[i]? = some y → ∃ d e, Dat W.K F' x d ∧ Dat W.K F' y e ∧ (zipL xs ys)[i]? = some (.tuple [d, e]) := fun {vs us} dd de i x y hi ex ey => by
    obtain ⟨d', e1, e2⟩ := dd.getV ex
    obtain ⟨d'', e3, e4⟩ := de.getV ey
    exact ⟨_, _, e2, e4, zipL_get e1 e3⟩
  unfold zipD at h3
  split at h3
  · cases h3
    cases r1 with
    | lst q1 k1 z1 =>
      cases r2 with
      | lst q2 k2 z2 =>
        refine ⟨_, _, _, _, rfl, .inl ⟨.inl (.inl (e2.ok.sub _ _ q1)), .inl (.inl (e2.ok.sub _ _ q2)), ?_⟩⟩
        rw [C.hK]
        refine q _ _ F' H' (e1.trans e2) (.pair (walk_zip rfl) (by rw [zipL_len, k1.length, k2.length]) (fun F2 H2 s f => ⟨.inl (.inl (f.sub _ _ (s _ _ q1))), .inl (.inl (f.sub _ _ (s _ _ q2)))⟩) (hit k1 k2)) ?_ (w3 z1 z2)
        rw [zipL_len]; exact Nat.le_trans (Nat.min_le_left _ _) z1
  · cases h3
    cases r1 with
    | tup q1 k1 z1 =>
      cases r2 with
      | tup q2 k2 z2 =>
        refine ⟨_, _, _, _, rfl, .inr (.inl ⟨by rw [C.hK]; exact (q1.mono e2.ok.sub).seq, by rw [C.hK]; exact (q2.mono e2.ok.sub).seq, ?_⟩)⟩
        rw [C.hK]
        refine q _ _ F' H' (e1.trans e2) (.pair (walk_zipT rfl) (by rw [zipL_len, k1.length, k2.length]) (fun F2 H2 s f => ⟨((q1.mono s).mono f.sub).seq, ((q2.mono s).mono f.sub).seq⟩) (hit k1 k2)) ?_ (w3 z1 z2)
        rw [zipL_len]; exact Nat.le_trans (Nat.min_le_left _ _) z1
  · cases h3
    cases r1 with
    | tup q1 k1 z1 =>
      cases r2 with
      | lst q2 k2 z2 =>
        refine ⟨_, _, _, _, rfl, .inr (.inr ⟨by rw [C.hK]; exact (q1.mono e2.ok.sub).seq, .inl (.inl (e2.ok.sub _ _ q2)), ?_⟩)⟩
        rw [C.hK]
        refine q _ _ F' H' (e1.trans e2) (.pair (walk_zipM rfl) (by rw [zipL_len, k1.length, k2.length]) (fun F2 H2 s f => ⟨((q1.mono s).mono f.sub).seq, .inl (.inl (f.sub _ _ (s _ _ q2)))⟩) (hit k1 k2)) ?_ (w3 z1 z2)
        rw [zipL_len]; exact Nat.le_trans (Nat.min_le_left _ _) z1
  · cases h3
end
end Dl

set_option Elab.async false
set_option linter.all false
set_option maxRecDepth 100000
set_option maxHeartbeats 8000000
/-! the data layer, part 35: the rules of the special forms -/
namespace Dl
open PySem PySem.Spec PyProof.Rows L2
section
variable {X : Cx}
def tBack (K : PySem.W.Frag) (te : TE) : TE := fun σ H Q => te σ H fun x H1 => ∃ a xs, x = .ref a ∧ ((SqL K H1 a xs ∧ ∀ p, H1 p = none → Q (.ref p) (upd H1 p (.lst xs.reverse))) ∨ (SqT K H1 a xs ∧ ∀ p, H1 p = none → Q (.ref p) (upd H1 p (.tup xs.reverse))))
theorem pe_back {e : Expr} {te : TE} {k : Nat} {p1 p2 p3 pos : Pos} (he : PE X e te) : PE X (.Subscript e (.Slice none none (some (.UnaryOp .USub (.Constant (.int 1) k p1) p2)) p3) pos) (tBack X.K te) := by
  refine ⟨fun pins s σ H Q I h => Subscript_ (thn (he.run pins s σ H _ I h) fun v s1 ⟨x, H1, I1, r1, a, xs, ex, q⟩ => ?_)⟩
  subst ex
  cases r1
  have step : PO X (some (.UnaryOp .USub (.Constant (.int 1) k p1) p2)) (tPart (tUn (rU fun i => .int (-i)) (tC (.int 1)))) := po_some (pe_un un_neg pe_int)
  refine wpAny_Slice (thn (po_none.run pins s1 σ H1 (fun o G => o = none ∧ G = H1) I1 ⟨rfl, rfl⟩) fun vl s2 ⟨_, _, I2, pl, z1, z2⟩ => ?_)
  subst z1 z2
  refine thn (po_none.run pins s2 σ _ (fun o G => o = none ∧ G = _) I2 ⟨rfl, rfl⟩) fun vu s3 ⟨_, _, I3, pu, z1, z2⟩ => ?_
  subst z1 z2
  refine thn (step.run pins s3 σ _ (fun o G => o = some (-1) ∧ G = _) I3 ⟨1, rfl, -1, rfl, rfl, rfl⟩) fun vs s4 ⟨_, H4, I4, ps, z1, z2⟩ => ?_
  subst z1 z2
  cases pl
  cases pu
  generalize eh : s4.heap.push { cls := .type "slice", data := .fields #[.none, .none, vs] } = h5
  have I5 : Inv X pins σ H4 { s4 with heap := h5 } := by subst eh; exact I4.kept (t' := s4.toks) fun b ob q => Heap.get?_push_of_some _ q
  have sl : ({ s4 with heap := h5 } : Shared).heap.IsSliceOf s4.heap.objs.size .none .none vs := by subst eh; exact Heap.IsSliceOf.new _ _ _ vs
  show wpAny (model X.prog X.w) X.A (subscriptTail e (.Slice none none (some (.UnaryOp .USub (.Constant (.int 1) k p1) p2)) p3) (.ref a) (.ref s4.heap.objs.size)) (EP X pins σ Q) X.xe { s4 with heap := h5 }
  rcases q with ⟨hx, q⟩ | ⟨hx, q⟩
  · obtain ⟨its, r, ht, hz⟩ := I5.list hx
    refine tail_any (ops := [.ref a, .ref s4.heap.objs.size]) ht.isList.typeIs (PySem.slot_list_getitem.lookup) ?_ (by with_unfolding_all rfl)
    refine wpAny_getItem_list_slice ht.isList sl .none .none ps (by decide) ?_ (by rw [List.size_toArray, ← r.length]; exact hz)
    rw [PySem.W.krv_pick]
    refine ⟨.ref _, _, I5.laid (t' := s4.toks) (o := .lst xs.reverse) (fun b ob q => Heap.get?_push_of_some _ q) (Nat.le_refl _) ?_, rfl, q _ (I5.hok.fresh (Nat.le_refl _))⟩
    exact ⟨by rw [List.length_reverse]; exact hz, _, 0, r.reverse, Heap.get?_push_size _ rfl⟩
  · obtain ⟨its, r, ht, hz⟩ := I5.tuple hx
    cases ps with
    | int _ tk =>
      refine tail_any (ops := [.ref a, .ref s4.heap.objs.size]) ht.typeIs PyProof.Rows.slot_tuple_getitem.lookup ?_ (by with_unfolding_all rfl)
      refine get_back ht sl (by rw [List.size_toArray, ← r.length]; exact hz) ?_
      refine ⟨.ref _, _, I5.laid (t' := s4.toks) (o := .tup xs.reverse) (fun b ob q => Heap.get?_push_of_some _ q) (Nat.le_refl _) ?_, rfl, q _ (I5.hok.fresh (Nat.le_refl _))⟩
      exact ⟨by rw [List.length_reverse]; exact hz, _, r.reverse, IsTup.new _ _⟩
end
section
variable {W : Wd} {Γ : Gam} {EX : XK} {X : Cx} {k : Nat} {N : List Str} {sc : Scope} {l : Bool}
theorem s_rev (C : CtxOk W Γ k EX N sc l X) {a : E} {x : Expr} {c : Nat} {p1 p2 p3 pos : Pos} (ha : PE X x (tR W Γ EX a)) : PE X (.Subscript x (.Slice none none (some (.UnaryOp .USub (.Constant (.int 1) c p1) p2)) p3) pos) (tZ W Γ EX (.sp .rev a)) := by
  refine (pe_back ha).impD fun σ H Q q => ?_
  obtain ⟨F, ρ, Qd, Xd, s, w, q, x⟩ := q
  refine ⟨F, ρ, _, Xd, s, w, fun d v F' H' e1 r1 w1 => ?_, x⟩
  obtain ⟨r, h1, h2⟩ := w1
  cases d <;> try (cases h1; done)
  · rename_i xs
    cases h1
    obtain ⟨a, vs, rfl, t1, d1, z1⟩ := r1.lst e1.ok
    exact ⟨a, vs, rfl, .inl ⟨.inl (.inl t1), fun p n => q _ F' H' e1 h2 p _ n d1.reverse (by rw [List.length_reverse]; exact z1)⟩⟩
  · rename_i xs
    cases h1
    obtain ⟨a, vs, rfl, t1, d1, z1⟩ := r1.tup e1.ok
    exact ⟨a, vs, rfl, .inr ⟨C.hK ▸ t1.seq, fun p n => (q _ F' H' e1 h2).tup e1.ok e1.gd n d1.reverse (by rw [List.length_reverse]; exact z1)⟩⟩
theorem seqT_new {K : PySem.W.Frag} {F H : Hp} {a b : Addr} {xs : List V} {o : HO} (h : TupAt K F b xs) (s : Same F H) (n : H a = none) : SqT K (upd H a o) b xs := ((h.mono s).mono (same_new n)).seq
theorem s_setLen (C : CtxOk W Γ k EX N sc l X) {a : E} {x : Expr} {f g : Str} {p pos p2 pos2 : Pos} (hf : f = "len") (hgf : chkGl sc f = true) (hg : g = "set") (hgg : chkGl sc g = true) (hs : isStar x = false) (ha : PE X x (tR W Γ EX a)) :
    PE X (.Call (.Name f p) [.Call (.Name g p2) [x] [] pos2] [] pos) (tZ W Γ EX (.sp .setLen a)) := by
  obtain ⟨f1, f2, f3⟩ := gl_of C hgf
  obtain ⟨g1, g2, g3⟩ := gl_of C hgg
  have fm : X.mg f = none := C.blt f (by rw [hf]; decide)
  have gm : X.mg g = none := C.blt g (by rw [hg]; decide)
  subst hf hg
  have st := star_ok hs [] X.env
  have inner := pe_callTy (pos := pos2) (p := p2) ((cr_setI C.calm).or (cr_setOfT C.calm C.units)) g1 gm (by decide +kernel) (pa_cons ha pa_nil st) g3 g2 st (by rfl)
  have key := pe_callB (pos := pos) (p := p) cr_lenSet f1 fm (by decide +kernel) (pa_cons inner pa_nil (star_ok rfl [] X.env)) f3 f2 (star_ok rfl [] X.env) (by rfl)
  refine key.impD fun σ H Q q => ?_
  obtain ⟨F, ρ, Qd, Xd, s, w, q, x⟩ := q
  refine ⟨F, ρ, _, Xd, s, w, fun d v F' H' e1 r1 w1 => ?_, x⟩
  obtain ⟨r, h1, h2⟩ := w1
  replace h1 : lenSetSem d = some r := h1
  unfold lenSetSem at h1
  obtain ⟨xs, hx, h1⟩ := Option.bind_eq_some_iff.mp h1
  obtain ⟨b, ws, rfl, d1, z1, hh⟩ := r1.seq e1.ok hx
  cases hi : intsOf xs with
  | some ns =>
    rw [hi] at h1
    simp only at h1
    split at h1
    rotate_left
    · cases h1
    rename_i hl
    cases h1
    rw [intsOf_eq hi] at d1
    cases d1.ints
    refine .inl ⟨b, ns, rfl, ?_, hl, fun c hc => ⟨c, rfl, .inl ⟨_, _, upd_same, ?_⟩⟩⟩
    · rcases hh with ⟨z, _⟩ | ⟨z, _⟩
      · exact .inl (.inl (.inl z))
      · exact .inr (C.hK ▸ z.seq)
    · have e2 := Ext.new (o := SetO X.w c (fun j => decide (j ∈ ns)) (nub ns).length) e1.ok e1.gd hc
      exact (q _ _ _ (e1.trans e2) h2).int e2.ok e2.gd
  | none =>
    rw [hi] at h1
    cases d with
    | list xs' => ?_
    | _ => cases h1
    have : xs' = xs := Option.some.inj hx
    subst this
    obtain ⟨ts, ht, h1⟩ := Option.bind_eq_some_iff.mp h1
    by_cases hl : ts.length < 64
    rotate_left
    · rw [if_neg hl] at h1; cases h1
    rw [if_pos hl] at h1
    cases h1
    rcases hh with ⟨z, _⟩ | ⟨z, e⟩
    · rw [tupsOf_eq ht] at d1
      obtain ⟨ks, rfl, hk, rfl⟩ := tups_at d1
      refine .inr ⟨b, ks, rfl, .inl (.inl z), fun p hp => C.hK ▸ ((hk p hp).mono e1.ok.sub).seq, by simpa using hl, fun c L hc hL hL2 => ⟨c, rfl, .inr ⟨L, upd_same, fun p hp => C.hK ▸ seqT_new (hk p (hL p hp)) e1.ok.sub hc, fun nd => ?_⟩⟩⟩
      have e2 := Ext.new (o := SetTO X.prog X.w c L) e1.ok e1.gd hc
      have el : (nub (ks.map (·.2))).length = L.length := by
        rw [(nub_perm (l := ks.map (·.2)) nd fun y => ⟨fun hy => ?_, fun hy => ?_⟩).length_eq, List.length_map]
        · obtain ⟨p, hp, rfl⟩ := List.mem_map.mp hy
          exact List.mem_map.mpr ⟨p, hL p hp, rfl⟩
        · obtain ⟨p, hp, rfl⟩ := List.mem_map.mp hy
          exact hL2 p hp
      rw [el] at h2
      exact (q _ _ _ (e1.trans e2) h2).int e2.ok e2.gd
    · cases e
theorem s_setSort (C : CtxOk W Γ k EX N sc l X) {a : E} {x : Expr} {f g : Str} {p pos p2 pos2 : Pos} (hf : f = "sorted") (hgf : chkGl sc f = true) (hg : g = "set") (hgg : chkGl sc g = true) (hs : isStar x = false) (ha : PE X x (tR W Γ EX a)) :
    PE X (.Call (.Name f p) [.Call (.Name g p2) [x] [] pos2] [] pos) (tZ W Γ EX (.sp .setSort a)) := by
  obtain ⟨f1, f2, f3⟩ := gl_of C hgf
  obtain ⟨g1, g2, g3⟩ := gl_of C hgg
  have fm : X.mg f = none := C.blt f (by rw [hf]; decide)
  have gm : X.mg g = none := C.blt g (by rw [hg]; decide)
  subst hf hg
  have st := star_ok hs [] X.env
  have inner := pe_callTy (pos := pos2) (p := p2) ((cr_setI C.calm).or (cr_setOfT C.calm C.units)) g1 gm (by decide +kernel) (pa_cons ha pa_nil st) g3 g2 st (by rfl)
  have key := pe_callB (pos := pos) (p := p) ((cr_sortedSet C.calm).or (cr_sortedT C.calm)) f1 fm (by decide +kernel) (pa_cons inner pa_nil (star_ok rfl [] X.env)) f3 f2 (star_ok rfl [] X.env) (by rfl)
  refine key.impD fun σ H Q q => ?_
  obtain ⟨F, ρ, Qd, Xd, s, w, q, x⟩ := q
  refine ⟨F, ρ, _, Xd, s, w, fun d v F' H' e1 r1 w1 => ?_, x⟩
  obtain ⟨r, h1, h2⟩ := w1
  replace h1 : setSortSem d = some r := h1
  unfold setSortSem at h1
  obtain ⟨xs, hx, h1⟩ := Option.bind_eq_some_iff.mp h1
  obtain ⟨b, ws, rfl, d1, z1, hh⟩ := r1.seq e1.ok hx
  cases hi : intsOf xs with
  | some ns =>
    rw [hi] at h1
    simp only at h1
    split at h1
    rotate_left
    · cases h1
    rename_i hl
    cases h1
    rw [intsOf_eq hi] at d1
    cases d1.ints
    have hn := nub_le ns
    refine .inl ⟨b, ns, rfl, ?_, by omega, fun c hc => .inl ⟨c, _, _, rfl, upd_same, by omega, fun ms p1 o1 o2 o3 hp => ?_⟩⟩
    · rcases hh with ⟨z, _⟩ | ⟨z, _⟩
      · exact .inl (.inl (.inl z))
      · exact .inr (C.hK ▸ z.seq)
    · have e2 := Ext.new (o := SetO X.w c (fun j => decide (j ∈ ns)) (nub ns).length) e1.ok e1.gd hc
      have nd : ms.Nodup := o1.imp fun {a b} h z => by omega
      have pm : (nub ns).Perm ms := nub_perm nd fun y => (o2 y).trans (by simp)
      have em : ms = sortI (nub ns) := sorted_unique (o1.imp fun {a b} h => by omega) (sortI_sorted _) (pm.symm.trans (sortI_perm _).symm)
      rw [em]
      refine q _ _ _ (e1.trans e2) h2 p1 _ hp (Dats.ofInts _) ?_
      rw [List.length_map, (sortI_perm _).length_eq]
      omega
  | none =>
    rw [hi] at h1
    cases d with
    | list xs' => ?_
    | _ => cases h1
    have : xs' = xs := Option.some.inj hx
    subst this
    obtain ⟨ts, ht, h1⟩ := Option.bind_eq_some_iff.mp h1
    by_cases hl : ts.length < 64 ∧ okT ts = true
    rotate_left
    · rw [if_neg hl] at h1; cases h1
    rw [if_pos hl] at h1
    cases h1
    obtain ⟨hl, ho⟩ := hl
    obtain ⟨dd, hd, hall⟩ := okT_all ho
    rcases hh with ⟨z, _⟩ | ⟨z, e⟩
    · rw [tupsOf_eq ht] at d1
      obtain ⟨ks, rfl, hk, rfl⟩ := tups_at d1
      refine .inr ⟨b, ks, rfl, .inl (.inl z), fun p hp => C.hK ▸ ((hk p hp).mono e1.ok.sub).seq, by simpa using hl, fun c L hc hL hL2 => .inr ⟨c, L, dd, 1000000000000, rfl, upd_same, fun p hp => C.hK ▸ seqT_new (hk p (hL p hp)) e1.ok.sub hc, hd, fun p hp => hall p.2 (List.mem_map.mpr ⟨p, hL p hp, rfl⟩), fun L' p1 hperm nd hl' hpw hp1 => ?_⟩⟩
      have e2 := Ext.new (o := SetTO X.prog X.w c L) e1.ok e1.gd hc
      have hmem : ∀ p ∈ L', p ∈ ks := fun p hp => hL p (hperm.mem_iff.mp hp)
      have hsort : (L'.map (·.2)).Pairwise (fun a b => lexLe a b = true) := by
        rw [List.pairwise_map]
        refine List.Pairwise.imp_of_mem (fun {u v} hu hv h => ?_) hpw
        obtain ⟨u1, u2⟩ := hall u.2 (List.mem_map.mpr ⟨u, hmem u hu, rfl⟩)
        obtain ⟨v1, v2⟩ := hall v.2 (List.mem_map.mpr ⟨v, hmem v hv, rfl⟩)
        exact code_le (by decide) (by omega) u2 v2 h
      have hpn : (nub (ks.map (·.2))).Perm (L'.map (·.2)) := nub_perm nd fun y => by
        constructor
        · intro hy
          obtain ⟨p, hp, rfl⟩ := List.mem_map.mp hy
          exact List.mem_map.mpr ⟨p, hmem p hp, rfl⟩
        · intro hy
          obtain ⟨p, hp, rfl⟩ := List.mem_map.mp hy
          obtain ⟨p', hp', e'⟩ := List.mem_map.mp (hL2 p hp)
          exact List.mem_map.mpr ⟨p', hperm.mem_iff.mpr hp', e'⟩
      have he : L'.map (·.2) = sortT (nub (ks.map (·.2))) := sortedT_unique hsort (sortT_sorted _) (hpn.symm.trans (sortT_perm _).symm)
      refine q _ _ _ (e1.trans e2) h2 p1 _ hp1 ?_ ?_
      · rw [← he, List.map_map]
        refine dats_tups fun p hp => ⟨(hk p (hmem p hp)).mono e2.sub, ?_⟩
        obtain ⟨i, hi', rfl⟩ := List.getElem_of_mem (hmem p hp)
        obtain ⟨v, g1, g2⟩ := d1.get (i := i) (d := .tuple (ks[i].2.map .int)) (by rw [List.map_map, List.getElem?_map, List.getElem?_eq_getElem hi']; rfl)
        cases g2 with
        | tup _ _ z => simpa using z
      · rw [List.length_map, ← he, List.length_map]; omega
    · cases e
/-! ### methods of texts -/
theorem pad_ok {n : Nat} (h : n ≤ 1000) : PadOk (n : Int) = true := by
  unfold PadOk fitsSsize Builtin.Str.tooLong
  rw [sizeLine_eq]
  simp
  omega
theorem s_zfill {a : E} {x : Expr} {n j : Nat} {p ap cp : Pos} (hb : isSupC x = false) (hl : (ap.endLine == cp.line) = true) (ha : PE X x (tR W Γ EX a)) :
    PE X (.Call (.Attribute x "zfill" ap) [.Constant (.int (n : Int)) j p] [] cp) (tZ W Γ EX (.sp (.zfill n) a)) := by
  refine (pe_m1 F.slot_str_zfill F.type_str_zfill mt_zfill ha (pe_int (i := (n : Int)) (j := j) (pos := p)) rfl (base_ok hb _ _ _) hl).impD fun σ H Q q => ?_
  obtain ⟨F, ρ, Qd, Xd, s, w, q, x⟩ := q
  refine ⟨F, ρ, _, Xd, s, w, fun d v F' H' e1 r1 ⟨r, h1, h2⟩ => ?_, x⟩
  cases d <;> try (cases h1; done)
  replace h1 : (if _ then _ else _) = some r := h1
  split at h1 <;> cases h1
  rename_i hh
  obtain ⟨rfl, _⟩ := r1.str
  exact ⟨⟨_, rfl⟩, _, _, rfl, rfl, pad_ok hh.1, (q _ F' H' e1 h2).str e1.ok e1.gd hh.2⟩
theorem s_split {a : E} {x : Expr} {t : Str} {j : Nat} {p ap cp : Pos} (hb : isSupC x = false) (hl : (ap.endLine == cp.line) = true) (ha : PE X x (tR W Γ EX a)) :
    PE X (.Call (.Attribute x "split" ap) [.Constant (.str t) j p] [] cp) (tZ W Γ EX (.sp (.split t) a)) := by
  refine (pe_split ha (pe_str (x := t) (j := j) (pos := p)) rfl (base_ok hb _ _ _) hl).impD fun σ H Q q => ?_
  obtain ⟨F, ρ, Qd, Xd, s, w, q, x⟩ := q
  refine ⟨F, ρ, _, Xd, s, w, fun d v F' H' e1 r1 ⟨r, h1, h2⟩ => ?_, x⟩
  cases d <;> try (cases h1; done)
  replace h1 : (if _ then _ else _) = some r := h1
  split at h1 <;> cases h1
  rename_i hh
  obtain ⟨rfl, _⟩ := r1.str
  exact ⟨⟨_, rfl⟩, _, _, rfl, rfl, hh.1, by rw [sizeLine_eq]; omega, fun p1 n1 => q _ F' H' e1 h2 p1 _ n1 (dats_ofStrs hh.2.2.1) (by rw [List.length_map]; exact hh.2.2.2)⟩
theorem s_join (hK : X.K = W.K) {a : E} {x : Expr} {t : Str} {j : Nat} {p ap cp : Pos} (hs : isStar x = false) (hl : (ap.endLine == cp.line) = true) (ha : PE X x (tR W Γ EX a)) :
    PE X (.Call (.Attribute (.Constant (.str t) j p) "join" ap) [x] [] cp) (tZ W Γ EX (.sp (.join t) a)) := by
  refine (pe_join (pe_str (x := t) (j := j) (pos := p)) ha (star_ok hs [] X.env) rfl hl).impD fun σ H Q q => ?_
  refine ⟨⟨_, rfl⟩, ?_⟩
  obtain ⟨F, ρ, Qd, Xd, s, w, q, x⟩ := q
  refine ⟨F, ρ, _, Xd, s, w, fun d v F' H' e1 r1 ⟨r, h1, h2⟩ => ?_, x⟩
  cases d <;> try (cases h1; done)
  replace h1 : joinSem t _ = some r := h1
  unfold joinSem at h1
  obtain ⟨ys, hy, h1⟩ := Option.bind_eq_some_iff.mp h1
  split at h1 <;> cases h1
  rename_i hh
  obtain ⟨b, vs, rfl, t1, d1, z1⟩ := r1.lst e1.ok
  rw [strsOf_eq hy] at d1
  have := dats_strs d1
  subst this
  exact ⟨_, b, ys, rfl, rfl, .inl (.inl (.inl t1)), hh.1, (q _ F' H' e1 h2).str e1.ok e1.gd hh.2⟩
/-! ### list(enumerate(..)) -/
def enumI (i : Nat) : List PyData → List PyData
  | [] => []
  | x :: r => .tuple [.int (i : Nat), x] :: enumI (i + 1) r
theorem enumI_eq : ∀ (xs : List PyData) (i : Nat), enumI i xs = ((List.range' i xs.length).zipWith (fun (i : Nat) x => PyData.tuple [.int (i : Int), x]) xs)
  | [], _ => rfl
  | x :: r, i => by
    rw [List.length_cons, List.range'_succ, List.zipWith_cons_cons, ← enumI_eq r (i + 1)]
    rfl
theorem ext_tups {W : Wd} : ∀ {ps : List (Addr × V)} {ds : List PyData} {F H : Hp} {i : Nat}, FOk W F H → Good W H → (ps.map (·.1)).Nodup → (∀ p ∈ ps, H p.1 = none) → Dats W.K F (ps.map (·.2)) ds →
    Ext W F H (tupsH F i ps) (tupsH H i ps) ∧ Dats W.K (tupsH F i ps) (ps.map fun p => .ref p.1) (enumI i ds)
  | [], _, F, H, _, f, g, _, _, d => by
    cases d
    exact ⟨.refl f g, .nil⟩
  | p :: r, _, F, H, i, f, g, nd, hn, d => by
    rw [List.map_cons] at d
    cases d with
    | cons d1 d2 =>
      rw [List.map_cons, List.nodup_cons] at nd
      have hp := hn p List.mem_cons_self
      have e := Ext.tup (xs := [.int (i : Nat), p.2]) f g hp
      have sm : Same F (upd F p.1 (.tup [.int (i : Nat), p.2])) := e.sub
      obtain ⟨e2, d3⟩ := ext_tups (ps := r) (i := i + 1) e.ok e.gd nd.2 (fun q hq => (upd_ne fun (z : q.1 = p.1) => nd.1 (by rw [← z]; exact List.mem_map_of_mem hq)).trans (hn q (List.mem_cons_of_mem _ hq))) (d2.mono sm)
      refine ⟨e.trans e2, .cons ?_ d3⟩
      refine .tup (.inl ((tupsH_ne nd.1).trans upd_same)) (.cons (.int _) (.cons ((d1.mono sm).mono e2.sub) .nil)) (by simp)
theorem enumI_len : ∀ {ds : List PyData} {i : Nat}, (enumI i ds).length = ds.length
  | [], _ => rfl
  | _ :: r, i => congrArg (· + 1) (enumI_len (ds := r))
theorem s_enumL (C : CtxOk W Γ k EX N sc l X) {a : E} {x : Expr} {f g : Str} {p pos p2 pos2 : Pos} (hf : f = "list") (hgf : chkGl sc f = true) (hg : g = "enumerate") (hgg : chkGl sc g = true) (hs : isStar x = false) (ha : PE X x (tR W Γ EX a)) :
    PE X (.Call (.Name f p) [.Call (.Name g p2) [x] [] pos2] [] pos) (tZ W Γ EX (.sp .enumL a)) := by
  obtain ⟨f1, f2, f3⟩ := gl_of C hgf
  obtain ⟨g1, g2, g3⟩ := gl_of C hgg
  have fm : X.mg f = none := C.blt f (by rw [hf]; decide)
  have gm : X.mg g = none := C.blt g (by rw [hg]; decide)
  subst hf hg
  have key := pe_listEnum (p := p) (p2 := p2) (pos := pos) (pos2 := pos2) C.calm f1 fm g1 gm ha (star_ok hs [] X.env)
  refine key.impD fun σ H Q q => ?_
  obtain ⟨F, ρ, Qd, Xd, s, w, q, x⟩ := q
  refine ⟨F, ρ, _, Xd, s, w, fun d v F' H' e1 r1 ⟨r, h1, h2⟩ => ?_, x⟩
  cases d with
  | tuple ds =>
    cases h1
    obtain ⟨b, ws, rfl, ta, d1, z1⟩ := r1.tup e1.ok
    refine ⟨b, ws, rfl, C.hK ▸ ta.seq, fun l ps em hl nd hn hln hlf => ?_⟩
    subst em
    obtain ⟨e2, d2⟩ := ext_tups (i := 0) e1.ok e1.gd nd hn d1
    have hr := q _ _ _ (e1.trans e2) h2
    refine hr l _ ((tupsH_ne hln).trans hlf) ?_ ?_
    · rw [show (List.range ds.length).zipWith (fun (i : Nat) x => PyData.tuple [.int (i : Int), x]) ds = enumI 0 ds by rw [enumI_eq, List.range_eq_range']]
      exact d2
    · rw [List.length_zipWith, List.length_range]; omega
  | _ => cases h1
theorem s_sp (C : CtxOk W Γ k EX N sc l X) {f : SpF} {a : E} {x y : Expr} (h : spArg f sc x = some y) (ha : PE X y (tR W Γ EX a)) : PE X x (tZ W Γ EX (.sp f a)) := by
  unfold spArg at h
  split at h
  · split at h <;> cases h
    rename_i m _ _ hm
    unfold isM1 at hm
    split at hm
    · cases of_decide_eq_true hm
      exact s_rev C ha
    · cases hm
  · split at h <;> cases h
    rename_i hb
    simp only [Bool.and_eq_true, decide_eq_true_eq, Bool.not_eq_true'] at hb
    exact s_setLen C hb.1.1 hb.1.2 hb.2.1.1 hb.2.1.2 hb.2.2 ha
  · split at h <;> cases h
    rename_i hb
    simp only [Bool.and_eq_true, decide_eq_true_eq, Bool.not_eq_true'] at hb
    exact s_setSort C hb.1.1 hb.1.2 hb.2.1.1 hb.2.1.2 hb.2.2 ha
  · split at h <;> cases h
    rename_i hb
    simp only [Bool.and_eq_true, decide_eq_true_eq, Bool.not_eq_true'] at hb
    exact s_enumL C hb.1.1 hb.1.2 hb.2.1.1 hb.2.1.2 hb.2.2 ha
  · split at h <;> cases h
    rename_i hb
    simp only [Bool.and_eq_true, decide_eq_true_eq, Bool.not_eq_true'] at hb
    obtain ⟨rfl, rfl, h1, h2⟩ := hb
    exact s_zfill h2 h1 ha
  · split at h <;> cases h
    rename_i hb
    simp only [Bool.and_eq_true, decide_eq_true_eq, Bool.not_eq_true'] at hb
    obtain ⟨rfl, rfl, h1, h2⟩ := hb
    exact s_split h2 h1 ha
  · split at h <;> cases h
    rename_i hb
    simp only [Bool.and_eq_true, decide_eq_true_eq, Bool.not_eq_true'] at hb
    obtain ⟨rfl, rfl, h1, h2⟩ := hb
    exact s_join C.hK h2 h1 ha
  · cases h
end
end Dl

set_option Elab.async false
set_option linter.all false
set_option maxRecDepth 100000
set_option maxHeartbeats 8000000
/-! the data layer, part 39: dicts of the def's own, with ints as keys: sorted, in, what stands at a key -/
namespace Dl
open PySem PySem.Spec PyProof.Rows L2
theorem kvd_find {K : PySem.W.Frag} {F : Hp} {k : Int} : ∀ {kvs : List (Int × PyData)} {vs : List (Key × V)}, KvD K F vs kvs → (valV vs (Sum.inl k)).isSome = (dVal kvs k).isSome ∧ ∀ d, dVal kvs k = some d → ∃ v, valV vs (Sum.inl k) = some v ∧ Dat K F v d
  | [], vs, h => by
    have := congrArg List.length h.1
    simp at this
    subst this
    exact ⟨rfl, fun d z => by cases z⟩
  | p :: r, [], h => by have := congrArg List.length h.1; simp at this
  | (j, d) :: r, (j', v) :: vs, h => by
    obtain ⟨h1, h2⟩ := h
    simp only [List.map_cons, List.cons.injEq] at h1
    obtain ⟨rfl, h1⟩ := h1
    cases h2 with
    | cons a b =>
      have ih := kvd_find (k := k) (kvs := r) (vs := vs) ⟨h1, b⟩
      unfold valV dVal at ih ⊢
      by_cases hk : j = k
      · subst hk
        simp only [List.find?_cons, decide_true]
        exact ⟨rfl, fun d' z => by cases z; exact ⟨v, rfl, a⟩⟩
      · have : ¬ (Sum.inl j : Key) = Sum.inl k := fun z => hk (Sum.inl.inj z)
        simp only [List.find?_cons, hk, this, decide_false]
        exact ih
theorem kvd_put {K : PySem.W.Frag} {F : Hp} {k : Int} {d : PyData} {v : V} (r : Dat K F v d) {kvs : List (Int × PyData)} {vs : List (Key × V)} (h : KvD K F vs kvs) : KvD K F (putK vs (Sum.inl k) v) (dPut kvs k d) := by
  have ea : (vs.any fun kv => decide (kv.1 = Sum.inl k)) = kvs.any fun kv => decide (kv.1 = k) := by
    have : ∀ {kvs : List (Int × PyData)} {vs : List (Key × V)}, vs.map (·.1) = kvs.map (fun p => Sum.inl p.1) → (vs.any fun kv => decide (kv.1 = Sum.inl k)) = kvs.any fun kv => decide (kv.1 = k) := by
      intro kvs
      induction kvs with
      | nil => intro vs h; simp at h; subst h; rfl
      | cons p r ih =>
        intro vs h
        cases vs with
        | nil => simp at h
        | cons q vs =>
          simp only [List.map_cons, List.cons.injEq] at h
          rw [List.any_cons, List.any_cons, ih h.2, h.1]
          congr 1
          rw [decide_eq_decide]
          exact ⟨Sum.inl.inj, congrArg _⟩
    exact this h.1
  unfold putK dPut
  rw [ea]
  split
  · have : ∀ {kvs : List (Int × PyData)} {vs : List (Key × V)}, KvD K F vs kvs → KvD K F (vs.map fun kv => if kv.1 = Sum.inl k then (kv.1, v) else kv) (kvs.map fun kv => if kv.1 = k then (kv.1, d) else kv) := by
      intro kvs
      induction kvs with
      | nil =>
        intro vs h
        have := congrArg List.length h.1
        simp at this
        subst this
        exact h
      | cons p rr ih =>
        intro vs h
        cases vs with
        | nil => have := congrArg List.length h.1; simp at this
        | cons q vs =>
          obtain ⟨h1, h2⟩ := h
          simp only [List.map_cons, List.cons.injEq] at h1
          cases h2 with
          | cons a b =>
            obtain ⟨i1, i2⟩ := ih ⟨h1.2, b⟩
            by_cases hk : p.1 = k
            · have hq : q.1 = Sum.inl k := by rw [h1.1, hk]
              refine ⟨?_, ?_⟩
              · simp only [List.map_cons, hk, hq, if_true, i1]
              · simp only [List.map_cons, hk, hq, if_true]
                exact .cons r i2
            · have hq : ¬ q.1 = Sum.inl k := by rw [h1.1]; exact fun z => hk (Sum.inl.inj z)
              refine ⟨?_, ?_⟩
              · simp only [List.map_cons, hk, hq, if_false, i1]
                rw [h1.1]
              · simp only [List.map_cons, hk, hq, if_false]
                exact .cons a i2
    exact this h
  · refine ⟨?_, ?_⟩
    · rw [List.map_append, List.map_append, h.1]; rfl
    · rw [List.map_append, List.map_append]
      exact h.2.append (.cons r .nil)
theorem dPut_len {kvs : List (Int × PyData)} {k : Int} {d : PyData} : (dPut kvs k d).length ≤ kvs.length + 1 := by
  unfold dPut
  split <;> simp
section
variable {W : Wd} {Γ : Gam} {EX : XK} {X : Cx} {k : Nat} {N : List Str} {sc : Scope} {l : Bool}
theorem varD (C : CtxOk W Γ k EX N sc l X) {i : Nat} {x : Str} {pos : Pos} (h : chkVar N sc i x = true) : PE X (.Name x pos) (tVar i) := by
  unfold chkVar nameOk at h
  simp only [Bool.and_eq_true, decide_eq_true_eq, Bool.not_eq_true'] at h
  exact pe_var (by rw [C.hN]; exact h.1.1) (by rw [C.hsc]; exact vis_of h.1.2) h.2.1.1 h.2.1.2
theorem s_dsrt (C : CtxOk W Γ k EX N sc l X) {i : Nat} {a : E} {y : Str} {p p2 pos : Pos} (hg : chkGl sc "sorted" = true) (hx : chkVar N sc i y = true) : PE X (.Call (.Name "sorted" p) [.Name y p2] [] pos) (tZ W Γ EX (.dx .srt i a)) := by
  obtain ⟨f1, f2, f3⟩ := gl_of C hg
  have fm : X.mg "sorted" = none := C.blt "sorted" (by decide)
  have key := pe_callB (pos := pos) (p := p) (call_sortedDI C.calm) f1 fm (by decide +kernel) (pa_cons (varD (pos := p2) C hx) pa_nil (star_ok rfl [] X.env)) f3 f2 (star_ok rfl [] X.env) (by rfl)
  refine key.impD fun σ H Q q => ?_
  obtain ⟨F, ρ, Qd, Xd, s, ⟨kvs, h1, h2, h3⟩, q, x⟩ := q
  obtain ⟨b, vs, e1, e2, e3, e4, e5, e6⟩ := s.dct h1
  refine ⟨_, e1, b, vs, kvs.map (·.1), rfl, .inl e2, by rw [e5.1, List.map_map]; rfl, by rw [List.length_map]; exact h2, fun ys p1 o1 o2 hp => ?_⟩
  have em : ys = sortI (kvs.map (·.1)) := sorted_unique o2 (sortI_sorted _) (o1.trans (sortI_perm _).symm)
  rw [em]
  refine q _ F H (.refl s.f s.g) h3 p1 _ hp (Dats.ofInts _) ?_
  rw [List.length_map, (sortI_perm _).length_eq, List.length_map]
  omega
theorem din_imp {neg : Bool} {i : Nat} {a : E} {σ : L2.St} {H : Hp} {Q : VK} (q : tE W Γ EX (.dx (.isin neg) i a) σ H Q) : (tR W Γ EX a) σ H fun y H1 => (tVar i) σ H1 fun x H2 => ∃ ad o, x = .ref ad ∧ DGet H2 ad y o ∧ Q (.bl (o.isSome != neg)) H2 := by
  obtain ⟨F, ρ, Qd, Xd, s, w, q, x⟩ := q
  refine ⟨F, ρ, _, Xd, s, w, fun d v F' H' e1 r w1 => ?_, x⟩
  cases d <;> try (cases w1; done)
  rename_i j
  have := r.int
  subst this
  obtain ⟨kvs, h1, h2⟩ := w1
  obtain ⟨ad, vs, g1, g2, g3, g4, g5, g6⟩ := (s.ext e1).dct h1
  refine ⟨_, g1, ad, _, rfl, DGet.k (k := Sum.inl j) g2, ?_⟩
  rw [(kvd_find (k := j) g5).1]
  exact q _ _ F' H' e1 (.bl _) h2
theorem din_impT {neg : Bool} {i : Nat} {a : E} {σ : L2.St} {H : Hp} {Q : Bool → Hp → Prop} (q : tT W Γ EX (.dx (.isin neg) i a) σ H Q) : (tR W Γ EX a) σ H fun y H1 => (tVar i) σ H1 fun x H2 => ∃ ad o, x = .ref ad ∧ DGet H2 ad y o ∧ ∃ b, (V.bl (o.isSome != neg)) = .bl b ∧ Q b H2 := by
  obtain ⟨F, ρ, Qd, Xd, s, w, q, x⟩ := q
  refine ⟨F, ρ, _, Xd, s, w, fun d v F' H' e1 r w1 => ?_, x⟩
  cases d <;> try (cases w1; done)
  rename_i j
  have := r.int
  subst this
  obtain ⟨kvs, h1, h2⟩ := w1
  obtain ⟨ad, vs, g1, g2, g3, g4, g5, g6⟩ := (s.ext e1).dct h1
  refine ⟨_, g1, ad, _, rfl, DGet.k (k := Sum.inl j) g2, _, rfl, ?_⟩
  rw [(kvd_find (k := j) g5).1]
  exact q _ F' H' e1 h2
theorem s_dinT (C : CtxOk W Γ k EX N sc l X) {neg : Bool} {i : Nat} {a : E} {z : Expr} {y : Str} {p pos : Pos} (ha : PE X z (tR W Γ EX a)) (hx : chkVar N sc i y = true) : PT X (.Compare z [dinOp neg] [.Name y p] pos) (tT W Γ EX (.dx (.isin neg) i a)) := by
  have hu : X.A.units + 1 < cLine := by have := C.units; omega
  cases neg with
  | true =>
    refine (pt_cmp (op := .NotIn) (pc_dnotin hu ha (varD C hx)) rfl).impD fun σ H Q q => ?_
    have := din_impT q
    simp only [Bool.bne_true] at this
    exact this
  | false =>
    refine (pt_cmp (op := .In) (pc_din hu ha (varD C hx)) rfl).impD fun σ H Q q => ?_
    have := din_impT q
    simp only [Bool.bne_false] at this
    exact this
theorem s_din (C : CtxOk W Γ k EX N sc l X) {neg : Bool} {i : Nat} {a : E} {z : Expr} {y : Str} {p pos : Pos} (ha : PE X z (tR W Γ EX a)) (hx : chkVar N sc i y = true) : PE X (.Compare z [dinOp neg] [.Name y p] pos) (tE W Γ EX (.dx (.isin neg) i a)) := by
  have hu : X.A.units + 1 < cLine := by have := C.units; omega
  cases neg with
  | true =>
    refine (pe_cmp (op := .NotIn) (pc_dnotin hu ha (varD C hx)) rfl).impD fun σ H Q q => ?_
    have := din_imp q
    simp only [Bool.bne_true] at this
    exact this
  | false =>
    refine (pe_cmp (op := .In) (pc_din hu ha (varD C hx)) rfl).impD fun σ H Q q => ?_
    have := din_imp q
    simp only [Bool.bne_false] at this
    exact this
theorem s_dget (C : CtxOk W Γ k EX N sc l X) {i : Nat} {a : E} {z : Expr} {y : Str} {p pos : Pos} (hp : plainIx z = true) (ha : PE X z (tR W Γ EX a)) (hx : chkVar N sc i y = true) : PE X (.Subscript (.Name y p) z pos) (tE W Γ EX (.dx .get i a)) := by
  have hu : X.A.units + 1 < cLine := by have := C.units; omega
  refine (pe_dget hu (varD C hx) ha (fun ov iv => plain_ix hp ov iv)).impD fun σ H Q q => ?_
  obtain ⟨F, ρ, Qd, Xd, s, ⟨kvs, h1, w⟩, q, x⟩ := q
  obtain ⟨ad, vs, g1, g2, g3, g4, g5, g6⟩ := s.dct h1
  refine ⟨_, g1, F, ρ, _, Xd, s, w, fun d v F' H' e1 r w1 => ?_, x⟩
  cases d <;> try (cases w1; done)
  rename_i j
  have := r.int
  subst this
  obtain ⟨d, h2, h3⟩ := w1
  obtain ⟨ad', vs', k1, k2, k3, k4, k5, k6⟩ := (s.ext e1).dct h1
  rw [g1] at k1
  cases k1
  obtain ⟨v, f1, f2⟩ := (kvd_find (k := j) k5).2 d h2
  refine ⟨ad, v, rfl, ?_, q d v F' H' e1 f2 h3⟩
  have := DGet.k (k := Sum.inl j) k2
  rw [f1] at this
  exact this
end
end Dl

set_option Elab.async false
set_option linter.all false
set_option maxRecDepth 100000
set_option maxHeartbeats 8000000
/-! the data layer, part 12: targets, comprehensions, lambdas that are asked -/
namespace Dl
open PySem PySem.Spec PyProof.Rows L2

/-! ### targets -/
theorem each_plain {x : Expr} (h : isStar x = false) (es : List Expr) (env : Env) : assignEach (x :: es) env = (false, assign x env) :: assignEach es env := by
  cases x <;> first | rfl | cases h
theorem each_facts : ∀ {xs : List Expr}, noStars xs = true → ∀ env : Env, (assignEach xs env).length = xs.length ∧ (assignEach xs env).findIdx? (·.1) = none
  | [], _, env => ⟨rfl, rfl⟩
  | x :: xs, h, env => by
    unfold noStars at h
    simp only [List.all_cons, Bool.and_eq_true, Bool.not_eq_true'] at h
    obtain ⟨a, b⟩ := each_facts (xs := xs) (by unfold noStars; exact h.2) env
    rw [each_plain h.1]
    refine ⟨by simp [a], ?_⟩
    rw [List.findIdx?_cons]
    simp [b]
theorem wipe_set {x : Option V} {i : Nat} : ∀ {vs : List Nat} {σ : L2.St}, wipe (σ.set i x) vs = if i ∈ vs then wipe σ vs else (wipe σ vs).set i x
  | [], σ => by simp [wipe]
  | v :: vs, σ => by
    unfold wipe
    rw [wipe_set (vs := vs)]
    by_cases hv : i = v
    · subst hv
      rw [if_pos List.mem_cons_self]
      by_cases hm : i ∈ vs
      · rw [if_pos hm]
      · rw [if_neg hm, List.set_set]
    · by_cases hm : i ∈ vs
      · rw [if_pos hm, if_pos (List.mem_cons_of_mem _ hm)]
      · rw [if_neg hm, if_neg (fun z => (List.mem_cons.mp z).elim hv hm), List.set_comm _ _ hv]
theorem wipe_in {x : Option V} {i : Nat} {vs : List Nat} {σ : L2.St} (h : i ∈ vs) : wipe (σ.set i x) vs = wipe σ vs := by rw [wipe_set, if_pos h]
/-- only these slots changed -/
def SlotsOnly (is : List Nat) (σ σ' : L2.St) : Prop := ∀ vs : List Nat, (∀ i ∈ is, i ∈ vs) → wipe σ' vs = wipe σ vs
def gP (W : Wd) (p : Pat) : TG := fun v σ H Q => ∃ F ρ d ρ', St W F ρ σ H ∧ Dat W.K F v d ∧ bindP p d ρ = some ρ' ∧ ∀ σ', St W F ρ' σ' H → SlotsOnly p.slots σ σ' → Q σ' H
def gPs (W : Wd) (p : Pats) : TGs := fun vs σ H Q => ∃ F ρ ds ρ', St W F ρ σ H ∧ Dats W.K F vs ds ∧ bindPs p ds ρ = some ρ' ∧ ∀ σ', St W F ρ' σ' H → SlotsOnly p.slots σ σ' → Q σ' H
theorem _root_.L2.PG.impD {X : Cx} {e : Expr} {t t' : TG} (h : PG X e t) (i : ∀ v σ H Q, t' v σ H Q → t v σ H Q) : PG X e t' := ⟨fun pins s σ H v u Q I r q => h.run pins s σ H v u Q I r (i _ _ _ _ q)⟩
theorem _root_.L2.PGs.impD {X : Cx} {e : List Expr} {t t' : TGs} (h : PGs X e t) (i : ∀ v σ H Q, t' v σ H Q → t v σ H Q) : PGs X e t' := ⟨fun pins s σ H v u Q I r q => h.run pins s σ H v u Q I r (i _ _ _ _ q)⟩
section
variable {W : Wd} {X : Cx} {N : List Str} {sc : Scope} {st : Str → Bool}
mutual
theorem sndP (hK : X.K = W.K) (hN : X.N = N) (nd : N.Nodup) (hsc : X.env.scope = sc) (hc : X.calm = true) (hst : ∀ x, locB sc x = true → st x = true → X.fn x = true ∨ X.env.scope.names.lookup x = some .local) : ∀ (p : Pat) (x : Expr), chkP N sc st p x = true → PG X x (gP W p)
  | .name i n, x, h => by
    unfold chkP at h
    split at h
    · rename_i heq
      cases heq
      simp only [Bool.and_eq_true, decide_eq_true_eq] at h
      obtain ⟨⟨⟨rfl, h2⟩, h3⟩, h4⟩ := h
      refine (pg_name (i := i) (by rw [hN]; exact nd) (by rw [hN]; exact h2) (by rw [hsc]; exact loc_of h3) (hst _ h3 h4)).impD fun v σ H Q q => ?_
      obtain ⟨F, ρ, d, ρ', s, r, e, q⟩ := q
      cases e
      exact q _ (s.set i r) fun vs hv => wipe_in (hv i List.mem_cons_self)
    · exact absurd ‹Pat.name _ _ = Pat.tup _› (fun z => by cases z)
    · cases h
  | .tup ps, x, h => by
    unfold chkP at h
    split at h
    · exact absurd ‹Pat.tup _ = Pat.name _ _› (fun z => by cases z)
    · rename_i heq
      cases heq
      simp only [Bool.and_eq_true] at h
      obtain ⟨f1, f2⟩ := each_facts h.1 X.env
      refine (pg_tup hc (sndPs hK hN nd hsc hc hst ps _ h.2 h.1) f1 f2).impD fun v σ H Q q => ?_
      obtain ⟨F, ρ, d, ρ', s, r, e, q⟩ := q
      have hd : ∃ ds, d = .tuple ds ∧ bindPs ps ds ρ = some ρ' := by
        unfold bindP at e
        split at e
        · exact ⟨_, rfl, e⟩
        · cases e
      obtain ⟨ds, rfl, e⟩ := hd
      cases r with
      | tup e1 d1 z =>
        refine ⟨_, _, rfl, hK ▸ (e1.mono s.f.sub).seq, ?_, F, ρ, ds, ρ', s, d1, e, fun σ' s' o => q σ' s' o⟩
        rw [d1.length]
        exact bindPs_len ps _ h.2 ds ρ ρ' e
    · cases h
theorem sndPs (hK : X.K = W.K) (hN : X.N = N) (nd : N.Nodup) (hsc : X.env.scope = sc) (hc : X.calm = true) (hst : ∀ x, locB sc x = true → st x = true → X.fn x = true ∨ X.env.scope.names.lookup x = some .local) : ∀ (p : Pats) (xs : List Expr), chkPs N sc st p xs = true → noStars xs = true → PGs X xs (gPs W p)
  | .nil, xs, h, hs => by
    cases xs with
    | nil =>
      refine pgs_nil.impD fun v σ H Q q => ?_
      obtain ⟨F, ρ, d, ρ', s, r, e, q⟩ := q
      cases d with
      | nil => cases r; cases e; exact ⟨rfl, q σ s fun vs hv => rfl⟩
      | cons _ _ => cases e
    | cons _ _ => cases h
  | .cons p r, xs, h, hs => by
    cases xs with
    | nil => cases h
    | cons x xs =>
      unfold chkPs at h
      simp only [Bool.and_eq_true] at h
      unfold noStars at hs
      simp only [List.all_cons, Bool.and_eq_true, Bool.not_eq_true'] at hs
      refine (pgs_cons (sndP hK hN nd hsc hc hst p x h.1) (sndPs hK hN nd hsc hc hst r xs h.2 (by unfold noStars; exact hs.2)) (by rw [each_plain hs.1]; rfl)).impD fun v σ H Q q => ?_
      obtain ⟨F, ρ, ds, ρ', s, dd, e, q⟩ := q
      cases ds with
      | nil => cases e
      | cons d ds =>
        cases dd with
        | cons d1 d2 =>
          obtain ⟨ρ1, e1, e2⟩ := Option.bind_eq_some_iff.mp (show (bindP p d ρ).bind (fun ρ' => bindPs r ds ρ') = some ρ' from e)
          refine ⟨_, _, rfl, F, ρ, d, ρ1, s, d1, e1, fun σ1 s1 o1 => ⟨F, ρ1, ds, ρ', s1, d2, e2, fun σ2 s2 o2 => q σ2 s2 fun vs hv => ?_⟩⟩
          rw [o2 vs fun i hi => hv i (List.mem_append_right _ hi)]
          exact o1 vs fun i hi => hv i (List.mem_append_left _ hi)
theorem bindPs_len : ∀ (p : Pats) (xs : List Expr), chkPs N sc st p xs = true → ∀ (ds : List D) (ρ ρ' : Env1), bindPs p ds ρ = some ρ' → ds.length = xs.length
  | .nil, xs, h, ds, ρ, ρ', e => by
    cases xs with
    | nil => cases ds with
      | nil => rfl
      | cons _ _ => cases e
    | cons _ _ => cases h
  | .cons p r, xs, h, ds, ρ, ρ', e => by
    cases xs with
    | nil => cases h
    | cons x xs =>
      cases ds with
      | nil => cases e
      | cons d ds =>
        unfold chkPs at h
        simp only [Bool.and_eq_true] at h
        obtain ⟨ρ1, e1, e2⟩ := Option.bind_eq_some_iff.mp (show (bindP p d ρ).bind (fun ρ' => bindPs r ds ρ') = some ρ' from e)
        simp [bindPs_len r xs h.2 ds ρ1 ρ' e2]
end
end
end Dl

set_option Elab.async false
set_option linter.all false
set_option maxRecDepth 100000
set_option maxHeartbeats 8000000
/-! the data layer, part 13: comprehensions -/
namespace Dl
open PySem PySem.Spec PyProof.Rows L2

/-! ### a list that is being filled, seen from without -/
def rmv (H : Hp) (D : Addr) : Hp := fun b => if b = D then none else H b
theorem rmv_same {H : Hp} {D : Addr} : rmv H D D = none := by simp [rmv]
theorem rmv_ne {H : Hp} {D b : Addr} (h : b ≠ D) : rmv H D b = H b := by simp [rmv, h]
theorem upd_rmv {H : Hp} {D : Addr} {o : HO} (h : H D = some o) : upd (rmv H D) D o = H := by
  funext b
  by_cases hb : b = D
  · subst hb; rw [upd_same, h]
  · rw [upd_ne hb, rmv_ne hb]
theorem rmv_upd {H : Hp} {D : Addr} {o : HO} : rmv (upd H D o) D = rmv H D := by
  funext b
  by_cases hb : b = D
  · subst hb; rw [rmv_same, rmv_same]
  · rw [rmv_ne hb, rmv_ne hb, upd_ne hb]
theorem upd_id {H : Hp} {D : Addr} {o : HO} (h : H D = some o) : upd H D o = H := by
  funext b
  by_cases hb : b = D
  · subst hb; rw [upd_same, h]
  · rw [upd_ne hb]
theorem rmv_new {H : Hp} {D : Addr} (h : H D = none) : rmv H D = H := by
  funext b
  by_cases hb : b = D
  · subst hb; rw [rmv_same, h]
  · rw [rmv_ne hb]
section
variable {W : Wd} {F H F' H' : Hp} {D : Addr}
/-- the list D is there at H (new since G), and a step from H to H' leaves it -/
theorem Ext.del {acc : List V} {G : Hp} (f : FOk W F G) (g : Good W G) (nG : G D = none) (e : Ext W F (upd G D (.lst acc)) F' H') : Ext W F G F' (rmv H' D) ∧ H' D = some (.lst acc) ∧ rmv H' D D = none ∧ D ≠ W.R ∧ F' D = none := by
  have nR : D ≠ W.R := fun z => g.nR (z ▸ nG)
  have hD : H' D = some (.lst acc) := e.keep _ _ upd_same (fun ps z => by cases z) nR
  have fD : F' D = none := e.fr _ _ (f.none nG) upd_same (fun ps z => by cases z)
  refine ⟨⟨fun b o h1 h2 h3 => ?_, e.sub, fun b o h1 h2 h3 => ?_, ⟨fun b o h => ?_, e.ok.imm, e.ok.nr⟩, ?_⟩, hD, rmv_same, nR, fD⟩
  · have hb : b ≠ D := fun z => by rw [z, nG] at h1; cases h1
    rw [rmv_ne hb]
    exact e.keep b o (by rw [upd_ne hb]; exact h1) h2 h3
  · have hb : b ≠ D := fun z => by rw [z, nG] at h2; cases h2
    exact e.fr b o h1 (by rw [upd_ne hb]; exact h2) h3
  · have hb : b ≠ D := fun z => by rw [z, fD] at h; cases h
    rw [rmv_ne hb]
    exact e.ok.sub b o h
  · obtain ⟨⟨⟨i, s, gg, e1, hb⟩, ns, hs, hl⟩, t⟩ := e.gd
    obtain ⟨⟨_, ns0, hs0, hl0⟩, _⟩ := g
    have key : ∃ ns : List Int, SqS W.K (rmv H' D) W.S W.R (ns.map V.int) ∧ ns.length ≤ 63 ∧ ∀ z ∈ ns, Builtin.Int.intBits z ≤ 1048576 := by
      rcases hs0 with ⟨hs0, hn0⟩ | hs0
      · have nS : W.S ≠ D := fun z => by
          rcases hs0 with h | ⟨o, h⟩ <;> (rw [z, nG] at h; cases h)
        exact ⟨ns, hs.imp fun o h _ _ => by rw [rmv_ne nS]; exact h, hl⟩
      · exact ⟨ns0, .inr hs0, hl0⟩
    refine ⟨⟨⟨i, s, gg, by rw [rmv_ne (Ne.symm nR)]; exact e1, hb⟩, key⟩, fun p hp => ?_⟩
    · obtain ⟨ps, t1, t2, t3⟩ := t p hp
      have n1 : p.1 ≠ D := fun z => by rw [z, hD] at t1; cases t1
      refine ⟨ps, by rw [rmv_ne n1]; exact t1, t2, fun pos cv h => ?_⟩
      obtain ⟨c, c1, c2⟩ := t3 pos cv h
      have n2 : c ≠ D := fun z => by rw [z, hD] at c2; cases c2
      exact ⟨c, c1, by rw [rmv_ne n2]; exact c2⟩

end
/-! ### conditions of a comprehension -/
section
variable {W : Wd} {Γ : Gam} {EX : XK} {X : Cx}
def tTs (W : Wd) (Γ : Gam) (EX : XK) (cs : EL) : TT := fun σ H Q => ∃ F ρ Qd Xd, St W F ρ σ H ∧ wpTAnds Γ cs ρ Qd Xd ∧ (∀ b F' H', Ext W F H F' H' → Qd b → Q b H') ∧ XOK W EX F H Xd
theorem _root_.L2.PTs.impD {X : Cx} {e : List Expr} {t t' : TT} (h : PTs X e t) (i : ∀ σ H Q, t' σ H Q → t σ H Q) : PTs X e t' := ⟨fun pins s σ H Q I q => h.run pins s σ H Q I (i _ _ _ q)⟩
theorem ts_nil : PTs X [] (tTs W Γ EX .nil) := pts_nil.impD fun σ H Q q => by
  obtain ⟨F, ρ, Qd, Xd, s, w, q, x⟩ := q
  exact q true F H (.refl s.f s.g) w
theorem ts_one {e : E} {x : Expr} (h : PT X x (tT W Γ EX e)) : PTs X [x] (tTs W Γ EX (.cons e .nil)) := (pts_one h).impD fun σ H Q q => by
  obtain ⟨F, ρ, Qd, Xd, s, w, q, x⟩ := q
  refine ⟨F, ρ, _, Xd, s, w, fun b F' H' e1 h => ?_, x⟩
  cases b with
  | true => rw [if_pos rfl] at h; exact q _ _ _ e1 h
  | false => rw [if_neg Bool.false_ne_true] at h; exact q _ _ _ e1 h
end
/-! ### the walk -/
theorem wipe_len (σ : L2.St) (vs : List Nat) : (wipe σ vs).length = σ.length := wipe_length σ vs
theorem wipe_comm1 {σ : L2.St} (v : Nat) : ∀ vs : List Nat, wipe (σ.set v none) vs = (wipe σ vs).set v none
  | [] => rfl
  | u :: us => by
    unfold wipe
    rw [wipe_comm1 v us]
    by_cases h : u = v
    · subst h; rfl
    · rw [List.set_comm _ _ (Ne.symm h)]
theorem wipe_wipe {σ : L2.St} : ∀ vs : List Nat, wipe (wipe σ vs) vs = wipe σ vs := by
  have key : ∀ (us vs : List Nat), wipe (wipe σ us) vs = wipe σ (vs ++ us) := fun us vs => by
    induction vs with
    | nil => rfl
    | cons v vs ih => unfold wipe; rw [ih]; rfl
  intro vs
  rw [key]
  have idem : ∀ (us ws : List Nat), (∀ i ∈ us, i ∈ ws) → wipe σ (us ++ ws) = wipe σ ws := fun us ws h => by
    induction us with
    | nil => rfl
    | cons u us ih =>
      show (wipe σ (us ++ ws)).set u none = _
      rw [ih fun i hi => h i (List.mem_cons_of_mem _ hi), ← wipe_comm1, wipe_in (h u List.mem_cons_self)]
  exact idem vs vs fun _ h => h
theorem wipe_St {W : Wd} {F H : Hp} {ρ : Env1} {σ : L2.St} (s : St W F ρ σ H) (vs : List Nat) : St W F (wipeB ρ vs) (wipe σ vs) H := s.wipe vs
section
variable {W : Wd} {Γ : Gam} {EX : XK} {X : Cx} {N : List Str} {sc : Scope} {l : Bool}
def noX : XK := fun _ _ _ => False
theorem XOK.no {F H : Hp} : XOK W noX F H (fun _ => False) := fun _ _ _ _ _ _ _ z => z
theorem lc_imp {elt : E} {own : List (Str × Nat)} {tg : Pat} {it : It1} {cs : EL} (hs : ∀ i ∈ tg.slots, i ∈ own.map (·.2)) {σ : L2.St} {H : Hp} {Q : VK} (q : tZ W Γ EX (.lc elt own tg it cs) σ H Q) :
    tLc (tIt W Γ EX it) (gP W tg) (tTs W Γ noX cs) (tE W Γ noX elt) (own.map (·.2)) σ H Q := by
  obtain ⟨F, ρ, Qd, Xd, s, w, q, x⟩ := q
  refine ⟨F, ρ, _, Xd, s, w, fun items J F1 H1 e1 hJ hlen w1 => fun D nD => ?_, x⟩
  obtain ⟨G, Y, wk, hG, hY⟩ := hJ
  have s1 := s.ext e1
  let vs := own.map (·.2)
  let f : PyData → (Option PyData → Prop) → Prop := fun x k => opt (bindP tg x (wipeB ρ vs)) fun ρ' => wpTAnds Γ cs ρ' (fun b => if b = true then wpE Γ elt ρ' (fun y => k (some y)) (fun _ => False) else k none) (fun _ => False)
  refine lc_it wk (fun i Hi => ∃ Fi Gi acc ys, Hi = upd Gi D (.lst acc) ∧ Gi D = none ∧ Ext W F1 H1 Fi Gi ∧ Dats W.K Fi acc ys ∧ ys.length ≤ i ∧ wpL f (items.drop i) (fun zs => Qd (.list (ys ++ zs))))
    ⟨F1, H1, [], [], rfl, nD, .refl s1.f s1.g, .nil, Nat.le_refl _, by simpa using w1⟩ ?_ ?_ ?_
  · rintro i Hi hi ⟨Fi, Gi, acc, ys, rfl, nG, e2, dd, hl, wi⟩
    refine hG Fi _ e2.sub ⟨e2.ok.sub.trans (same_new nG), e2.ok.imm, e2.ok.nr⟩
  · rintro i xv Hi H' hi ⟨Fi, Gi, acc, ys, rfl, nG, e2, dd, hl, wi⟩ hy
    have f0 : FOk W Fi (upd Gi D (.lst acc)) := ⟨e2.ok.sub.trans (same_new nG), e2.ok.imm, e2.ok.nr⟩
    have g0 : Good W (upd Gi D (.lst acc)) := e2.gd.new nG
    obtain ⟨F2, d, e3, hd, dv⟩ := hY i Fi _ xv H' e2.sub f0 g0 hi hy
    have hdrop : items.drop i = d :: items.drop (i + 1) := by
      obtain ⟨h1, h2⟩ := List.getElem?_eq_some_iff.mp hd
      rw [List.drop_eq_getElem_cons h1, h2]
    rw [hdrop] at wi
    obtain ⟨ρ', hb, wi⟩ := wi
    have s2 : St W F2 (wipeB ρ vs) (wipe σ vs) H' := (((s1.wipe vs).ext e2).ext (Ext.new e2.ok e2.gd nG)).ext e3
    refine ⟨F2, _, d, ρ', s2, dv, hb, fun σ2 s3 o => ⟨?_, F2, ρ', _, _, s3, wi, fun b F3 H3 e4 wb => ?_, XOK.no⟩⟩
    · rw [o vs hs]
      exact wipe_wipe vs
    · have fin : ∀ {F4 H4 : Hp} {zs : List PyData} {ac : List V}, Ext W F2 H' F4 H4 → Dats W.K F4 ac zs → zs.length ≤ i + 1 → wpL f (items.drop (i + 1)) (fun us => Qd (.list (zs ++ us))) → ∃ Fi Gi acc ys, upd H4 D (.lst ac) = upd Gi D (.lst acc) ∧ Gi D = none ∧ Ext W F1 H1 Fi Gi ∧ Dats W.K Fi acc ys ∧ ys.length ≤ i + 1 ∧ wpL f (items.drop (i + 1)) (fun zs => Qd (.list (ys ++ zs))) := fun {F4 H4 zs ac} e5 d5 l5 w5 => by
        obtain ⟨a1, a2, a3, a4, a5⟩ := (e3.trans e5).del e2.ok e2.gd nG
        refine ⟨F4, rmv H4 D, ac, zs, ?_, a3, e2.trans a1, d5, l5, w5⟩
        funext b
        by_cases hb : b = D
        · subst hb; rw [upd_same, upd_same]
        · rw [upd_ne hb, upd_ne hb, rmv_ne hb]
      dsimp only
      cases b with
      | true =>
        rw [if_pos rfl] at wb ⊢
        refine ⟨F3, ρ', _, _, s3.ext e4, wb, fun y v F4 H4 e5 r w5 => ?_, XOK.no⟩
        obtain ⟨a1, a2, a3, a4, a5⟩ := (e3.trans (e4.trans e5)).del e2.ok e2.gd nG
        refine ⟨acc, a2, ?_, fin (e4.trans e5) (Dats.append ((dd.mono e3.sub).mono (e4.trans e5).sub) (.cons r .nil)) (zs := ys ++ [y]) (by simp; omega) ?_⟩
        · rw [dd.length, sizeLine_eq]; omega
        · simpa using w5
      | false =>
        rw [if_neg Bool.false_ne_true] at wb ⊢
        obtain ⟨a1, a2, a3, a4, a5⟩ := (e3.trans e4).del e2.ok e2.gd nG
        have := fin e4 ((dd.mono e3.sub).mono e4.sub) (by omega) wb
        rw [upd_id a2] at this
        exact this
  · rintro Hn ⟨Fi, Gi, acc, ys, rfl, nG, e2, dd, hl, wi⟩
    rw [List.drop_length] at wi
    have wi : Qd (.list ys) := by simpa [wpL] using wi
    exact q (.list ys) Fi Gi (e1.trans e2) wi D acc nG dd (by omega)
theorem s_lc (hc : X.calm = true) (hN : X.N.Nodup) {elt : E} {own : List (Str × Nat)} {tg : Pat} {it : It1} {cs : EL} {ex tx ix : Expr} {ifs : List Expr} {scope : Scope} {pos : Pos}
    (hi : PI X tx ix (tIt W Γ EX it)) (ok : BlkOk X.N X.env.scope scope own) (hf : isSetD ix = false) (hs : ∀ i ∈ tg.slots, i ∈ own.map (·.2))
    (hg : ∀ (s : Shared) (H : Hp) (C : Addr) (cl : List (Str × Addr)) (fp : List Addr), PG (X.blk s H scope (compEnvC scope cl C X.env) fp) tx (gP W tg))
    (ht : ∀ (s : Shared) (H : Hp) (C : Addr) (cl : List (Str × Addr)) (fp : List Addr), PTs (X.blk s H scope (compEnvC scope cl C X.env) fp) ifs (tTs W Γ noX cs))
    (he : ∀ (s : Shared) (H : Hp) (C : Addr) (cl : List (Str × Addr)) (fp : List Addr), PE (X.blk s H scope (compEnvC scope cl C X.env) fp) ex (tE W Γ noX elt)) :
    PE X (.ListComp ex [⟨tx, ix, ifs, 0⟩] scope pos) (tZ W Γ EX (.lc elt own tg it cs)) := by
  exact (pe_lc hc hN hi ok hg ht he (no_fold hf X.env)).impD fun σ H Q q => lc_imp hs q
end
end Dl

set_option Elab.async false
set_option linter.all false
set_option maxRecDepth 100000
set_option maxHeartbeats 8000000
/-! the data layer, part 14: comprehensions with a walk within -/
namespace Dl
open PySem PySem.Spec PyProof.Rows L2
/-- the list L0 (new since F1, H1) holds ys; all else as Ext says -/
def Gh (W : Wd) (F1 H1 : Hp) (L0 : Addr) (Fi Hi : Hp) (ys : List PyData) : Prop := ∃ Gi acc, Hi = upd Gi L0 (.lst acc) ∧ Gi L0 = none ∧ Ext W F1 H1 Fi Gi ∧ Dats W.K Fi acc ys
section
variable {W : Wd} {F1 H1 Fi Hi F' H' : Hp} {L0 : Addr} {ys : List PyData}
theorem Gh.start (f : FOk W F1 H1) (g : Good W H1) (n : H1 L0 = none) : Gh W F1 H1 L0 F1 (upd H1 L0 (.lst [])) [] := ⟨H1, [], rfl, n, .refl f g, .nil⟩
theorem Gh.ext (h : Gh W F1 H1 L0 Fi Hi ys) : Ext W F1 H1 Fi Hi := by
  obtain ⟨Gi, acc, rfl, n, e, d⟩ := h
  exact e.trans (Ext.new e.ok e.gd n)
theorem Gh.step (h : Gh W F1 H1 L0 Fi Hi ys) (e : Ext W Fi Hi F' H') : Gh W F1 H1 L0 F' H' ys := by
  obtain ⟨Gi, acc, rfl, n, e2, d⟩ := h
  obtain ⟨a1, a2, a3, a4, a5⟩ := e.del e2.ok e2.gd n
  exact ⟨rmv H' L0, acc, (upd_rmv a2).symm, a3, e2.trans a1, d.mono e.sub⟩
theorem Gh.app {y : PyData} {v : V} (h : Gh W F1 H1 L0 Fi Hi ys) (r : Dat W.K Fi v y) : ∃ acc, Hi L0 = some (.lst acc) ∧ acc.length = ys.length ∧ Gh W F1 H1 L0 Fi (upd Hi L0 (.lst (acc ++ [v]))) (ys ++ [y]) := by
  obtain ⟨Gi, acc, rfl, n, e2, d⟩ := h
  refine ⟨acc, upd_same, d.length, Gi, acc ++ [v], ?_, n, e2, d.append (.cons r .nil)⟩
  funext b
  by_cases hb : b = L0
  · subst hb; rw [upd_same, upd_same]
  · rw [upd_ne hb, upd_ne hb, upd_ne hb]
end
/-- a walk within a walk -/
theorem in_it {J : It} {n : Nat} {G : Hp → Prop} {Y : Nat → Hp → V → Hp → Prop} (w : Walk J n G Y) {body : V → Hp → (Hp → Prop) → Prop} {H4 : Hp} {Nx : Hp → Prop} (Pv : Nat → Hp → Prop) (h0 : Pv 0 H4) (hG : ∀ i H, i ≤ n → Pv i H → G H)
    (hs : ∀ i x H H', i < n → Pv i H → Y i H x H' → body x H' (Pv (i + 1))) (hd : ∀ H, Pv n H → Nx H) :
    ∃ W : Nat → Nat → Hp → Prop, (∃ m, W 0 m H4) ∧ ∀ i m H, W i m H → (J.stop i H ∧ Nx H) ∨ (J.go i H ∧ ∃ Nx1 : Hp → Prop, (∀ H', Nx1 H' → ∃ m', m' < m ∧ W (i + 1) m' H') ∧ ∀ x H', J.yld i H x H' → body x H' Nx1) := by
  refine ⟨fun i m H => m = n - i ∧ i ≤ n ∧ Pv i H, ⟨n, by simp, Nat.zero_le _, h0⟩, ?_⟩
  rintro i m H ⟨rfl, hi, p⟩
  have q := hG i H hi p
  by_cases hlt : i < n
  · exact .inr ⟨w.goes i H hlt q, Pv (i + 1), fun H' p' => ⟨n - (i + 1), by omega, rfl, hlt, p'⟩, fun x H' y => hs i x H H' hlt p (w.yields i H x H' hlt q y)⟩
  · have e : i = n := by omega
    subst e
    exact .inl ⟨w.stops H q, hd H p⟩
theorem drop_at {items : List PyData} {i : Nat} {d : PyData} (hd : items[i]? = some d) : items.drop i = d :: items.drop (i + 1) := by
  obtain ⟨h1, h2⟩ := List.getElem?_eq_some_iff.mp hd
  rw [List.drop_eq_getElem_cons h1, h2]
/-! ### slots that own know nothing of a new list -/
mutual
theorem bindP_own : ∀ (p : Pat) (d : PyData) (ρ ρ' : Env1), bindP p d ρ = some ρ' → ∀ (i : Nat) b, ρ'[i]? = some b → b.live = true → i ∉ p.slots ∧ ρ[i]? = some b
  | .name j x, d, ρ, ρ', e, i, xs, h, lv => by
    cases e
    by_cases hj : j = i
    · subst hj
      rw [List.getElem?_set] at h
      simp only [if_true] at h
      split at h <;> cases h
      cases lv
    · rw [List.getElem?_set_ne hj] at h
      exact ⟨by simp [Pat.slots]; exact fun z => hj z.symm, h⟩
  | .tup ps, d, ρ, ρ', e, i, xs, h, lv => by
    unfold bindP at e
    split at e
    · exact bindPs_own ps _ ρ ρ' e i xs h lv
    · cases e
theorem bindPs_own : ∀ (p : Pats) (ds : List PyData) (ρ ρ' : Env1), bindPs p ds ρ = some ρ' → ∀ (i : Nat) b, ρ'[i]? = some b → b.live = true → i ∉ p.slots ∧ ρ[i]? = some b
  | .nil, ds, ρ, ρ', e, i, xs, h, lv => by
    cases ds with
    | nil => cases e; exact ⟨by simp [Pats.slots], h⟩
    | cons _ _ => cases e
  | .cons p r, ds, ρ, ρ', e, i, xs, h, lv => by
    cases ds with
    | nil => cases e
    | cons d ds =>
      obtain ⟨ρ1, e1, e2⟩ := Option.bind_eq_some_iff.mp (show (bindP p d ρ).bind (fun ρ' => bindPs r ds ρ') = some ρ' from e)
      obtain ⟨a1, a2⟩ := bindPs_own r ds ρ1 ρ' e2 i xs h lv
      obtain ⟨b1, b2⟩ := bindP_own p d ρ ρ1 e1 i xs a2 lv
      exact ⟨by simp only [Pats.slots, List.mem_append, not_or]; exact ⟨b1, a1⟩, b2⟩
end
def NoOwn (L0 : Addr) (ρ : Env1) (σ : L2.St) : Prop := ∀ (i : Nat) b, ρ[i]? = some b → b.live = true → σ[i]? ≠ some (some (.ref L0))
theorem wipe_at {σ : L2.St} {i : Nat} : ∀ {vs : List Nat}, i ∉ vs → (wipe σ vs)[i]? = σ[i]?
  | [], _ => rfl
  | v :: vs, h => by
    unfold wipe
    have hne : v ≠ i := fun z => h (z ▸ List.mem_cons_self)
    rw [List.getElem?_set_ne hne]
    exact wipe_at fun z => h (List.mem_cons_of_mem _ z)
theorem wipeB_own {ρ : Env1} {i : Nat} {b : B} (lv : b.live = true) : ∀ {vs : List Nat}, (wipeB ρ vs)[i]? = some b → i ∉ vs ∧ ρ[i]? = some b
  | [], h => ⟨by simp, h⟩
  | v :: vs, h => by
    unfold wipeB at h
    by_cases hj : v = i
    · subst hj
      rw [List.getElem?_set] at h
      simp only [if_true] at h
      split at h <;> cases h
      cases lv
    · rw [List.getElem?_set_ne hj] at h
      obtain ⟨h1, h2⟩ := wipeB_own lv h
      exact ⟨by simp only [List.mem_cons, not_or]; exact ⟨fun z => hj z.symm, h1⟩, h2⟩
theorem NoOwn.wipe {L0 : Addr} {ρ : Env1} {σ : L2.St} (h : NoOwn L0 ρ σ) (vs : List Nat) : NoOwn L0 (wipeB ρ vs) (L2.wipe σ vs) := fun i xs e lv => by
  obtain ⟨h1, h2⟩ := wipeB_own lv e
  rw [wipe_at h1]
  exact h i xs h2 lv
theorem NoOwn.bind {L0 : Addr} {ρ ρ' : Env1} {σ σ' : L2.St} {p : Pat} {d : PyData} (h : NoOwn L0 ρ σ) (e : bindP p d ρ = some ρ') (o : SlotsOnly p.slots σ σ') : NoOwn L0 ρ' σ' := fun i xs q lv => by
  obtain ⟨h1, h2⟩ := bindP_own p d ρ ρ' e i xs q lv
  rw [← wipe_at h1, o p.slots fun _ z => z, wipe_at h1]
  exact h i xs h2 lv
theorem St.noOwn {W : Wd} {F H : Hp} {ρ : Env1} {σ : L2.St} {L0 : Addr} (s : St W F ρ σ H) (n : H L0 = none) : NoOwn L0 ρ σ := fun i xs e lv z => by
  obtain ⟨v, h1, h2⟩ := s.slot e
  obtain ⟨a, vs, rfl, h3, _⟩ := h2.live lv
  rw [h1] at z
  cases z
  rw [n] at h3; cases h3
theorem St.rmv {W : Wd} {F G : Hp} {ρ : Env1} {σ : L2.St} {L0 : Addr} {acc : List V} (s : St W F ρ σ (upd G L0 (.lst acc))) (n : NoOwn L0 ρ σ) (f : FOk W F G) (g : Good W G) : St W F ρ σ G := by
  refine ⟨f, g, s.len, fun i b v h1 h2 => ?_, s.dj⟩
  have q := s.sl i b v h1 h2
  cases b with
  | val d => exact q
  | own xs =>
    obtain ⟨a, vs, rfl, h3, h4⟩ := q
    exact ⟨a, vs, rfl, by rw [upd_ne (fun z => n i _ h1 rfl (by rw [h2, z]))] at h3; exact h3, h4⟩
  | dct xs =>
    obtain ⟨a, vs, rfl, h3, h4⟩ := q
    exact ⟨a, vs, rfl, by rw [upd_ne (fun z => n i _ h1 rfl (by rw [h2, z]))] at h3; exact h3, h4⟩
  | row => exact q
  | bad => trivial
section
variable {W : Wd} {Γ : Gam} {EX : XK} {X : Cx} {N : List Str} {sc : Scope} {l : Bool}
theorem lc2_imp {elt : E} {own : List (Str × Nat)} {vs1 : List Nat} {tg tg1 : Pat} {it it1 : It1} {cs cs1 : EL} (hs : ∀ i ∈ tg.slots, i ∈ own.map (·.2)) (hs1 : ∀ i ∈ tg1.slots, i ∈ vs1) (hv : ∀ i ∈ vs1, i ∈ own.map (·.2)) {σ : L2.St} {H : Hp} {Q : VK} (q : tZ W Γ EX (.lc2 elt own tg it cs vs1 tg1 it1 cs1) σ H Q) :
    tLc2 (tIt W Γ EX it) (gP W tg) (tTs W Γ noX cs) (tIt W Γ noX it1) (gP W tg1) (tTs W Γ noX cs1) (tE W Γ noX elt) (own.map (·.2)) vs1 σ H Q := by
  obtain ⟨F, ρ, Qd, Xd, s, w, q, x⟩ := q
  refine ⟨F, ρ, _, Xd, s, w, fun items J F1 H1 e1 hJ hlen w1 => fun L0 nD => ?_, x⟩
  obtain ⟨G, Y, wk, hG, hY⟩ := hJ
  obtain ⟨hlen, w1⟩ := w1
  have s1 := s.ext e1
  let vs := own.map (·.2)
  let f1 : Env1 → PyData → (Option PyData → Prop) → Prop := fun ρ' x1 k1 => opt (bindP tg1 x1 (wipeB ρ' vs1)) fun ρ1 =>
        wpTAnds Γ cs1 ρ1 (fun b1 => if b1 = true then wpE Γ elt ρ1 (fun y => k1 (some y)) (fun _ => False) else k1 none) (fun _ => False)
  let f : PyData → (List PyData → Prop) → Prop := fun x k => opt (bindP tg x (wipeB ρ vs)) fun ρ' =>
      wpTAnds Γ cs ρ' (fun b => if b = true then wpI Γ it1 ρ' (fun items1 => items1.length ≤ 4096 ∧ wpL (f1 ρ') items1 k) (fun _ => False) else k []) (fun _ => False)
  refine in_it wk (fun i Hi => ∃ Fi ys, Gh W F1 H1 L0 Fi Hi ys ∧ ys.length ≤ i * 4096 ∧ wpLL f (items.drop i) (fun zs => Qd (.list (ys ++ zs)))) ?_ ?_ ?_ ?_
  · exact ⟨F1, [], Gh.start s1.f s1.g nD, Nat.zero_le _, by simpa using w1⟩
  · rintro i Hi hi ⟨Fi, ys, g, hl, wi⟩
    exact hG Fi _ g.ext.sub g.ext.ok
  · rintro i xv Hi H' hi ⟨Fi, ys, g, hl, wi⟩ hy
    obtain ⟨F2, d, e3, hd, dv⟩ := hY i Fi _ xv H' g.ext.sub g.ext.ok g.ext.gd hi hy
    rw [drop_at hd] at wi
    obtain ⟨ρ', hb, wi⟩ := wi
    have g2 := g.step e3
    have s2 : St W F2 (wipeB ρ vs) (wipe σ vs) H' := (s1.wipe vs).ext g2.ext
    refine ⟨F2, _, d, ρ', s2, dv, hb, fun σ2 s3 o => ⟨(o vs hs).trans (wipe_wipe vs), F2, ρ', _, _, s3, wi, fun b F3 H3 e4 wb => ?_, XOK.no⟩⟩
    have g3 := g2.step e4
    dsimp only
    cases b with
    | false =>
      rw [if_neg Bool.false_ne_true] at wb ⊢
      exact ⟨F3, ys, g3, by omega, by simpa using wb⟩
    | true =>
      rw [if_pos rfl] at wb ⊢
      have s4 := s3.ext e4
      refine ⟨F3, ρ', _, _, s4, wb, fun items1 J1 F4 H4 e5 hJ1 hlen1 w5 => ?_, XOK.no⟩
      obtain ⟨G1, Y1, wk1, hG1, hY1⟩ := hJ1
      obtain ⟨hlen1, w5⟩ := w5
      have s5 := s4.ext e5
      have g5 := g3.step e5
      have no5 : NoOwn L0 ρ' σ2 := ((s1.noOwn nD).wipe vs).bind hb o
      refine in_it wk1 (fun j Hj => ∃ Fj zs, (Same F4 Fj ∧ St W Fj ρ' σ2 Hj) ∧ Gh W F1 H1 L0 Fj Hj (ys ++ zs) ∧ zs.length ≤ j ∧ wpL (f1 ρ') (items1.drop j) (fun us => wpLL f (items.drop (i + 1)) (fun vs => Qd (.list (ys ++ ((zs ++ us) ++ vs)))))) ?_ ?_ ?_ ?_
      · exact ⟨F4, [], ⟨.refl _, s5⟩, by simpa using g5, Nat.le_refl _, by simpa using w5⟩
      · rintro j Hj hj ⟨Fj, zs, ej, gj, lj, wj⟩
        exact hG1 Fj _ ej.1 ej.2.f
      · rintro j x1 Hj Hj' hj ⟨Fj, zs, ej, gj, lj, wj⟩ hy1
        obtain ⟨F6, d1, e6, hd1, dv1⟩ := hY1 j Fj _ x1 Hj' ej.1 ej.2.f ej.2.g hj hy1
        rw [drop_at hd1] at wj
        obtain ⟨ρ1, hb1, wj⟩ := wj
        have s6 := (ej.2.wipe vs1).ext e6
        have g6 := gj.step e6
        refine ⟨F6, _, d1, ρ1, s6, dv1, hb1, fun σ3 s7 o1 => ⟨(o1 vs1 hs1).trans (wipe_wipe vs1), F6, ρ1, _, _, s7, wj, fun b1 F7 H7 e7 wb1 => ?_, XOK.no⟩⟩
        have g7 := g6.step e7
        dsimp only
        cases b1 with
        | false =>
          rw [if_neg Bool.false_ne_true] at wb1 ⊢
          exact ⟨F7, zs, ⟨ej.1.trans (e6.trans e7).sub, ej.2.ext (e6.trans e7)⟩, g7, by omega, wb1⟩
        | true =>
          rw [if_pos rfl] at wb1 ⊢
          refine ⟨F7, ρ1, _, _, s7.ext e7, wb1, fun y v F8 H8 e8 r w8 => ?_, XOK.no⟩
          have g8 := g7.step e8
          obtain ⟨acc, h1, h2, h3⟩ := g8.app r
          refine ⟨acc, h1, ?_, F8, zs ++ [y], ?_, by rw [← List.append_assoc]; exact h3, by simp; omega, by simpa using w8⟩
          · have : ys.length + zs.length < 16777216 := by
              have a1 : i * 4096 ≤ 4095 * 4096 := Nat.mul_le_mul_right _ (by omega)
              omega
            rw [h2, sizeLine_eq, List.length_append]; omega
          · refine ⟨ej.1.trans (e6.trans (e7.trans e8)).sub, ?_⟩
            have s8 := ej.2.ext (e6.trans (e7.trans e8))
            obtain ⟨G8, acc8, rfl, n8, x8, d8⟩ := g8
            have s9 := s8.rmv no5 x8.ok x8.gd
            have s10 := s9.ext (Ext.new (o := .lst (acc ++ [v])) x8.ok x8.gd n8)
            rw [show upd (upd G8 L0 (.lst acc8)) L0 (.lst (acc ++ [v])) = upd G8 L0 (.lst (acc ++ [v])) by
              funext b
              by_cases hb : b = L0
              · subst hb; rw [upd_same, upd_same]
              · rw [upd_ne hb, upd_ne hb, upd_ne hb]]
            exact s10
      · rintro Hn ⟨Fj, zs, ej, gj, lj, wj⟩
        rw [List.drop_length] at wj
        exact ⟨Fj, ys ++ zs, gj, by rw [List.length_append]; omega, by simpa [wpL] using wj⟩
  · rintro Hn ⟨Fi, ys, g, hl, wi⟩
    rw [List.drop_length] at wi
    have wi : Qd (.list ys) := by simpa [wpLL] using wi
    obtain ⟨Gi, acc, rfl, n, e, d⟩ := g
    have : items.length * 4096 ≤ 4096 * 4096 := Nat.mul_le_mul_right _ hlen
    exact q (.list ys) Fi Gi (e1.trans e) wi L0 acc n d (by omega)
theorem s_lc2 (hc : X.calm = true) (hN : X.N.Nodup) {elt : E} {own : List (Str × Nat)} {vs1 : List Nat} {tg tg1 : Pat} {it it1 : It1} {cs cs1 : EL} {ex tx ix tx1 ix1 : Expr} {ifs ifs1 : List Expr} {scope : Scope} {pos : Pos}
    (hi : PI X tx ix (tIt W Γ EX it)) (ok : BlkOk X.N X.env.scope scope own) (hf : isSetD ix = false) (hf1 : isSetD ix1 = false) (hs : ∀ i ∈ tg.slots, i ∈ own.map (·.2)) (hs1 : ∀ i ∈ tg1.slots, i ∈ vs1) (hv : ∀ i ∈ vs1, i ∈ own.map (·.2))
    (hg : ∀ (s : Shared) (H : Hp) (C : Addr) (cl : List (Str × Addr)) (fp : List Addr), PG (X.blk s H scope (compEnvC scope cl C X.env) fp) tx (gP W tg))
    (ht : ∀ (s : Shared) (H : Hp) (C : Addr) (cl : List (Str × Addr)) (fp : List Addr), PTs (X.blk s H scope (compEnvC scope cl C X.env) fp) ifs (tTs W Γ noX cs))
    (hi1 : ∀ (s : Shared) (H : Hp) (C : Addr) (cl : List (Str × Addr)) (fp : List Addr), PI (X.blk s H scope (compEnvC scope cl C X.env) fp) tx1 ix1 (tIt W Γ noX it1))
    (hg1 : ∀ (s : Shared) (H : Hp) (C : Addr) (cl : List (Str × Addr)) (fp : List Addr), PG (X.blk s H scope (compEnvC scope cl C X.env) fp) tx1 (gP W tg1))
    (ht1 : ∀ (s : Shared) (H : Hp) (C : Addr) (cl : List (Str × Addr)) (fp : List Addr), PTs (X.blk s H scope (compEnvC scope cl C X.env) fp) ifs1 (tTs W Γ noX cs1))
    (he : ∀ (s : Shared) (H : Hp) (C : Addr) (cl : List (Str × Addr)) (fp : List Addr), PE (X.blk s H scope (compEnvC scope cl C X.env) fp) ex (tE W Γ noX elt)) :
    PE X (.ListComp ex [⟨tx, ix, ifs, 0⟩, ⟨tx1, ix1, ifs1, 0⟩] scope pos) (tZ W Γ EX (.lc2 elt own tg it cs vs1 tg1 it1 cs1)) := by
  exact (pe_lc2 hc hN hi ok hv hg ht hi1 hg1 ht1 he (no_fold hf X.env) (fun env => no_fold hf1 env)).impD fun σ H Q q => lc2_imp hs hs1 hv q
end
end Dl

set_option Elab.async false
set_option linter.all false
set_option maxRecDepth 100000
set_option maxHeartbeats 8000000
/-! the data layer, part 15: contexts of comprehensions, of lambdas; a lambda that is told -/
namespace Dl
open PySem PySem.Spec PyProof.Rows L2
section
variable {W : Wd} {Γ : Gam} {EX : XK} {X : Cx} {k : Nat} {N : List Str} {sc : Scope} {l : Bool}
theorem passNo {X : Cx} : Passes (L2.CX X.prog X.w) X noX := fun _ _ _ _ _ _ _ h => by
  obtain ⟨_, _, _, _, _, _, _, _, _, _, _, _, z⟩ := h
  exact z.elim
theorem CtxOk.blk (C : CtxOk W Γ k EX N sc l X) (s : Shared) (H : Hp) {scope : Scope} (cl : List (Str × Addr)) (L : Addr) (fp : List Addr) : CtxOk W Γ k noX N (relS scope sc) false (X.blk s H scope (compEnvC scope cl L X.env) fp) where
  hK := C.hK
  hmg := C.hmg
  hN := C.hN
  nd := C.nd
  hsc := by
    have := C.hsc
    subst this
    rfl
  calm := C.calm
  room := C.room
  roomL := fun h => by cases h
  pass := passNo
  funs := C.funs
  cons := C.cons
  blt := C.blt
  lam := fun h => by cases h
theorem CtxOk.lamB (C : CtxOk W Γ k EX N sc l X) {A : Around} {outer : List Env} {s : Shared} {H : Hp} {E : XK} {scope : Scope} {f c' : Addr} (hr : Room k (A.deeper (LamX.lamEnv X scope s.heap.objs.size f c'))) : CtxOk W Γ k E N scope false (LamX.lamCx X A outer s H E scope f c') where
  hK := C.hK
  hmg := C.hmg
  hN := C.hN
  nd := C.nd
  hsc := rfl
  calm := rfl
  room := hr
  roomL := fun h => by cases h
  pass := passes_call (W := fun cls d _ H => E cls d H) (takes_of rfl rfl rfl rfl) (fun _ _ _ _ h => h)
  funs := C.funs
  cons := C.cons
  blt := C.blt
  lam := fun h => by cases h
theorem Ext.tabs {F H H1 : Hp} (f : FOk W F H) (g : Good W H) (e : LamX.ExtN H H1) (t : LamX.Tabs W.T H1) : Ext W F H F H1 := by
  have f1 : FOk W F H1 := ⟨fun b o q => e b o (f.sub b o q) (fun ps z => by rcases f.imm b o q with ⟨xs, h⟩ | ⟨xs, h⟩ <;> (rw [h] at z; cases z)), f.imm, f.nr⟩
  refine ⟨fun b o h n _ => e b o h n, Same.refl _, fun b o h _ _ => h, f1, ?_, t⟩
  obtain ⟨⟨⟨i, s, gg, e1, hb⟩, ns, hs, hl⟩, _⟩ := g
  exact ⟨⟨i, s, gg, e _ _ e1 (fun ps z => by cases z), hb⟩, ns, hs.imp fun o h n _ => e _ _ h n, hl⟩
theorem emptyOk : PyData.strOk "" = true := by decide +kernel
theorem s_told (C : CtxOk W Γ k EX N sc true X) {e : E} {f : Str} {params : Arguments} {body : Expr} {scope : Scope} {p lpos pos : Pos} (hf : f = "_law_refused") (hg : chkGl sc f = true) (hL : LamX.lamSB sc scope = true) (hp : noParams params = true)
    (hbody : ∀ (A : Around) (outer : List Env) (s : Shared) (H : Hp) (E : XK) (f c' : Addr), Room k (A.deeper (LamX.lamEnv X scope s.heap.objs.size f c')) → PE (LamX.lamCx X A outer s H E scope f c') body (tE W Γ E e)) :
    PE X (.Call (.Name f p) [.Lambda params body scope lpos] [] pos) (tE W Γ EX (.told e)) := by
  obtain ⟨g1, g2, g3⟩ := gl_of C hg
  subst hf
  obtain ⟨c, P, g, CS, pg, bg, sg, dV, kV, doc, pm, cdv, ct, oc, an, od, osl, h1, h2, h3, h4, h5, h6, h7, h8, h9, h10, h11, h12⟩ := (C.lam rfl).ex
  have hpar : defaultsOf params X.env = ([], []) := by
    unfold noParams at hp
    split at hp
    · rfl
    · cases hp
  have hbind : ∀ (q : Str) (cl : List (Str × Addr)) (pm cv ctv : Value), bindArgs (PySem.W.kla_fn "<lambda>" q params body scope cl pm cv ctv) ⟨[], []⟩ = pure [] := by
    unfold noParams at hp
    split at hp
    · intro q cl pm cv ctv; rfl
    · cases hp
  have hp : PE X (.Call (.Name "_law_refused" p) [.Lambda params body scope lpos] [] pos) (LamX.tLam W.T _ (fun E => tE W Γ E e)) :=
    LamX.pe_lamcall g1 h5 h6 h7 h8 h9 h10 rfl ((h10.par _ List.mem_cons_self).elim .inl fun z => .inr (.inl z)) h12 h2 h1 h3 h4 (C.roomL rfl) (LamX.lamS_by (by rw [C.hsc]; exact hL)) hpar hbind hbody
  refine hp.impD fun σ H Q q => ?_
  obtain ⟨F, ρ, Qd, Xd, s, w, q, x⟩ := q
  refine ⟨s.g.2, fun H1 e1 t1 => ?_⟩
  have E1 := Ext.tabs s.f s.g e1 t1
  refine ⟨F, ρ, _, _, s.ext E1, w, fun d v F' H' e2 r w2 => q _ _ F' H' (E1.trans e2) (.str _ emptyOk) w2, fun n cls dd F' H' e2 i w2 => ⟨n, i, q _ _ F' H' (E1.trans e2) (.str _ ?_) w2⟩⟩
  obtain ⟨_, _, _, _, _, _, z⟩ := i
  exact z
end
end Dl

set_option Elab.async false
set_option linter.all false
set_option maxRecDepth 100000
set_option maxHeartbeats 16000000
/-! the data layer, part 16: the look is sound, for all expressions -/
namespace Dl
open PySem PySem.Spec PyProof.Rows L2
def E.fresh : E → Bool
  | .bin .. => true | .slc .. => true | .tup _ => true | .lst _ => true | .lc .. => true | .lc2 .. => true | .blt .. => true | .lrg .. => true | .lrg1 .. => true | .lrg3 .. => true | .sp .. => true | .dx .srt _ _ => true
  | _ => false
/-- what is shown of an expression -/
structure Snd (W : Wd) (Γ : Gam) (EX : XK) (X : Cx) (ex : E) (x : Expr) : Prop where
  r : PE X x (tR W Γ EX ex)
  e : ex.isRd = false → PE X x (tE W Γ EX ex)
  z : ex.fresh = true → PE X x (tZ W Γ EX ex)
section
variable {W : Wd} {Γ : Gam} {k : Nat}
theorem Snd.ofE {EX : XK} {X : Cx} {e : E} {x : Expr} (h : PE X x (tE W Γ EX e)) (f : e.fresh = false := by rfl) : Snd W Γ EX X e x := ⟨h.impD fun _ _ _ q => tR_of_tE q, fun _ => h, fun z => by rw [f] at z; cases z⟩
theorem Snd.ofZ {EX : XK} {X : Cx} {e : E} {x : Expr} (h : PE X x (tZ W Γ EX e)) : Snd W Γ EX X e x := ⟨(h.impD fun _ _ _ q => tE_of_tZ q).impD fun _ _ _ q => tR_of_tE q, fun _ => h.impD fun _ _ _ q => tE_of_tZ q, fun _ => h⟩
structure SndL (W : Wd) (Γ : Gam) (EX : XK) (X : Cx) (as : EL) (xs : List Expr) : Prop where
  r : noStars xs = true → PA X xs (tRs W Γ EX as)
  e : noStars xs = true → noRds as = true → PA X xs (tEs W Γ EX as)
  a : noRds as = true → ∀ pos, PE X (.BoolOp .And xs pos) (tE W Γ EX (.ands as)) ∧ PE X (.BoolOp .Or xs pos) (tE W Γ EX (.ors as))
  k : noRds as = true → ∀ kw, kwVals kw = xs → KwPE X W Γ EX kw as
theorem pe_false {X : Cx} {x : Expr} {t : TE} (h : ∀ σ H Q, ¬ t σ H Q) : PE X x t := ⟨fun pins s σ H Q I q => absurd q (h _ _ _)⟩
theorem pt_false {X : Cx} {x : Expr} {t : TT} (h : ∀ σ H Q, ¬ t σ H Q) : PT X x t := ⟨fun pins s σ H Q I q => absurd q (h _ _ _)⟩
theorem SndL.nil {EX : XK} {X : Cx} : SndL W Γ EX X .nil [] :=
  ⟨fun _ => s_nil.2, fun _ _ => s_nil.1, fun _ pos => ⟨pe_false fun σ H Q ⟨_, _, _, _, _, w, _⟩ => w, pe_false fun σ H Q ⟨_, _, _, _, _, w, _⟩ => w⟩, fun _ kw e => by
    cases kw with
    | nil => exact .nil
    | cons a r => obtain ⟨n, v, p⟩ := a; cases e⟩
theorem SndL.cons {EX : XK} {X : Cx} {N : List Str} {sc : Scope} {l : Bool} (C : CtxOk W Γ k EX N sc l X) {e : E} {r : EL} {x : Expr} {xs : List Expr} (h : Snd W Γ EX X e x) (hr : SndL W Γ EX X r xs) (hl : r = .nil ↔ xs = []) : SndL W Γ EX X (.cons e r) (x :: xs) := by
  refine ⟨fun hs => ?_, fun hs hn => ?_, fun hn pos => ?_, fun hn kw e => ?_⟩
  · unfold noStars at hs
    simp only [List.all_cons, Bool.and_eq_true, Bool.not_eq_true'] at hs
    exact s_consR hs.1 h.r (hr.r (by unfold noStars; exact hs.2))
  · unfold noStars at hs
    simp only [List.all_cons, Bool.and_eq_true, Bool.not_eq_true'] at hs
    unfold noRds at hn
    simp only [Bool.and_eq_true, Bool.not_eq_true'] at hn
    exact s_cons hs.1 (h.e hn.1) (hr.e (by unfold noStars; exact hs.2) hn.2)
  · unfold noRds at hn
    simp only [Bool.and_eq_true, Bool.not_eq_true'] at hn
    cases r with
    | nil =>
      rw [hl.mp rfl]
      exact s_and1 (op := .And) (h.e hn.1)
    | cons e2 r2 =>
      cases xs with
      | nil => exact absurd (hl.mpr rfl) (by simp)
      | cons y ys =>
        obtain ⟨a1, a2⟩ := hr.a hn.2 pos
        exact ⟨s_and C (h.e hn.1) a1, s_or C (h.e hn.1) a2⟩
  · unfold noRds at hn
    simp only [Bool.and_eq_true, Bool.not_eq_true'] at hn
    cases kw with
    | nil => cases e
    | cons a kr =>
      obtain ⟨n, v, p⟩ := a
      cases e
      exact .cons (h.e hn.1) (hr.k hn.2 kr rfl)
theorem chkEs_nil {N : List Str} {sc : Scope} {l : Bool} : ∀ {r : EL} {xs : List Expr}, chkEs N sc l r xs = true → (r = .nil ↔ xs = [])
  | .nil, [], _ => ⟨fun _ => rfl, fun _ => rfl⟩
  | .cons _ _, _ :: _, _ => ⟨fun h => (by cases h), fun h => (by cases h)⟩
  | .nil, _ :: _, h => by cases h
  | .cons _ _, [], h => by cases h
theorem chkTs2_nil {N : List Str} {sc : Scope} {l : Bool} : ∀ {r : EL} {xs : List Expr}, chkTs2 N sc l r xs = true → (r = .nil ↔ xs = [])
  | .nil, [], _ => ⟨fun _ => rfl, fun _ => rfl⟩
  | .cons _ _, _ :: _, _ => ⟨fun h => (by cases h), fun h => (by cases h)⟩
  | .nil, _ :: _, h => by cases h
  | .cons _ _, [], h => by cases h
/-- a test by truth -/
theorem t_of {EX : XK} {X : Cx} {N : List Str} {sc : Scope} {l : Bool} (C : CtxOk W Γ k EX N sc l X) {e : E} {x : Expr} (hp : plainTest x = true) (h : Snd W Γ EX X e x) (hw : ∀ ρ Q Xd, wpT Γ e ρ Q Xd → wpE Γ e ρ (fun d => opt (truth d) Q) Xd) : PT X x (tT W Γ EX e) := by
  refine (t_truth C hp h.r).impD fun σ H Q q => ?_
  obtain ⟨F, ρ, Qd, Xd, s, w, q, x⟩ := q
  exact ⟨F, ρ, Qd, Xd, s, hw _ _ _ w, q, x⟩
theorem sndIsi {EX : XK} {X : Cx} {N : List Str} {sc : Scope} {l : Bool} (C : CtxOk W Γ k EX N sc l X) {a : E} {T : String} {f : Expr} {xs : List Expr} {kw : List Keyword} {pos : Pos} (h : chkE N sc l (.isi a T) (.Call f xs kw pos) = true)
    (ha : ∀ x, chkE N sc l a x = true → Snd W Γ EX X a x) : Snd W Γ EX X (.isi a T) (.Call f xs kw pos) := by
  cases f <;> try (cases h; done)
  rename_i f p
  match xs, kw, h with
  | [], _, h => cases h
  | [_], _, h => cases h
  | _ :: t :: _ :: _, _, h => cases t <;> cases h
  | [x, t], k :: ks, h => cases t <;> cases h
  | [x, t], [], h =>
    cases t <;> try (cases h; done)
    rename_i t p2
    have h : (decide (f = "isinstance") && chkGl sc f && decide (t = PySem.Str.ofString T) && chkGl sc t && decide (T ∈ isTys) && chkE N sc l a x && !isStar x) = true := h
    simp only [Bool.and_eq_true, decide_eq_true_eq, Bool.not_eq_true'] at h
    obtain ⟨⟨⟨⟨⟨⟨h1, h2⟩, h3⟩, h4⟩, h5⟩, h6⟩, h7⟩ := h
    exact Snd.ofE (s_isi C h1 h2 h3 h4 h5 h7 (ha x h6).r)
theorem sndBlt {EX : XK} {X : Cx} {N : List Str} {sc : Scope} {l : Bool} (C : CtxOk W Γ k EX N sc l X) {f : Blt} {as : EL} {g : Expr} {xs : List Expr} {kw : List Keyword} {pos : Pos} (h : chkE N sc l (.blt f as) (.Call g xs kw pos) = true)
    (ha : ∀ xs, chkEs N sc l as xs = true → SndL W Γ EX X as xs) : Snd W Γ EX X (.blt f as) (.Call g xs kw pos) := by
  cases g <;> try (cases h; done)
  rename_i g p
  cases kw with
  | cons _ _ => cases h
  | nil =>
    have h : (bltIs f g && chkGl sc g && noStars xs && !xs.isEmpty && chkEs N sc l as xs) = true := h
    simp only [Bool.and_eq_true, Bool.not_eq_true'] at h
    obtain ⟨⟨⟨⟨h1, h2⟩, h3⟩, h4⟩, h5⟩ := h
    exact Snd.ofZ (s_blt C h1 h2 h3 (by intro z; rw [z] at h4; cases h4) ((ha xs h5).r h3))
theorem sndCall {EX : XK} {X : Cx} {N : List Str} {sc : Scope} {l : Bool} (C : CtxOk W Γ k EX N sc l X) {f : Str} {r : Option Nat} {as kws : EL} {ks : List Str} {g : Expr} {xs : List Expr} {kw : List Keyword} {pos : Pos} (h : chkE N sc l (.call f r as ks kws) (.Call g xs kw pos) = true)
    (ha : ∀ xs, chkEs N sc l as xs = true → SndL W Γ EX X as xs) (hk : ∀ xs, chkEs N sc l kws xs = true → SndL W Γ EX X kws xs) : Snd W Γ EX X (.call f r as ks kws) (.Call g xs kw pos) := by
  cases g <;> try (cases h; done)
  rename_i g p
  have h : (decide (f = g) && !(xs.isEmpty && (kw.isEmpty || !(as.len == 0) || r.isSome)) && chkGl sc g && noRds as && noRds kws && noStars xs && decide (kwNames kw = some ks) && chkEs N sc l kws (kwVals kw) &&
      (match (generalizing := false) r, xs with
      | none, xs => chkEs N sc l as xs
      | some i, .Name x _ :: xs => chkVar N sc i x && chkEs N sc l as xs
      | _, _ => false)) = true := h
  simp only [Bool.and_eq_true, decide_eq_true_eq, Bool.not_eq_true'] at h
  obtain ⟨⟨⟨⟨⟨⟨⟨⟨rfl, h2⟩, h3⟩, h4⟩, h5⟩, h6⟩, h7⟩, h8⟩, h9⟩ := h
  have hne : xs = [] → kw ≠ [] ∧ as = .nil ∧ r = none := fun z => by
    subst z
    simp only [List.isEmpty_nil, Bool.true_and, Bool.or_eq_false_iff, Bool.not_eq_false', beq_iff_eq] at h2
    refine ⟨fun z => by rw [z] at h2; simp at h2, ?_, by simpa using h2.2⟩
    cases as with
    | nil => rfl
    | cons _ _ => simp [EL.len] at h2
  refine Snd.ofE (run_call C h3 h6 h7 ?_ ((hk _ h8).k h5 kw rfl) hne)
  cases r with
  | none => exact as_none ((ha xs h9).e h6 h4)
  | some i =>
    cases xs with
    | nil => cases h9
    | cons x xs =>
      cases x <;> try (cases h9; done)
      simp only [Bool.and_eq_true] at h9
      unfold noStars at h6
      simp only [List.all_cons, Bool.and_eq_true] at h6
      exact as_some C h9.1 ((ha xs h9.2).e (by unfold noStars; exact h6.2) h4)
theorem sndIsiT {EX : XK} {X : Cx} {N : List Str} {sc : Scope} {l : Bool} (C : CtxOk W Γ k EX N sc l X) {a : E} {T : String} {f : Expr} {xs : List Expr} {kw : List Keyword} {pos : Pos} (h : chkT N sc l (.isi a T) (.Call f xs kw pos) = true)
    (ha : ∀ x, chkE N sc l a x = true → Snd W Γ EX X a x) : Snd W Γ EX X (.isi a T) (.Call f xs kw pos) := by
  cases f <;> try (cases h; done)
  rename_i f p
  match xs, kw, h with
  | [], _, h => cases h
  | [_], _, h => cases h
  | _ :: t :: _ :: _, _, h => cases t <;> cases h
  | [x, t], k :: ks, h => cases t <;> cases h
  | [x, t], [], h =>
    cases t <;> try (cases h; done)
    rename_i t p2
    have h : (decide (f = "isinstance") && chkGl sc f && decide (t = PySem.Str.ofString T) && chkGl sc t && decide (T ∈ isTys) && chkE N sc l a x && !isStar x) = true := h
    simp only [Bool.and_eq_true, decide_eq_true_eq, Bool.not_eq_true'] at h
    obtain ⟨⟨⟨⟨⟨⟨h1, h2⟩, h3⟩, h4⟩, h5⟩, h6⟩, h7⟩ := h
    exact Snd.ofE (s_isi C h1 h2 h3 h4 h5 h7 (ha x h6).r)
theorem sndBltT {EX : XK} {X : Cx} {N : List Str} {sc : Scope} {l : Bool} (C : CtxOk W Γ k EX N sc l X) {f : Blt} {as : EL} {g : Expr} {xs : List Expr} {kw : List Keyword} {pos : Pos} (h : chkT N sc l (.blt f as) (.Call g xs kw pos) = true)
    (ha : ∀ xs, chkEs N sc l as xs = true → SndL W Γ EX X as xs) : Snd W Γ EX X (.blt f as) (.Call g xs kw pos) := by
  cases g <;> try (cases h; done)
  rename_i g p
  cases kw with
  | cons _ _ => cases h
  | nil =>
    have h : (bltIs f g && chkGl sc g && noStars xs && !xs.isEmpty && chkEs N sc l as xs) = true := h
    simp only [Bool.and_eq_true, Bool.not_eq_true'] at h
    obtain ⟨⟨⟨⟨h1, h2⟩, h3⟩, h4⟩, h5⟩ := h
    exact Snd.ofZ (s_blt C h1 h2 h3 (by intro z; rw [z] at h4; cases h4) ((ha xs h5).r h3))
theorem sndCallT {EX : XK} {X : Cx} {N : List Str} {sc : Scope} {l : Bool} (C : CtxOk W Γ k EX N sc l X) {f : Str} {r : Option Nat} {as kws : EL} {ks : List Str} {g : Expr} {xs : List Expr} {kw : List Keyword} {pos : Pos} (h : chkT N sc l (.call f r as ks kws) (.Call g xs kw pos) = true)
    (ha : ∀ xs, chkEs N sc l as xs = true → SndL W Γ EX X as xs) (hk : ∀ xs, chkEs N sc l kws xs = true → SndL W Γ EX X kws xs) : Snd W Γ EX X (.call f r as ks kws) (.Call g xs kw pos) := by
  cases g <;> try (cases h; done)
  rename_i g p
  have h : (decide (f = g) && !(xs.isEmpty && (kw.isEmpty || !(as.len == 0) || r.isSome)) && chkGl sc g && noRds as && noRds kws && noStars xs && decide (kwNames kw = some ks) && chkEs N sc l kws (kwVals kw) &&
      (match (generalizing := false) r, xs with
      | none, xs => chkEs N sc l as xs
      | some i, .Name x _ :: xs => chkVar N sc i x && chkEs N sc l as xs
      | _, _ => false)) = true := h
  simp only [Bool.and_eq_true, decide_eq_true_eq, Bool.not_eq_true'] at h
  obtain ⟨⟨⟨⟨⟨⟨⟨⟨rfl, h2⟩, h3⟩, h4⟩, h5⟩, h6⟩, h7⟩, h8⟩, h9⟩ := h
  have hne : xs = [] → kw ≠ [] ∧ as = .nil ∧ r = none := fun z => by
    subst z
    simp only [List.isEmpty_nil, Bool.true_and, Bool.or_eq_false_iff, Bool.not_eq_false', beq_iff_eq] at h2
    refine ⟨fun z => by rw [z] at h2; simp at h2, ?_, by simpa using h2.2⟩
    cases as with
    | nil => rfl
    | cons _ _ => simp [EL.len] at h2
  refine Snd.ofE (run_call C h3 h6 h7 ?_ ((hk _ h8).k h5 kw rfl) hne)
  cases r with
  | none => exact as_none ((ha xs h9).e h6 h4)
  | some i =>
    cases xs with
    | nil => cases h9
    | cons x xs =>
      cases x <;> try (cases h9; done)
      simp only [Bool.and_eq_true] at h9
      unfold noStars at h6
      simp only [List.all_cons, Bool.and_eq_true] at h6
      exact as_some C h9.1 ((ha xs h9.2).e (by unfold noStars; exact h6.2) h4)
structure SndW (W : Wd) (Γ : Gam) (EX : XK) (X : Cx) (as : EL) (xs : List Expr) : Prop where
  w : xs ≠ [] → ∀ pos, PW X (.BoolOp .And xs pos) (tT W Γ EX (.ands as)) ∧ PW X (.BoolOp .Or xs pos) (tT W Γ EX (.ors as))
theorem CtxOk.noLam {EX : XK} {X : Cx} {N : List Str} {sc : Scope} {l : Bool} (C : CtxOk W Γ k EX N sc l X) : CtxOk W Γ k EX N sc false X :=
  { C with roomL := fun h => (by cases h), lam := fun h => (by cases h) }
theorem blkP {EX : XK} {X : Cx} {N : List Str} {sc : Scope} {l : Bool} (C : CtxOk W Γ k EX N sc l X) (s : Shared) (H : Hp) {scope : Scope} (cl : List (Str × Addr)) (L : Addr) (fp : List Addr) {p : Pat} {x : Expr} (h : chkP N (relS scope sc) (stBlk scope sc) p x = true) :
    PG (X.blk s H scope (compEnvC scope cl L X.env) fp) x (gP W p) := by
  have C' := C.blk s H cl L fp (scope := scope)
  refine sndP C'.hK C'.hN C'.nd C'.hsc C'.calm (fun y _ hy => ?_) p x h
  unfold stBlk at hy
  simp only [Bool.or_eq_true, decide_eq_true_eq] at hy
  rcases hy with hy | hy
  · exact .inl (by show (scope.names.lookup y == some NameKind.cell) = true; rw [hy]; rfl)
  · exact .inr (by rw [C'.hsc]; exact hy)
theorem wpE_isi {a : E} {T : String} {ρ : Env1} {Q : Bool → Prop} {Xd : Str → Prop} (w : wpT Γ (.isi a T) ρ Q Xd) : wpE Γ (.isi a T) ρ (fun d => opt (truth d) Q) Xd := by
  have e : (fun d => Q (isInst d T)) = fun d => (fun d => opt (truth d) Q) (.bool (isInst d T)) := by
    funext d
    simp [truth]
  have w : wpE Γ a ρ (fun d => Q (isInst d T)) Xd := w
  rw [e] at w
  exact w
theorem sndDx {EX : XK} {X : Cx} {N : List Str} {sc : Scope} {l : Bool} (C : CtxOk W Γ k EX N sc l X) {kd : DxF} {i : Nat} {a : E} {x : Expr} (h : chkE N sc l (.dx kd i a) x = true) (ha : ∀ y, chkE N sc l a y = true → Snd W Γ EX X a y) : Snd W Γ EX X (.dx kd i a) x := by
  cases kd with
  | srt =>
    have g : (match dsrtArg sc x with | some y => chkVar N sc i y | none => false) = true := h
    clear h
    cases he : dsrtArg sc x with
    | none => rw [he] at g; cases g
    | some y =>
      rw [he] at g
      obtain ⟨_, _, _, rfl, hg⟩ := dsrtArg_eq he
      exact Snd.ofZ (s_dsrt C hg g)
  | isin neg =>
    have g : (match dinArg neg x with | some (z, y) => chkE N sc l a z && chkVar N sc i y | none => false) = true := h
    clear h
    cases he : dinArg neg x with
    | none => rw [he] at g; cases g
    | some p =>
      rw [he] at g
      simp only [Bool.and_eq_true] at g
      obtain ⟨_, _, rfl⟩ := dinArg_eq (a := p.1) (y := p.2) he
      exact Snd.ofE (s_din C (ha p.1 g.1).r g.2)
  | get =>
    have g : (match dgetArg x with | some (y, z) => chkVar N sc i y && chkE N sc l a z | none => false) = true := h
    clear h
    cases he : dgetArg x with
    | none => rw [he] at g; cases g
    | some p =>
      rw [he] at g
      simp only [Bool.and_eq_true] at g
      obtain ⟨_, _, rfl, hp⟩ := dgetArg_eq (y := p.1) (ix := p.2) he
      exact Snd.ofE (s_dget C hp (ha p.2 g.2).r g.1)
theorem sndDxT {EX : XK} {X : Cx} {N : List Str} {sc : Scope} {l : Bool} (C : CtxOk W Γ k EX N sc l X) {kd : DxF} {i : Nat} {a : E} {x : Expr} (h : chkT N sc l (.dx kd i a) x = true) (ha : ∀ y, chkE N sc l a y = true → Snd W Γ EX X a y) : PT X x (tT W Γ EX (.dx kd i a)) := by
  cases kd with
  | srt => cases x <;> cases h
  | isin neg =>
    have g : (match dinArg neg x with | some (z, y) => chkE N sc l a z && chkVar N sc i y | none => false) = true := h
    clear h
    cases he : dinArg neg x with
    | none => rw [he] at g; cases g
    | some p =>
      rw [he] at g
      simp only [Bool.and_eq_true] at g
      obtain ⟨p1, pos, rfl⟩ := dinArg_eq (a := p.1) (y := p.2) he
      exact s_dinT C (ha p.1 g.1).r g.2
  | get => cases x <;> cases h
mutual
theorem snd : ∀ (e : E) {EX : XK} {X : Cx} {N : List Str} {sc : Scope} {l : Bool} (C : CtxOk W Γ k EX N sc l X) (x : Expr), chkE N sc l e x = true → Snd W Γ EX X e x
  | .var i, EX, X, N, sc, l, C, x, h => by
    cases x <;> try (cases h; done)
    have h : chkVar _ _ _ _ = true := h
    exact Snd.ofE (s_var C h).1
  | .rd i, EX, X, N, sc, l, C, x, h => by
    cases x <;> try (cases h; done)
    have h : chkVar _ _ _ _ = true := h
    exact ⟨(s_var C h).2, fun z => (by cases z), fun z => (by cases z)⟩
  | .cst c, EX, X, N, sc, l, C, x, h => by
    cases x <;> try (cases h; done)
    exact Snd.ofE (s_cst h)
  | .glob g, EX, X, N, sc, l, C, x, h => by
    cases x <;> try (cases h; done)
    have h : (decide (g = _) && chkGl sc _) = true := h
    simp only [Bool.and_eq_true, decide_eq_true_eq] at h
    obtain ⟨rfl, h2⟩ := h
    exact Snd.ofE (s_glob C h2)
  | .bin op a b, EX, X, N, sc, l, C, x, h => by
    cases x <;> try (cases h; done)
    rename_i x1 op' y1 pos
    have h : (decide (op = op') && chkE N sc l a x1 && chkE N sc l b y1) = true := h
    simp only [Bool.and_eq_true, decide_eq_true_eq] at h
    obtain ⟨⟨rfl, h2⟩, h3⟩ := h
    exact Snd.ofZ (s_bin C (snd a C _ h2).r (snd b C _ h3).r)
  | .un op a, EX, X, N, sc, l, C, x, h => by
    cases x <;> try (cases h; done)
    rename_i op' x1 pos
    have h : (decide (op = op') && chkE N sc l a x1) = true := h
    simp only [Bool.and_eq_true, decide_eq_true_eq] at h
    obtain ⟨rfl, h2⟩ := h
    exact Snd.ofE (s_un (snd a C _ h2).r)
  | .cmp op a b, EX, X, N, sc, l, C, x, h => by
    cases x <;> try (cases h; done)
    rename_i x1 ops ys pos
    match ops, ys, h with
    | [op'], [y], h =>
      have h : (decide (op = op') && !behindInMarks op y && chkE N sc l a x1 && chkE N sc l b y) = true := h
      simp only [Bool.and_eq_true, decide_eq_true_eq, Bool.not_eq_true'] at h
      obtain ⟨⟨⟨rfl, h2⟩, h3⟩, h4⟩ := h
      exact Snd.ofE (s_cmp C (snd a C _ h3).r (snd b C _ h4).r h2).1
    | [], _, h => cases h
    | [_], [], h => cases h
    | [_], _ :: _ :: _, h => cases h
    | _ :: _ :: _, _, h => cases h
  | .chn o p a b c, EX, X, N, sc, l, C, x, h => by
    cases x <;> try (cases h; done)
    rename_i x1 ops ys pos
    match ops, ys, h with
    | [o', p'], [y, z], h =>
      have h : (decide (o = o') && decide (p = p') && !lastMarks [o, p] [y, z] && chkE N sc l a x1 && chkE N sc l b y && chkE N sc l c z) = true := h
      simp only [Bool.and_eq_true, decide_eq_true_eq, Bool.not_eq_true'] at h
      obtain ⟨⟨⟨⟨⟨rfl, rfl⟩, h2⟩, h3⟩, h4⟩, h5⟩ := h
      exact Snd.ofE (s_chn C (snd a C _ h3).r (snd b C _ h4).r (snd c C _ h5).r h2).1
    | [], _, h => cases h
    | [_], _, h => cases h
    | [_, _], [], h => cases h
    | [_, _], [_], h => cases h
    | [_, _], _ :: _ :: _ :: _, h => cases h
    | _ :: _ :: _ :: _, _, h => cases h
  | .ands as, EX, X, N, sc, l, C, x, h => by
    cases x <;> try (cases h; done)
    rename_i op xs pos
    cases op <;> try (cases h; done)
    have h : (chkEs N sc l as xs && noRds as) = true := h
    simp only [Bool.and_eq_true] at h
    exact Snd.ofE ((sndEs as C xs h.1).a h.2 pos).1
  | .ors as, EX, X, N, sc, l, C, x, h => by
    cases x <;> try (cases h; done)
    rename_i op xs pos
    cases op <;> try (cases h; done)
    have h : (chkEs N sc l as xs && noRds as) = true := h
    simp only [Bool.and_eq_true] at h
    exact Snd.ofE ((sndEs as C xs h.1).a h.2 pos).2
  | .not a, EX, X, N, sc, l, C, x, h => by
    cases x <;> try (cases h; done)
    rename_i op x1 pos
    cases op <;> try (cases h; done)
    exact Snd.ofE (s_not C (snd a C _ h).r)
  | .ite c a b, EX, X, N, sc, l, C, x, h => by
    cases x <;> try (cases h; done)
    rename_i t x1 y1 pos
    have h : (chkT N sc l c t && chkE N sc l a x1 && chkE N sc l b y1 && !a.isRd && !b.isRd) = true := h
    simp only [Bool.and_eq_true, Bool.not_eq_true'] at h
    obtain ⟨⟨⟨⟨h1, h2⟩, h3⟩, h4⟩, h5⟩ := h
    exact Snd.ofE (s_ite (sndT c C _ h1) ((snd a C _ h2).e h4) ((snd b C _ h3).e h5))
  | .isi a T, EX, X, N, sc, l, C, x, h => by
    cases x <;> try (cases h; done)
    rename_i f as kw pos
    exact (sndIsi C h (fun x1 hx => snd a C x1 hx))
  | .call f r as ks kws, EX, X, N, sc, l, C, x, h => by
    cases x <;> try (cases h; done)
    rename_i g xs kw pos
    exact sndCall C h (fun xs hx => sndEs as C xs hx) (fun xs hx => sndEs kws C xs hx)
  | .blt f as, EX, X, N, sc, l, C, x, h => by
    cases x <;> try (cases h; done)
    rename_i g xs kw pos
    exact sndBlt C h (fun xs hx => sndEs as C xs hx)
  | .idx a i, EX, X, N, sc, l, C, x, h => by
    cases x <;> try (cases h; done)
    rename_i x1 y1 pos
    have h : (plainIx y1 && chkE N sc l a x1 && chkE N sc l i y1) = true := h
    simp only [Bool.and_eq_true] at h
    exact Snd.ofE (s_idx C h.1.1 (snd a C _ h.1.2).r (snd i C _ h.2).r)
  | .slc a lo hi, EX, X, N, sc, l, C, x, h => by
    cases x <;> try (cases h; done)
    rename_i x1 y1 pos
    cases y1 <;> try (cases h; done)
    rename_i lx hx st p2
    cases st with
    | some _ => cases h
    | none =>
      have h : (chkE N sc l a x1 && chkO N sc l lo lx && chkO N sc l hi hx) = true := h
      simp only [Bool.and_eq_true] at h
      exact Snd.ofZ (s_slc C (snd a C _ h.1.1).r (sndO lo C _ h.1.2) (sndO hi C _ h.2))
  | .tup as, EX, X, N, sc, l, C, x, h => by
    cases x <;> try (cases h; done)
    rename_i xs j pos
    have h : (noStars xs && noRds as && decide (as.len ≤ 1000) && chkEs N sc l as xs) = true := h
    simp only [Bool.and_eq_true, decide_eq_true_eq] at h
    exact Snd.ofZ (s_tup h.1.2 ((sndEs as C _ h.2).e h.1.1.1 h.1.1.2))
  | .lst as, EX, X, N, sc, l, C, x, h => by
    cases x <;> try (cases h; done)
    rename_i xs pos
    have h : (noStars xs && noRds as && decide (as.len ≤ 1000) && chkEs N sc l as xs) = true := h
    simp only [Bool.and_eq_true, decide_eq_true_eq] at h
    exact Snd.ofZ (s_lst h.1.2 ((sndEs as C _ h.2).e h.1.1.1 h.1.1.2))
  | .lc elt own tg it cs, EX, X, N, sc, l, C, x, h => by
    cases x <;> try (cases h; done)
    rename_i ex gs scope pos
    match gs, h with
    | [], h => cases h
    | ⟨_, _, _, _⟩ :: ⟨_, _, _, _⟩ :: _, h => cases h
    | [⟨tx, ix, ifs, n⟩], h =>
      have h : (decide (n = 0) && blkC N sc scope own && chkI N sc l it tx ix && !isSetD ix && chkP N (relS scope sc) (stBlk scope sc) tg tx && decide (∀ i ∈ tg.slots, i ∈ own.map (·.2)) &&
        chkTs N (relS scope sc) cs ifs && chkE N (relS scope sc) false elt ex && !elt.isRd) = true := h
      simp only [Bool.and_eq_true, decide_eq_true_eq, Bool.not_eq_true'] at h
      obtain ⟨⟨⟨⟨⟨⟨⟨⟨rfl, h1⟩, h2⟩, h3⟩, h4⟩, h5⟩, h6⟩, h7⟩, h8⟩ := h
      exact Snd.ofZ (s_lc C.calm (by rw [C.hN]; exact C.nd) (sndI it C tx ix h2) (by rw [C.hN, C.hsc]; exact blkOk_by h1) h3 h5
        (fun s H L cl fp => blkP C s H cl L fp h4) (fun s H L cl fp => sndTs cs (C.blk s H cl L fp) ifs h6) (fun s H L cl fp => (snd elt (C.blk s H cl L fp) ex h7).e h8))
  | .lc2 elt own tg it cs vs1 tg1 it1 cs1, EX, X, N, sc, l, C, x, h => by
    cases x <;> try (cases h; done)
    rename_i ex gs scope pos
    match gs, h with
    | [], h => cases h
    | [⟨_, _, _, _⟩], h => cases h
    | ⟨_, _, _, _⟩ :: ⟨_, _, _, _⟩ :: ⟨_, _, _, _⟩ :: _, h => cases h
    | [⟨tx, ix, ifs, n⟩, ⟨tx1, ix1, ifs1, n1⟩], h =>
      have h : (decide (n = 0) && decide (n1 = 0) && blkC N sc scope own && chkI N sc l it tx ix && !isSetD ix && chkP N (relS scope sc) (stBlk scope sc) tg tx && decide (∀ i ∈ tg.slots, i ∈ own.map (·.2)) &&
        chkTs N (relS scope sc) cs ifs && chkI N (relS scope sc) false it1 tx1 ix1 && !isSetD ix1 && chkP N (relS scope sc) (stBlk scope sc) tg1 tx1 && decide (∀ i ∈ tg1.slots, i ∈ vs1) && decide (∀ i ∈ vs1, i ∈ own.map (·.2)) &&
        chkTs N (relS scope sc) cs1 ifs1 && chkE N (relS scope sc) false elt ex && !elt.isRd) = true := h
      simp only [Bool.and_eq_true, decide_eq_true_eq, Bool.not_eq_true'] at h
      obtain ⟨⟨⟨⟨⟨⟨⟨⟨⟨⟨⟨⟨⟨⟨⟨rfl, rfl⟩, h1⟩, h2⟩, h3⟩, h4⟩, h5⟩, h6⟩, h7⟩, h8⟩, h9⟩, h10⟩, h11⟩, h12⟩, h13⟩, h14⟩ := h
      exact Snd.ofZ (s_lc2 C.calm (by rw [C.hN]; exact C.nd) (sndI it C tx ix h2) (by rw [C.hN, C.hsc]; exact blkOk_by h1) h3 h8 h5 h10 h11
        (fun s H L cl fp => blkP C s H cl L fp h4) (fun s H L cl fp => sndTs cs (C.blk s H cl L fp) ifs h6) (fun s H L cl fp => sndI it1 (C.blk s H cl L fp) tx1 ix1 h7) (fun s H L cl fp => blkP C s H cl L fp h9) (fun s H L cl fp => sndTs cs1 (C.blk s H cl L fp) ifs1 h12)
        (fun s H L cl fp => (snd elt (C.blk s H cl L fp) ex h13).e h14))
  | .told e, EX, X, N, sc, l, C, x, h => by
    cases x <;> try (cases h; done)
    rename_i f xs kw pos
    cases f <;> try (cases h; done)
    rename_i f p
    match xs, kw, h with
    | [lam], [], h =>
      cases lam <;> try (cases h; done)
      rename_i params body scope lpos
      have h : (l && decide (f = "_law_refused") && chkGl sc f && LamX.lamSB sc scope && noParams params && chkE N scope false e body && !e.isRd) = true := h
      simp only [Bool.and_eq_true, decide_eq_true_eq, Bool.not_eq_true'] at h
      obtain ⟨⟨⟨⟨⟨⟨rfl, h2⟩, h3⟩, h4⟩, h5⟩, h6⟩, h7⟩ := h
      exact Snd.ofE (s_told C h2 h3 h4 h5 fun A outer s H E f c' hr => (snd e (C.lamB hr) body h6).e h7)
    | [], _, h => cases h
    | [t], _ :: _, h => cases t <;> cases h
    | t :: _ :: _, _, h => cases t <;> cases h
  | .sp k a, EX, X, N, sc, l, C, x, h => by
    have h : (match spArg k sc x with | some y => chkE N sc l a y | none => false) = true := h
    cases he : spArg k sc x with
    | none => rw [he] at h; cases h
    | some y =>
      rw [he] at h
      exact Snd.ofZ (s_sp C he (snd a C y h).r)
  | .dx kd i a, EX, X, N, sc, l, C, x, h => sndDx C h fun y hy => snd a C y hy
  | .lrg tu a b, EX, X, N, sc, l, C, x, h => by
    cases x <;> try (cases h; done)
    rename_i g xs kw pos2
    cases g <;> try (cases h; done)
    rename_i g p2
    match xs, kw, h with
    | [r], [], h =>
      cases r <;> try (cases h; done)
      rename_i f ys kw2 pos
      cases f <;> try (cases h; done)
      rename_i f p
      match ys, kw2, h with
      | [x, y], [], h =>
        have h : (decide (g = seqN tu) && chkGl sc g && decide (f = "range") && chkGl sc f && chkE N sc l a x && chkE N sc l b y && !isStar x && !isStar y) = true := h
        simp only [Bool.and_eq_true, decide_eq_true_eq, Bool.not_eq_true'] at h
        obtain ⟨⟨⟨⟨⟨⟨⟨h1, h2⟩, h3⟩, h4⟩, h5⟩, h6⟩, h7⟩, h8⟩ := h
        exact Snd.ofZ (s_lrg C h1 h2 h3 h4 h7 h8 (snd a C x h5).r (snd b C y h6).r)
      | [], _, h => cases h
      | [_], _, h => cases h
      | [_, _], _ :: _, h => cases h
      | _ :: _ :: _ :: _, _, h => cases h
    | [], _, h => cases h
    | [t], _ :: _, h =>
      cases t <;> try (cases h; done)
      rename_i f ys kw2 pos
      cases f <;> try (cases h; done)
      match ys, kw2, h with
      | [], _, h => cases h
      | [_], _, h => cases h
      | [_, _], [], h => cases h
      | [_, _], _ :: _, h => cases h
      | _ :: _ :: _ :: _, _, h => cases h
    | t :: _ :: _, _, h =>
      cases t <;> try (cases h; done)
      rename_i f ys kw2 pos
      cases f <;> try (cases h; done)
      match ys, kw2, h with
      | [], _, h => cases h
      | [_], _, h => cases h
      | [_, _], [], h => cases h
      | [_, _], _ :: _, h => cases h
      | _ :: _ :: _ :: _, _, h => cases h
  | .lrg3 a b c, EX, X, N, sc, l, C, x, h => by
    cases x <;> try (cases h; done)
    rename_i g xs kw pos2
    cases g <;> try (cases h; done)
    rename_i g p2
    match xs, kw, h with
    | [r], [], h =>
      cases r <;> try (cases h; done)
      rename_i f ys kw2 pos
      cases f <;> try (cases h; done)
      rename_i f p
      match ys, kw2, h with
      | [x, y, z], [], h =>
        have h : (decide (g = "list") && chkGl sc g && decide (f = "range") && chkGl sc f && chkE N sc l a x && chkE N sc l b y && chkE N sc l c z && !isStar x && !isStar y && !isStar z) = true := h
        simp only [Bool.and_eq_true, decide_eq_true_eq, Bool.not_eq_true'] at h
        obtain ⟨⟨⟨⟨⟨⟨⟨⟨⟨h1, h2⟩, h3⟩, h4⟩, h5⟩, h6⟩, h7⟩, h8⟩, h9⟩, h10⟩ := h
        exact Snd.ofZ (s_lrg3 C h1 h2 h3 h4 h8 h9 h10 (snd a C x h5).r (snd b C y h6).r (snd c C z h7).r)
      | [], _, h => cases h
      | [_], _, h => cases h
      | [_, _], _, h => cases h
      | [_, _, _], _ :: _, h => cases h
      | _ :: _ :: _ :: _ :: _, _, h => cases h
    | [], _, h => cases h
    | [t], _ :: _, h =>
      cases t <;> try (cases h; done)
      rename_i f ys kw2 pos
      cases f <;> try (cases h; done)
      match ys, kw2, h with
      | [], _, h => cases h
      | [_], _, h => cases h
      | [_, _], _, h => cases h
      | [_, _, _], [], h => cases h
      | [_, _, _], _ :: _, h => cases h
      | _ :: _ :: _ :: _ :: _, _, h => cases h
    | t :: _ :: _, _, h =>
      cases t <;> try (cases h; done)
      rename_i f ys kw2 pos
      cases f <;> try (cases h; done)
      match ys, kw2, h with
      | [], _, h => cases h
      | [_], _, h => cases h
      | [_, _], _, h => cases h
      | [_, _, _], [], h => cases h
      | [_, _, _], _ :: _, h => cases h
      | _ :: _ :: _ :: _ :: _, _, h => cases h
  | .lrg1 tu a, EX, X, N, sc, l, C, x, h => by
    cases x <;> try (cases h; done)
    rename_i g xs kw pos2
    cases g <;> try (cases h; done)
    rename_i g p2
    match xs, kw, h with
    | [r], [], h =>
      cases r <;> try (cases h; done)
      rename_i f ys kw2 pos
      cases f <;> try (cases h; done)
      rename_i f p
      match ys, kw2, h with
      | [x], [], h =>
        have h : (decide (g = seqN tu) && chkGl sc g && decide (f = "range") && chkGl sc f && chkE N sc l a x && !isStar x) = true := h
        simp only [Bool.and_eq_true, decide_eq_true_eq, Bool.not_eq_true'] at h
        obtain ⟨⟨⟨⟨⟨h1, h2⟩, h3⟩, h4⟩, h5⟩, h7⟩ := h
        exact Snd.ofZ (s_lrg1 C h1 h2 h3 h4 h7 (snd a C x h5).r)
      | [], _, h => cases h
      | [_], _ :: _, h => cases h
      | _ :: _ :: _, _, h => cases h
    | [], _, h => cases h
    | [t], _ :: _, h =>
      cases t <;> try (cases h; done)
      rename_i f ys kw2 pos
      cases f <;> try (cases h; done)
      match ys, kw2, h with
      | [], _, h => cases h
      | [_], [], h => cases h
      | [_], _ :: _, h => cases h
      | _ :: _ :: _, _, h => cases h
    | t :: _ :: _, _, h =>
      cases t <;> try (cases h; done)
      rename_i f ys kw2 pos
      cases f <;> try (cases h; done)
      match ys, kw2, h with
      | [], _, h => cases h
      | [_], [], h => cases h
      | [_], _ :: _, h => cases h
      | _ :: _ :: _, _, h => cases h
theorem sndT : ∀ (e : E) {EX : XK} {X : Cx} {N : List Str} {sc : Scope} {l : Bool} (C : CtxOk W Γ k EX N sc l X) (x : Expr), chkT N sc l e x = true → PT X x (tT W Γ EX e)
  | .var i, EX, X, N, sc, l, C, x, h => by
    cases x <;> try (cases h; done)
    exact t_of C rfl (Snd.ofE (s_var C (show chkVar _ _ _ _ = true from h)).1) fun ρ Q Xd w => w
  | .rd i, EX, X, N, sc, l, C, x, h => by
    cases x <;> try (cases h; done)
    refine t_of C rfl ⟨(s_var C (show chkVar _ _ _ _ = true from h)).2, fun z => (by cases z), fun z => (by cases z)⟩ fun ρ Q Xd w => ?_
    obtain ⟨xs, h1, h2⟩ := (show opt (ownAt ρ i) (fun xs => Q (!xs.isEmpty)) from w)
    exact ⟨xs, h1, fun _ => ⟨_, rfl, h2⟩⟩
  | .cst c, EX, X, N, sc, l, C, x, h => by
    cases x <;> try (cases h; done)
    exact t_of C rfl (Snd.ofE (s_cst h)) fun ρ Q Xd w => w
  | .glob g, EX, X, N, sc, l, C, x, h => by cases x <;> cases h
  | .bin op a b, EX, X, N, sc, l, C, x, h => by cases x <;> cases h
  | .un op a, EX, X, N, sc, l, C, x, h => by cases x <;> cases h
  | .cmp op a b, EX, X, N, sc, l, C, x, h => by
    cases x <;> try (cases h; done)
    rename_i x1 ops ys pos
    match ops, ys, h with
    | [op'], [y], h =>
      have h : (decide (op = op') && !behindInMarks op y && chkE N sc l a x1 && chkE N sc l b y) = true := h
      simp only [Bool.and_eq_true, decide_eq_true_eq, Bool.not_eq_true'] at h
      obtain ⟨⟨⟨rfl, h2⟩, h3⟩, h4⟩ := h
      exact (s_cmp C (snd a C _ h3).r (snd b C _ h4).r h2).2
    | [], _, h => cases h
    | [_], [], h => cases h
    | [_], _ :: _ :: _, h => cases h
    | _ :: _ :: _, _, h => cases h
  | .chn o p a b c, EX, X, N, sc, l, C, x, h => by
    cases x <;> try (cases h; done)
    rename_i x1 ops ys pos
    match ops, ys, h with
    | [o', p'], [y, z], h =>
      have h : (decide (o = o') && decide (p = p') && !lastMarks [o, p] [y, z] && chkE N sc l a x1 && chkE N sc l b y && chkE N sc l c z) = true := h
      simp only [Bool.and_eq_true, decide_eq_true_eq, Bool.not_eq_true'] at h
      obtain ⟨⟨⟨⟨⟨rfl, rfl⟩, h2⟩, h3⟩, h4⟩, h5⟩ := h
      exact (s_chn C (snd a C _ h3).r (snd b C _ h4).r (snd c C _ h5).r h2).2
    | [], _, h => cases h
    | [_], _, h => cases h
    | [_, _], [], h => cases h
    | [_, _], [_], h => cases h
    | [_, _], _ :: _ :: _ :: _, h => cases h
    | _ :: _ :: _ :: _, _, h => cases h
  | .ands as, EX, X, N, sc, l, C, x, h => by
    cases x <;> try (cases h; done)
    rename_i op xs pos
    cases op <;> try (cases h; done)
    have h : (!xs.isEmpty && chkTs2 N sc l as xs) = true := h
    simp only [Bool.and_eq_true, Bool.not_eq_true'] at h
    exact ((sndWs as C xs h.2).w (fun z => by rw [z] at h; cases h.1) pos).1.pt
  | .ors as, EX, X, N, sc, l, C, x, h => by
    cases x <;> try (cases h; done)
    rename_i op xs pos
    cases op <;> try (cases h; done)
    have h : (!xs.isEmpty && chkTs2 N sc l as xs) = true := h
    simp only [Bool.and_eq_true, Bool.not_eq_true'] at h
    exact ((sndWs as C xs h.2).w (fun z => by rw [z] at h; cases h.1) pos).2.pt
  | .not a, EX, X, N, sc, l, C, x, h => by
    cases x <;> try (cases h; done)
    rename_i op x1 pos
    cases op <;> try (cases h; done)
    exact t_not (sndT a C _ h)
  | .ite c a b, EX, X, N, sc, l, C, x, h => by cases x <;> cases h
  | .isi a T, EX, X, N, sc, l, C, x, h => by
    cases x <;> try (cases h; done)
    rename_i f as kw pos
    exact t_of C rfl (sndIsiT C h (fun x1 hx => snd a C x1 hx)) fun ρ Q Xd w => wpE_isi w
  | .call f r as ks kws, EX, X, N, sc, l, C, x, h => by
    cases x <;> try (cases h; done)
    rename_i g xs kw pos
    exact t_of C rfl (sndCallT C h (fun xs hx => sndEs as C xs hx) (fun xs hx => sndEs kws C xs hx)) fun ρ Q Xd w => w
  | .blt f as, EX, X, N, sc, l, C, x, h => by
    cases x <;> try (cases h; done)
    rename_i g xs kw pos
    exact t_of C rfl (sndBltT C h (fun xs hx => sndEs as C xs hx)) fun ρ Q Xd w => w
  | .idx a i, EX, X, N, sc, l, C, x, h => by
    cases x <;> try (cases h; done)
    rename_i x1 y1 pos
    have h : (plainIx y1 && chkE N sc l a x1 && chkE N sc l i y1) = true := h
    simp only [Bool.and_eq_true] at h
    exact t_of C rfl (Snd.ofE (s_idx C h.1.1 (snd a C _ h.1.2).r (snd i C _ h.2).r)) fun ρ Q Xd w => w
  | .slc a lo hi, EX, X, N, sc, l, C, x, h => by
    cases x <;> try (cases h; done)
    rename_i x1 y1 pos
    cases y1 <;> try (cases h; done)
    rename_i lx hx st p2
    cases st with
    | some _ => cases h
    | none =>
      have h : (chkE N sc l a x1 && chkO N sc l lo lx && chkO N sc l hi hx) = true := h
      simp only [Bool.and_eq_true] at h
      exact t_of C rfl (Snd.ofZ (s_slc C (snd a C _ h.1.1).r (sndO lo C _ h.1.2) (sndO hi C _ h.2))) fun ρ Q Xd w => w
  | .tup as, EX, X, N, sc, l, C, x, h => by cases x <;> cases h
  | .lst as, EX, X, N, sc, l, C, x, h => by cases x <;> cases h
  | .lc elt own tg it cs, EX, X, N, sc, l, C, x, h => by cases x <;> cases h
  | .lc2 elt own tg it cs vs1 tg1 it1 cs1, EX, X, N, sc, l, C, x, h => by cases x <;> cases h
  | .told e, EX, X, N, sc, l, C, x, h => by cases x <;> cases h
  | .sp k a, EX, X, N, sc, l, C, x, h => by cases x <;> cases h
  | .dx kd i a, EX, X, N, sc, l, C, x, h => sndDxT C h fun y hy => snd a C y hy
  | .lrg tu a b, EX, X, N, sc, l, C, x, h => by cases x <;> cases h
  | .lrg1 tu a, EX, X, N, sc, l, C, x, h => by cases x <;> cases h
  | .lrg3 a b c, EX, X, N, sc, l, C, x, h => by cases x <;> cases h
theorem sndWs : ∀ (as : EL) {EX : XK} {X : Cx} {N : List Str} {sc : Scope} {l : Bool} (C : CtxOk W Γ k EX N sc l X) (xs : List Expr), chkTs2 N sc l as xs = true → SndW W Γ EX X as xs
  | .nil, EX, X, N, sc, l, C, xs, h => by
    cases xs with
    | nil => exact ⟨fun z => absurd rfl z⟩
    | cons _ _ => cases h
  | .cons e r, EX, X, N, sc, l, C, xs, h => by
    cases xs with
    | nil => cases h
    | cons x xs =>
      have h : (chkT N sc l e x && chkTs2 N sc l r xs) = true := h
      simp only [Bool.and_eq_true] at h
      have h1 := sndT e C x h.1
      have h2 := sndWs r C xs h.2
      refine ⟨fun _ pos => ?_⟩
      have hl := chkTs2_nil h.2
      cases r with
      | nil =>
        rw [hl.mp rfl]
        exact ⟨t_and1 h1, t_or1 h1⟩
      | cons e2 r2 =>
        cases xs with
        | nil => exact absurd (hl.mpr rfl) (by simp)
        | cons y ys =>
          obtain ⟨a1, a2⟩ := h2.w (by simp) pos
          exact ⟨t_and h1 a1, t_or h1 a2⟩
theorem sndTs : ∀ (as : EL) {EX : XK} {X : Cx} {N : List Str} {sc : Scope} {l : Bool} (C : CtxOk W Γ k EX N sc l X) (xs : List Expr), chkTs N sc as xs = true → PTs X xs (tTs W Γ EX as)
  | .nil, EX, X, N, sc, l, C, xs, h => by
    cases xs with
    | nil => exact ts_nil
    | cons _ _ => cases h
  | .cons e r, EX, X, N, sc, l, C, xs, h => by
    cases r with
    | cons _ _ => cases xs <;> cases h
    | nil =>
      match xs, h with
      | [x], h => exact ts_one (sndT e C.noLam x h)
      | [], h => cases h
      | _ :: _ :: _, h => cases h
theorem sndI : ∀ (it : It1) {EX : XK} {X : Cx} {N : List Str} {sc : Scope} {l : Bool} (C : CtxOk W Γ k EX N sc l X) (tx x : Expr), chkI N sc l it tx x = true → PI X tx x (tIt W Γ EX it)
  | .of e, EX, X, N, sc, l, C, tx, x, h => by
    have h : (chkE N sc l e x && !e.isRd) = true := h
    simp only [Bool.and_eq_true, Bool.not_eq_true'] at h
    exact i_of C ((snd e C x h.1).e h.2)
  | .txt e, EX, X, N, sc, l, C, tx, x, h => by
    have h : (chkE N sc l e x && !e.isRd) = true := h
    simp only [Bool.and_eq_true, Bool.not_eq_true'] at h
    exact i_txt C ((snd e C x h.1).e h.2)
  | .rng1 a, EX, X, N, sc, l, C, tx, x, h => by
    cases x <;> try (cases h; done)
    rename_i f xs kw pos
    cases f <;> try (cases h; done)
    rename_i f p
    match xs, kw, h with
    | [x], [], h =>
      have h : (decide (f = "range") && chkGl sc f && chkE N sc l a x && !isStar x) = true := h
      simp only [Bool.and_eq_true, decide_eq_true_eq, Bool.not_eq_true'] at h
      exact i_rng1 C h.1.1.1 h.1.1.2 h.2 (snd a C x h.1.2).r
    | [], _, h => cases h
    | [_], _ :: _, h => cases h
    | _ :: _ :: _, _, h => cases h
  | .rng2 a b, EX, X, N, sc, l, C, tx, x, h => by
    cases x <;> try (cases h; done)
    rename_i f xs kw pos
    cases f <;> try (cases h; done)
    rename_i f p
    match xs, kw, h with
    | [x, y], [], h =>
      have h : (decide (f = "range") && chkGl sc f && chkE N sc l a x && chkE N sc l b y && !isStar x && !isStar y) = true := h
      simp only [Bool.and_eq_true, decide_eq_true_eq, Bool.not_eq_true'] at h
      obtain ⟨⟨⟨⟨⟨h1, h2⟩, h3⟩, h4⟩, h5⟩, h6⟩ := h
      exact i_rng2 C h1 h2 h5 h6 (snd a C x h3).r (snd b C y h4).r
    | [], _, h => cases h
    | [_], _, h => cases h
    | [_, _], _ :: _, h => cases h
    | _ :: _ :: _ :: _, _, h => cases h
  | .rng3 a b c, EX, X, N, sc, l, C, tx, x, h => by
    cases x <;> try (cases h; done)
    rename_i f xs kw pos
    cases f <;> try (cases h; done)
    rename_i f p
    match xs, kw, h with
    | [x, y, z], [], h =>
      have h : (decide (f = "range") && chkGl sc f && chkE N sc l a x && chkE N sc l b y && chkE N sc l c z && !isStar x && !isStar y && !isStar z) = true := h
      simp only [Bool.and_eq_true, decide_eq_true_eq, Bool.not_eq_true'] at h
      obtain ⟨⟨⟨⟨⟨⟨⟨h1, h2⟩, h3⟩, h4⟩, h5⟩, h6⟩, h7⟩, h8⟩ := h
      exact i_rng3 C h1 h2 h6 h7 h8 (snd a C x h3).r (snd b C y h4).r (snd c C z h5).r
    | [], _, h => cases h
    | [_], _, h => cases h
    | [_, _], _, h => cases h
    | [_, _, _], _ :: _, h => cases h
    | _ :: _ :: _ :: _ :: _, _, h => cases h
  | .enum a, EX, X, N, sc, l, C, tx, x, h => by
    cases tx <;> try (cases h; done)
    cases x <;> try (cases h; done)
    rename_i f xs kw pos
    cases f <;> try (cases h; done)
    rename_i f p
    match xs, kw, h with
    | [x], [], h =>
      have h : (decide (f = "enumerate") && chkGl sc f && chkE N sc l a x && !isStar x && !a.isRd) = true := h
      simp only [Bool.and_eq_true, decide_eq_true_eq, Bool.not_eq_true'] at h
      obtain ⟨⟨⟨⟨h1, h2⟩, h3⟩, h4⟩, h5⟩ := h
      exact i_enum C h1 h2 h4 ((snd a C x h3).e h5)
    | [], _, h => cases h
    | [_], _ :: _, h => cases h
    | _ :: _ :: _, _, h => cases h
  | .zip a b, EX, X, N, sc, l, C, tx, x, h => by
    cases tx <;> try (cases h; done)
    cases x <;> try (cases h; done)
    rename_i f xs kw pos
    cases f <;> try (cases h; done)
    rename_i f p
    match xs, kw, h with
    | [x, y], [], h =>
      have h : (decide (f = "zip") && chkGl sc f && chkE N sc l a x && chkE N sc l b y && !isStar x && !isStar y && !a.isRd && !b.isRd) = true := h
      simp only [Bool.and_eq_true, decide_eq_true_eq, Bool.not_eq_true'] at h
      obtain ⟨⟨⟨⟨⟨⟨⟨h1, h2⟩, h3⟩, h4⟩, h5⟩, h6⟩, h7⟩, h8⟩ := h
      exact i_zip C h1 h2 h5 h6 ((snd a C x h3).e h7) ((snd b C y h4).e h8)
    | [], _, h => cases h
    | [_], _, h => cases h
    | [_, _], _ :: _, h => cases h
    | _ :: _ :: _ :: _, _, h => cases h
theorem sndEs : ∀ (as : EL) {EX : XK} {X : Cx} {N : List Str} {sc : Scope} {l : Bool} (C : CtxOk W Γ k EX N sc l X) (xs : List Expr), chkEs N sc l as xs = true → SndL W Γ EX X as xs
  | .nil, EX, X, N, sc, l, C, xs, h => by
    cases xs with
    | nil => exact .nil
    | cons _ _ => cases h
  | .cons e r, EX, X, N, sc, l, C, xs, h => by
    cases xs with
    | nil => cases h
    | cons x xs =>
      have h : (chkE N sc l e x && chkEs N sc l r xs) = true := h
      simp only [Bool.and_eq_true] at h
      exact .cons C (snd e C x h.1) (sndEs r C xs h.2) (chkEs_nil h.2)
theorem sndO : ∀ (o : EO) {EX : XK} {X : Cx} {N : List Str} {sc : Scope} {l : Bool} (C : CtxOk W Γ k EX N sc l X) (x : Option Expr), chkO N sc l o x = true → PO X x (tOo W Γ EX o)
  | .none, EX, X, N, sc, l, C, x, h => by
    cases x with
    | none => exact o_none
    | some _ => cases h
  | .some e, EX, X, N, sc, l, C, x, h => by
    cases x with
    | none => cases h
    | some x => exact o_some (snd e C x h).r
end
end
end Dl

set_option Elab.async false
set_option linter.all false
set_option maxRecDepth 100000
set_option maxHeartbeats 8000000
/-! the data layer, part 17: statements: their form, their weakest preconditions, the look -/
namespace Dl
open PySem PySem.Spec PyProof.Rows L2
/-- of a list of the def's own: popped to a pattern, popped at a place, put in, a slice that is stored -/
inductive OwnF | popT (p : Pat) | popAt (a : E) | ins (a e : E) | slcp (a b e : E) | popA (p : Pat) (a : E) | put2 (i2 : Nat) (j1 j2 e : E)
mutual
inductive S
  | skip | ret (e : E) | retN | brk | cnt
  | set (o : Bool) (i : Nat) (e : E)
  | asg (p : Pat) (e : E)
  | par2 (o1 : Bool) (i1 : Nat) (e1 : E) (o2 : Bool) (i2 : Nat) (e2 : E)
  | par3 (o1 : Bool) (i1 : Nat) (e1 : E) (o2 : Bool) (i2 : Nat) (e2 : E) (o3 : Bool) (i3 : Nat) (e3 : E)
  | aug (op : Operator) (i : Nat) (e : E)
  | augp (op : Operator) (i : Nat) (j e : E)
  | app (i : Nat) (e : E) | ext (i : Nat) (e : E) | put (i : Nat) (j e : E)
  | ex (e : E)
  | dnew (i : Nat) | dput (i : Nat) (j e : E)
  | mut (i : Nat) (m : OwnF)
  | ife (c : E) (a b : SL)
  | whl (c : E) (b : SL)
  | for_ (tg : Pat) (it : It1) (b : SL)
inductive SL
  | nil
  | cons (s : S) (r : SL)
  | frz (i : Nat) (r : SL)
end
structure Post where
  nx : Env1 → Prop
  rt : PyData → Prop
  bk : Env1 → Prop := fun _ => False
  ct : Env1 → Prop := fun _ => False
  xc : Str → Prop
/-- the turns of a for -/
def forL (f : PyData → Env1 → (Env1 → Prop) → Prop) : List PyData → Env1 → (Env1 → Prop) → Prop
  | [], ρ, Q => Q ρ
  | x :: r, ρ, Q => f x ρ fun ρ' => forL f r ρ' Q
section
variable (Γ : Gam)
def wpM (o : Bool) (e : E) (ρ : Env1) (K : B → Prop) (X : Str → Prop) : Prop := wpE Γ e ρ (fun d => if o = true then ∃ xs, d = .list xs ∧ K (.own xs) else K (.val d)) X
def augSem (op : Operator) (d e : PyData) : Option PyData := match op, d, e with
  | .Add, .int i, .int j => some (.int (i + j))
  | .Sub, .int i, .int j => some (.int (i - j))
  | _, _, _ => none
def wpMut (m : OwnF) (i : Nat) (ρ : Env1) (P : Post) : Prop := match m with
  | .popT p => opt (ownAt ρ i) fun xs => opt xs.getLast? fun d => opt (bindP p d (ρ.set i (.own xs.dropLast))) P.nx
  | .popAt a => opt (ownAt ρ i) fun xs => wpE Γ a ρ (fun k => ∃ k' n, k = .int k' ∧ ixN xs.length k' = some n ∧ P.nx (ρ.set i (.own (xs.eraseIdx n)))) P.xc
  | .ins a e => opt (ownAt ρ i) fun xs => wpE Γ a ρ (fun k => wpE Γ e ρ (fun d => ∃ n : Nat, k = .int (n : Nat) ∧ n ≤ xs.length ∧ xs.length < 16777216 ∧ P.nx (ρ.set i (.own (xs.take n ++ d :: xs.drop n)))) P.xc) P.xc
  | .slcp a b e => opt (ownAt ρ i) fun xs => wpE Γ e ρ (fun d => wpE Γ a ρ (fun ka => ∃ m : Nat, ka = .int (m : Nat) ∧ wpE Γ b ρ (fun kb => ∃ (ys : List PyData) (n : Nat), d = .list ys ∧ kb = .int (n : Nat) ∧ m ≤ n ∧ n ≤ xs.length ∧ xs.length + ys.length ≤ 16777216 ∧ P.nx (ρ.set i (.own (xs.take m ++ ys ++ xs.drop n)))) P.xc) P.xc) P.xc
  | .popA p a => opt (ownAt ρ i) fun xs => wpE Γ a ρ (fun k => ∃ k' n d, k = .int k' ∧ ixN xs.length k' = some n ∧ xs[n]? = some d ∧ opt (bindP p d (ρ.set i (.own (xs.eraseIdx n)))) P.nx) P.xc
  | .put2 i2 j1 j2 e => opt (ownAt ρ i) fun xs => opt (ownAt ρ i2) fun ys => wpE Γ e ρ (fun d => ∃ d1 d2, d = .tuple [d1, d2] ∧ wpE Γ j1 ρ (fun k1 => ∃ k n, k1 = .int k ∧ ixN xs.length k = some n ∧ wpE Γ j2 (ρ.set i (.own (xs.set n d1))) (fun k2 => ∃ k' n', k2 = .int k' ∧ ixN ys.length k' = some n' ∧ P.nx ((ρ.set i (.own (xs.set n d1))).set i2 (.own (ys.set n' d2)))) P.xc) P.xc) P.xc
mutual
def wpS : S → Env1 → Post → Prop
  | .skip, ρ, P => P.nx ρ
  | .ret e, ρ, P => wpE Γ e ρ P.rt P.xc
  | .retN, ρ, P => P.rt .none
  | .brk, ρ, P => P.bk ρ
  | .cnt, ρ, P => P.ct ρ
  | .set o i e, ρ, P => wpM Γ o e ρ (fun b => P.nx (ρ.set i b)) P.xc
  | .asg p e, ρ, P => wpE Γ e ρ (fun d => opt (bindP p d ρ) P.nx) P.xc
  | .par2 o1 i1 e1 o2 i2 e2, ρ, P => wpM Γ o1 e1 ρ (fun b1 => wpM Γ o2 e2 ρ (fun b2 => P.nx ((ρ.set i1 b1).set i2 b2)) P.xc) P.xc
  | .par3 o1 i1 e1 o2 i2 e2 o3 i3 e3, ρ, P => wpM Γ o1 e1 ρ (fun b1 => wpM Γ o2 e2 ρ (fun b2 => wpM Γ o3 e3 ρ (fun b3 => P.nx (((ρ.set i1 b1).set i2 b2).set i3 b3)) P.xc) P.xc) P.xc
  | .aug op i e, ρ, P => opt (valAt ρ i) fun d => wpE Γ e ρ (fun d' => opt (augSem op d d') fun r => P.nx (ρ.set i (.val r))) P.xc
  | .augp op i j e, ρ, P => opt (ownAt ρ i) fun xs => wpE Γ j ρ (fun k => ∃ k' n d, k = .int k' ∧ ixN xs.length k' = some n ∧ xs[n]? = some d ∧ wpE Γ e ρ (fun d' => opt (augSem op d d') fun r => P.nx (ρ.set i (.own (xs.set n r)))) P.xc) P.xc
  | .app i e, ρ, P => opt (ownAt ρ i) fun xs => wpE Γ e ρ (fun d => xs.length < 16777216 ∧ P.nx (ρ.set i (.own (xs ++ [d])))) P.xc
  | .ext i e, ρ, P => opt (ownAt ρ i) fun xs => wpE Γ e ρ (fun d => ∃ ys, d = .list ys ∧ xs.length + ys.length ≤ 16777216 ∧ P.nx (ρ.set i (.own (xs ++ ys)))) P.xc
  | .put i j e, ρ, P => opt (ownAt ρ i) fun xs => wpE Γ e ρ (fun d => wpE Γ j ρ (fun k => ∃ k' n, k = .int k' ∧ ixN xs.length k' = some n ∧ P.nx (ρ.set i (.own (xs.set n d)))) P.xc) P.xc
  | .dnew i, ρ, P => P.nx (ρ.set i (.dct []))
  | .dput i j e, ρ, P => opt (dctAt ρ i) fun kvs => wpE Γ e ρ (fun d => wpE Γ j ρ (fun k => ∃ k', k = .int k' ∧ kvs.length < 16777216 ∧ P.nx (ρ.set i (.dct (dPut kvs k' d)))) P.xc) P.xc
  | .mut i m, ρ, P => wpMut Γ m i ρ P
  | .ex e, ρ, P => wpE Γ e ρ (fun _ => P.nx ρ) P.xc
  | .ife c a b, ρ, P => wpT Γ c ρ (fun t => if t = true then wpSs a ρ P else wpSs b ρ P) P.xc
  | .whl c b, ρ, P => ∃ I : Nat → Env1 → Prop, (∃ n, I n ρ) ∧ ∀ n ρ1, I n ρ1 → wpT Γ c ρ1 (fun t => if t = true then wpSs b ρ1 { nx := fun ρ2 => ∃ m, m < n ∧ I m ρ2, ct := fun ρ2 => ∃ m, m < n ∧ I m ρ2, bk := P.nx, rt := P.rt, xc := P.xc } else P.nx ρ1) P.xc
  | .for_ tg it b, ρ, P => wpI Γ it ρ (fun items => forL (fun x ρ1 k => opt (bindP tg x ρ1) fun ρ2 => wpSs b ρ2 { nx := k, ct := k, bk := P.nx, rt := P.rt, xc := P.xc }) items ρ P.nx) P.xc
def wpSs : SL → Env1 → Post → Prop
  | .nil, ρ, P => P.nx ρ
  | .cons s r, ρ, P => wpS s ρ { nx := fun ρ' => wpSs r ρ' P, ct := P.ct, bk := P.bk, rt := P.rt, xc := P.xc }
  | .frz i r, ρ, P => opt (ownAt ρ i) fun xs => wpSs r (ρ.set i (.val (.list xs))) P
end
end
/-! ### the look -/
def lcNo (scope : Scope) (x : Str) : Bool := !(scope.names.any fun (n, k) => n == x && (k == .local || k == .cell))
/-- how a comprehension is kept: its name a local on the same line, or a cell -/
def lcSw (sc : Scope) (x : Str) (px : Pos) (v : Expr) : Bool := match v with
  | .ListComp _ _ scope pos => (decide (sc.names.lookup x = some .local) && (px.line == pos.line) && lcNo scope x) || decide (sc.names.lookup x = some .cell) || (decide (sc.names.lookup x = some .local) && !(px.line == pos.line))
  | _ => !isComp v
def modeOk (o : Bool) (e : E) : Bool := if o = true then e.fresh else !e.isRd
def foldT : Expr → Bool
  | .Tuple vs _ _ => vs.all (foldedForSure 8)
  | _ => false
def isTupE : Expr → Bool
  | .Tuple .. => true
  | _ => false
def hasCell (sc : Scope) (ts : List Expr) : Bool := ts.any fun t => match t with
  | .Name x _ => !decide (sc.names.lookup x = some .local)
  | _ => true
def nmOk (N : List Str) (sc : Scope) (i : Nat) (x : Str) : Bool := decide (N[i]? = some x) && locB sc x
def parOk (vs : List Expr) : Bool := noStars vs && !vs.all (foldedForSure 8) && !vs.all (constantsAlone 8)
def isLoc (sc : Scope) (x : Str) : Bool := decide (sc.names.lookup x = some .local)
def asPar2 : Stmt → Option (Str × Pos × Str × Pos × Expr × Expr)
  | .Assign [.Tuple [.Name x px, .Name y py] _ _] (.Tuple [a, b] _ _) _ => some (x, px, y, py, a, b)
  | _ => none
def asPar3 : Stmt → Option (Str × Pos × Str × Pos × Str × Pos × Expr × Expr × Expr)
  | .Assign [.Tuple [.Name x px, .Name y py, .Name z pz] _ _] (.Tuple [a, b, c] _ _) _ => some (x, px, y, py, z, pz, a, b, c)
  | _ => none
def asMth : Stmt → Option (Str × Str × Pos × Expr × Pos)
  | .Expr (.Call (.Attribute (.Name x _) m ap) [v] [] cp) _ => some (x, m, ap, v, cp)
  | _ => none
def asPut : Stmt → Option (Str × Expr × Expr)
  | .Assign [.Subscript (.Name x _) jx _] v _ => some (x, jx, v)
  | _ => none
theorem asPar2_eq {st : Stmt} {x : Str} {px : Pos} {y : Str} {py : Pos} {a b : Expr} (h : asPar2 st = some (x, px, y, py, a, b)) : ∃ kt pt k2 pt2 pos, st = .Assign [.Tuple [.Name x px, .Name y py] kt pt] (.Tuple [a, b] k2 pt2) pos := by
  unfold asPar2 at h
  split at h
  · cases h; exact ⟨_, _, _, _, _, rfl⟩
  · cases h
theorem asPar3_eq {st : Stmt} {x : Str} {px : Pos} {y : Str} {py : Pos} {z : Str} {pz : Pos} {a b c : Expr} (h : asPar3 st = some (x, px, y, py, z, pz, a, b, c)) : ∃ kt pt k2 pt2 pos, st = .Assign [.Tuple [.Name x px, .Name y py, .Name z pz] kt pt] (.Tuple [a, b, c] k2 pt2) pos := by
  unfold asPar3 at h
  split at h
  · cases h; exact ⟨_, _, _, _, _, rfl⟩
  · cases h
theorem asMth_eq {st : Stmt} {x m : Str} {ap : Pos} {v : Expr} {cp : Pos} (h : asMth st = some (x, m, ap, v, cp)) : ∃ px pos, st = .Expr (.Call (.Attribute (.Name x px) m ap) [v] [] cp) pos := by
  unfold asMth at h
  split at h
  · cases h; exact ⟨_, _, rfl⟩
  · cases h
theorem asPut_eq {st : Stmt} {x : Str} {jx v : Expr} (h : asPut st = some (x, jx, v)) : ∃ px tp pos, st = .Assign [.Subscript (.Name x px) jx tp] v pos := by
  unfold asPut at h
  split at h
  · cases h; exact ⟨_, _, _, rfl⟩
  · cases h
def asAugp : Stmt → Option (Str × Expr × Operator × Expr)
  | .AugAssign (.Subscript (.Name x _) jx _) op v _ => some (x, jx, op, v)
  | _ => none
theorem asAugp_eq {st : Stmt} {x : Str} {jx v : Expr} {op : Operator} (h : asAugp st = some (x, jx, op, v)) : ∃ px tp pos, st = .AugAssign (.Subscript (.Name x px) jx tp) op v pos := by
  unfold asAugp at h
  split at h
  · cases h; exact ⟨_, _, _, rfl⟩
  · cases h
/-- a name's method with two arguments; a pop to a pattern; a slice that is stored -/
def asMth2 : Stmt → Option (Str × Str × Pos × Expr × Expr × Pos)
  | .Expr (.Call (.Attribute (.Name x _) m ap) [v, u] [] cp) _ => some (x, m, ap, v, u, cp)
  | _ => none
theorem asMth2_eq {st : Stmt} {x m : Str} {ap : Pos} {v u : Expr} {cp : Pos} (h : asMth2 st = some (x, m, ap, v, u, cp)) : ∃ px pos, st = .Expr (.Call (.Attribute (.Name x px) m ap) [v, u] [] cp) pos := by
  unfold asMth2 at h
  split at h
  · cases h; exact ⟨_, _, rfl⟩
  · cases h
def asPopT : Stmt → Option (List Expr × Nat × Pos × Str × Str × Pos × Pos)
  | .Assign [.Tuple ts j tp] (.Call (.Attribute (.Name x _) m ap) [] [] cp) _ => some (ts, j, tp, x, m, ap, cp)
  | _ => none
theorem asPopT_eq {st : Stmt} {ts : List Expr} {j : Nat} {tp : Pos} {x m : Str} {ap cp : Pos} (h : asPopT st = some (ts, j, tp, x, m, ap, cp)) : ∃ px pos, st = .Assign [.Tuple ts j tp] (.Call (.Attribute (.Name x px) m ap) [] [] cp) pos := by
  unfold asPopT at h
  split at h
  · cases h; exact ⟨_, _, rfl⟩
  · cases h
def asSlc : Stmt → Option (Str × Expr × Expr × Expr)
  | .Assign [.Subscript (.Name x _) (.Slice (some a) (some b) none _) _] v _ => some (x, a, b, v)
  | _ => none
theorem asSlc_eq {st : Stmt} {x : Str} {a b v : Expr} (h : asSlc st = some (x, a, b, v)) : ∃ px p2 tp pos, st = .Assign [.Subscript (.Name x px) (.Slice (some a) (some b) none p2) tp] v pos := by
  unfold asSlc at h
  split at h
  · cases h; exact ⟨_, _, _, _, rfl⟩
  · cases h
def asPopA : Stmt → Option (Expr × Str × Str × Pos × Expr × Pos)
  | .Assign [t] (.Call (.Attribute (.Name x _) m ap) [v] [] cp) _ => some (t, x, m, ap, v, cp)
  | _ => none
theorem asPopA_eq {st : Stmt} {t : Expr} {x m : Str} {ap : Pos} {v : Expr} {cp : Pos} (h : asPopA st = some (t, x, m, ap, v, cp)) : ∃ px pos, st = .Assign [t] (.Call (.Attribute (.Name x px) m ap) [v] [] cp) pos := by
  unfold asPopA at h
  split at h
  · cases h; exact ⟨_, _, rfl⟩
  · cases h
def asPut2 : Stmt → Option (Str × Expr × Str × Expr × List Expr × Nat × Pos)
  | .Assign [.Tuple [.Subscript (.Name x _) jx _, .Subscript (.Name u _) ju _] _ _] (.Tuple vs k2 vp) _ => some (x, jx, u, ju, vs, k2, vp)
  | _ => none
theorem asPut2_eq {st : Stmt} {x u : Str} {jx ju : Expr} {vs : List Expr} {k2 : Nat} {vp : Pos} (h : asPut2 st = some (x, jx, u, ju, vs, k2, vp)) : ∃ px p1 pu p2 kt pt pos, st = .Assign [.Tuple [.Subscript (.Name x px) jx p1, .Subscript (.Name u pu) ju p2] kt pt] (.Tuple vs k2 vp) pos := by
  unfold asPut2 at h
  split at h
  · cases h; exact ⟨_, _, _, _, _, _, _, rfl⟩
  · cases h
def chkMut (N : List Str) (sc : Scope) (l : Bool) (i : Nat) (m : OwnF) (st : Stmt) : Bool := match m with
  | .popT p => (match asPopT st with
    | some (ts, j, tp, x, m, ap, cp) => decide (m = "pop") && (ap.endLine == cp.line) && chkVar N sc i x && chkP N sc stAll p (.Tuple ts j tp)
    | none => false)
  | .popAt a => (match asMth st with
    | some (x, m, ap, v, cp) => decide (m = "pop") && (ap.endLine == cp.line) && !isStar v && chkVar N sc i x && chkE N sc l a v
    | none => false)
  | .ins a e => (match asMth2 st with
    | some (x, m, ap, v, u, cp) => decide (m = "insert") && (ap.endLine == cp.line) && !isStar v && !isStar u && chkVar N sc i x && !e.isRd && chkE N sc l a v && chkE N sc l e u
    | none => false)
  | .slcp a b e => (match asSlc st with
    | some (x, ax, bx, v) => !isComp v && chkVar N sc i x && !e.isRd && chkE N sc l a ax && chkE N sc l b bx && chkE N sc l e v
    | none => false)
  | .popA p a => (match asPopA st with
    | some (t, x, m, ap, v, cp) => decide (m = "pop") && ((ap.endLine == cp.line) && (!isStar v && (chkVar N sc i x && (chkP N sc stAll p t && chkE N sc l a v))))
    | none => false)
  | .put2 i2 j1 j2 e => (match asPut2 st with
    | some (x, jx, u, ju, vs, k2, vp) => chkVar N sc i x && (chkVar N sc i2 u && (decide (i ≠ i2) && (plainIx jx && (plainIx ju && (!e.isRd && (chkE N sc l j1 jx && (chkE N sc l j2 ju && chkE N sc l e (.Tuple vs k2 vp))))))))
    | none => false)
mutual
def chkS (N : List Str) (sc : Scope) (l : Bool) : S → Stmt → Bool
  | .skip, .Pass _ => true
  | .skip, .Expr (.Constant (.str _) _ _) _ => true
  | .ret e, .Return (some x) _ => chkE N sc l e x && !e.isRd
  | .retN, .Return none _ => true
  | .brk, .Break _ => true
  | .cnt, .Continue _ => true
  | .set o i e, .Assign [.Name x px] v _ => nmOk N sc i x && lcSw sc x px v && modeOk o e && chkE N sc l e v
  | .asg p e, .Assign [.Tuple ts j tp] v _ => (!isTupE v || hasCell sc ts || foldT v) && !isComp v && !e.isRd && chkP N sc stAll p (.Tuple ts j tp) && chkE N sc l e v
  | .par2 o1 i1 e1 o2 i2 e2, st => (match asPar2 st with
    | some (x, px, y, py, a, b) => nmOk N sc i1 x && nmOk N sc i2 y && ((isLoc sc x && isLoc sc y && (px.line == py.line)) || (!isLoc sc x || !isLoc sc y)) && decide (x ≠ y) && parOk [a, b] && modeOk o1 e1 && modeOk o2 e2 && chkE N sc l e1 a && chkE N sc l e2 b
    | none => false)
  | .par3 o1 i1 e1 o2 i2 e2 o3 i3 e3, st => (match asPar3 st with
    | some (x, px, y, py, z, pz, a, b, c) => nmOk N sc i1 x && nmOk N sc i2 y && nmOk N sc i3 z && isLoc sc x && isLoc sc y && isLoc sc z && (px.line == py.line) && (px.line == pz.line) &&
      decide (x ≠ y) && decide (x ≠ z) && decide (y ≠ z) && parOk [a, b, c] && modeOk o1 e1 && modeOk o2 e2 && modeOk o3 e3 && chkE N sc l e1 a && chkE N sc l e2 b && chkE N sc l e3 c
    | none => false)
  | .aug op i e, .AugAssign (.Name x _) op' v _ => decide (op = op') && (decide (op = .Add) || decide (op = .Sub)) && nmOk N sc i x && !e.isRd && chkE N sc l e v
  | .augp op i j e, st => (match asAugp st with
    | some (x, jx, op', v) => decide (op = op') && (decide (op = .Add) || decide (op = .Sub)) && plainIx jx && chkVar N sc i x && !e.isRd && chkE N sc l j jx && chkE N sc l e v
    | none => false)
  | .app i e, st => (match asMth st with
    | some (x, m, ap, v, cp) => decide (m = "append") && (ap.endLine == cp.line) && !isStar v && chkVar N sc i x && !e.isRd && chkE N sc l e v
    | none => false)
  | .ext i e, st => (match asMth st with
    | some (x, m, ap, v, cp) => decide (m = "extend") && (ap.endLine == cp.line) && !isStar v && chkVar N sc i x && chkE N sc l e v
    | none => false)
  | .put i j e, st => (match asPut st with
    | some (x, jx, v) => plainIx jx && !isComp v && chkVar N sc i x && !e.isRd && chkE N sc l j jx && chkE N sc l e v
    | none => false)
  | .dnew i, .Assign [.Name x px] (.Dict [] [] _) _ => nmOk N sc i x
  | .dput i j e, st => (match asPut st with
    | some (x, jx, v) => plainIx jx && !isComp v && chkVar N sc i x && !e.isRd && chkE N sc l j jx && chkE N sc l e v
    | none => false)
  | .mut i m, st => chkMut N sc l i m st
  | .ex e, .Expr v _ => !isComp v && !e.isRd && chkE N sc l e v
  | .ife c a b, .If t p q _ => chkT N sc l c t && chkSs N sc l a p && chkSs N sc l b q
  | .whl c b, .While t p [] _ => chkT N sc l c t && chkSs N sc l b p
  | .for_ tg it b, .For tx ix p [] _ => chkI N sc l it tx ix && !isSetD ix && chkP N sc stAll tg tx && chkSs N sc l b p
  | _, _ => false
def chkSs (N : List Str) (sc : Scope) (l : Bool) : SL → List Stmt → Bool
  | .nil, [] => true
  | .cons s r, x :: xs => chkS N sc l s x && chkSs N sc l r xs
  | .frz _ r, xs => chkSs N sc l r xs
  | _, _ => false
end
end Dl

set_option Elab.async false
set_option linter.all false
set_option maxRecDepth 100000
set_option maxHeartbeats 8000000
/-! the data layer, part 18: states within a def, the stores, results that are owned -/
namespace Dl
open PySem PySem.Spec PyProof.Rows L2

/-! ### how the program keeps values -/
section
variable {X : Cx} {sc : Scope}
theorem blk_fn (hk : X.env.scope.kind = .function) : X.env.blockKind = .function := by unfold Env.blockKind; rw [hk]; rfl
theorem sw_val {x : Str} {px : Pos} {v : Expr} {line : Nat} (h : isComp v = false) (t : Option Expr) : swapsWith v t line X.env = pure false := no_swap h t line X.env
theorem sw_other {elt : Expr} {gs : List Comprehension} {scope : Scope} {pos px : Pos} {x : Str} {line : Nat} (h : X.env.scope.names.lookup x = some .cell ∨ (px.line == pos.line) = false) : swapsWith (.ListComp elt gs scope pos) (some (.Name x px)) line X.env = pure false := by
  unfold swapsWith
  simp only [Expr.pos]
  rcases h with h | h
  · have : X.env.kindOf x = some .cell := h
    have e : (NameKind.cell == NameKind.local) = false := rfl
    simp [this, e]
  · simp [h]
theorem stores_none {t v : Expr} (h : isTupE v = false) : swappedStores [t] v X.env = pure none := by
  unfold swappedStores
  cases v <;> first | (cases h; done) | (cases t <;> rfl)
theorem names_len {env : Env} {line : Nat} : ∀ {ts : List Expr}, hasCell env.scope ts = true → (ts.filterMap fun t => match t with
    | .Name id pos => if env.kindOf id == some .local && pos.line == line then some id else none
    | _ => none).length < ts.length := by
  intro ts h
  induction ts with
  | nil => cases h
  | cons t r ih =>
    have le : (r.filterMap fun t => match t with
      | .Name id pos => if env.kindOf id == some .local && pos.line == line then some id else none
      | _ => none).length ≤ r.length := List.length_filterMap_le _ _
    unfold hasCell at h
    simp only [List.any_cons, Bool.or_eq_true] at h
    rw [List.filterMap_cons]
    rcases h with h | h
    · have e : (match t with
        | .Name id pos => if env.kindOf id == some .local && pos.line == line then some id else none
        | _ => none) = none := by
        split
        · rename_i x p
          simp only [Bool.not_eq_true', decide_eq_false_iff_not] at h
          have : env.kindOf x ≠ some .local := h
          simp [this]
        · rfl
      rw [e]
      simp only [List.length_cons]
      omega
    · have q := ih (by unfold hasCell; exact h)
      split
      · simp only [List.length_cons]; omega
      · simp only [List.length_cons]; omega
theorem stores_cell {ts vs : List Expr} {j k2 : Nat} {tp vp : Pos} (h : hasCell X.env.scope ts = true) : swappedStores [.Tuple ts j tp] (.Tuple vs k2 vp) X.env = pure none := by
  unfold swappedStores
  simp only [pure_bind]
  split
  · rfl
  · split
    · rfl
    · split
      · rfl
      · rename_i h1 h2 h3
        exfalso
        apply h3
        have := names_len (line := (ts.head?.map (·.pos.line)).getD 0) h
        simp only [Bool.or_eq_true, bne_iff_ne, ne_eq]
        exact .inl (Nat.ne_of_lt this)
theorem stores_sub {o i v : Expr} {p : Pos} : swappedStores [.Subscript o i p] v X.env = pure none := by
  unfold swappedStores
  cases v <;> rfl
theorem stores_fold {ts : List Expr} {v : Expr} {j : Nat} {tp : Pos} (h : foldT v = true) : swappedStores [.Tuple ts j tp] v X.env = pure none := by
  cases v <;> try (cases h; done)
  have h : (List.all _ (foldedForSure 8)) = true := h
  unfold swappedStores
  simp only [pure_bind]
  split
  · rfl
  · split
    · rfl
    · split
      · rfl
      · first | rfl | (rw [if_pos h]; rfl)
theorem starE {vs : List Expr} (h : noStars vs = true) : (vs.any fun | .Starred .. => true | _ => false) = false := by
  unfold noStars at h
  induction vs with
  | nil => rfl
  | cons v r ih =>
    simp only [List.all_cons, Bool.and_eq_true, Bool.not_eq_true'] at h
    simp only [List.any_cons]
    rw [ih h.2, Bool.or_false]
    cases v <;> first | rfl | cases h.1
theorem stores2 (hk : X.env.scope.kind = .function) {x y : Str} {px py pt pt2 : Pos} {kt k2 : Nat} {a b : Expr} (hx : X.env.scope.names.lookup x = some .local) (hy : X.env.scope.names.lookup y = some .local) (hl : (px.line == py.line) = true) (hxy : x ≠ y) (hp : parOk [a, b] = true) :
    swappedStores [.Tuple [.Name x px, .Name y py] kt pt] (.Tuple [a, b] k2 pt2) X.env = pure (some [x, y]) := by
  unfold parOk at hp
  simp only [Bool.and_eq_true, Bool.not_eq_true'] at hp
  obtain ⟨⟨h1, h2⟩, h3⟩ := hp
  have kx : X.env.kindOf x = some .local := hx
  have ky : X.env.kindOf y = some .local := hy
  have hl' : (py.line == px.line) = true := by rw [beq_iff_eq] at hl ⊢; exact hl.symm
  have s1 := starE h1
  have e0 : (some NameKind.local == some NameKind.local) = true := rfl
  have ed : [x, y].eraseDups = [x, y] := by
    have : (y == x) = false := by rw [beq_eq_false_iff_ne]; exact Ne.symm hxy
    simp [List.eraseDups_cons, this]
  unfold swappedStores
  simp only [pure_bind, blk_fn hk, s1, h2, h3, Expr.pos, List.head?_cons, Option.map_some, Option.getD_some, List.filterMap_cons, List.filterMap_nil, kx, ky, hl', beq_self_eq_true, Bool.and_self, if_true, List.length_cons, List.length_nil, ed, e0]
  exact (if_neg (by decide)).trans ((if_neg (by rw [Bool.not_eq_true]; exact s1)).trans ((if_neg (by decide)).trans ((if_neg Bool.false_ne_true).trans (if_neg Bool.false_ne_true))))
theorem stores3 (hk : X.env.scope.kind = .function) {x y z : Str} {px py pz pt pt2 : Pos} {kt k2 : Nat} {a b c : Expr} (hx : X.env.scope.names.lookup x = some .local) (hy : X.env.scope.names.lookup y = some .local) (hz : X.env.scope.names.lookup z = some .local) (hl : (px.line == py.line) = true) (hl2 : (px.line == pz.line) = true)
    (hxy : x ≠ y) (hxz : x ≠ z) (hyz : y ≠ z) (hp : parOk [a, b, c] = true) :
    swappedStores [.Tuple [.Name x px, .Name y py, .Name z pz] kt pt] (.Tuple [a, b, c] k2 pt2) X.env = pure (some [x, y, z]) := by
  unfold parOk at hp
  simp only [Bool.and_eq_true, Bool.not_eq_true'] at hp
  obtain ⟨⟨h1, h2⟩, h3⟩ := hp
  have kx : X.env.kindOf x = some .local := hx
  have ky : X.env.kindOf y = some .local := hy
  have kz : X.env.kindOf z = some .local := hz
  have hl' : (py.line == px.line) = true := by rw [beq_iff_eq] at hl ⊢; exact hl.symm
  have hl2' : (pz.line == px.line) = true := by rw [beq_iff_eq] at hl2 ⊢; exact hl2.symm
  have s1 := starE h1
  have e0 : (some NameKind.local == some NameKind.local) = true := rfl
  have ed : [x, y, z].eraseDups = [x, y, z] := by
    have a1 : (y == x) = false := by rw [beq_eq_false_iff_ne]; exact Ne.symm hxy
    have a2 : (z == x) = false := by rw [beq_eq_false_iff_ne]; exact Ne.symm hxz
    have a3 : (z == y) = false := by rw [beq_eq_false_iff_ne]; exact Ne.symm hyz
    simp [List.eraseDups_cons, a1, a2, a3]
  unfold swappedStores
  simp only [pure_bind, blk_fn hk, s1, h2, h3, Expr.pos, List.head?_cons, Option.map_some, Option.getD_some, List.filterMap_cons, List.filterMap_nil, kx, ky, kz, hl', hl2', beq_self_eq_true, Bool.and_self, if_true, List.length_cons, List.length_nil, ed, e0]
  exact (if_neg (by decide)).trans ((if_neg (by rw [Bool.not_eq_true]; exact s1)).trans ((if_neg (by decide)).trans ((if_neg Bool.false_ne_true).trans (if_neg Bool.false_ne_true))))
end
end Dl

set_option Elab.async false
set_option linter.all false
set_option maxRecDepth 100000
set_option maxHeartbeats 8000000
/-! the data layer, part 19: states within a def -/
namespace Dl
open PySem PySem.Spec PyProof.Rows L2
/-- nothing that stays was there -/
def New (H : Hp) (a : Addr) : Prop := ∀ o, H a = some o → ¬ nt o
theorem New.of {H : Hp} {a : Addr} (h : H a = none) : New H a := fun o e => by rw [h] at e; cases e
/-- .. and the def's own lists are new since it was entered -/
structure StS (W : Wd) (F0 H0 Fb F : Hp) (ρ : Env1) (σ : L2.St) (H : Hp) : Prop where
  st : St W F ρ σ H
  g0 : Good W H0
  sm : Same Fb F
  ex : Ext W F0 H0 F H
  nw : ∀ (i : Nat) b a, ρ[i]? = some b → b.live = true → σ[i]? = some (some (.ref a)) → New H0 a
/-- what a result is, kept as b -/
def MR (W : Wd) (F H Hx : Hp) (v : V) : B → Prop
  | .val d => Dat W.K F v d
  | .own xs => ∃ a vs, v = .ref a ∧ H a = some (.lst vs) ∧ F a = none ∧ a ≠ W.R ∧ Dats W.K F vs xs ∧ xs.length ≤ 16777216 ∧ New Hx a
  | .dct kvs => ∃ a vs, v = .ref a ∧ H a = some (.dK vs) ∧ F a = none ∧ a ≠ W.R ∧ KvD W.K F vs kvs ∧ kvs.length ≤ 16777216 ∧ New Hx a
  | _ => False
section
variable {W : Wd} {F0 H0 Fb F H Fx Hx F' H' : Hp} {ρ : Env1} {σ : L2.St}
theorem New.back {a : Addr} (n : New Hx a) (e : Ext W F0 H0 Fx Hx) (hR : a ≠ W.R) : New H0 a := fun o h k => n o (e.keep a o h k hR) k
theorem MR.ext {v : V} {b : B} (m : MR W F H Hx v b) (e : Ext W F H F' H') : MR W F' H' Hx v b := by
  cases b with
  | val d => exact Dat.mono e.sub _ _ m
  | own xs =>
    obtain ⟨a, vs, h1, h2, h3, h4, h5, h6, h7⟩ := m
    exact ⟨a, vs, h1, e.keep _ _ h2 (fun ps z => by cases z) h4, e.fr _ _ h3 h2 (fun ps z => by cases z), h4, h5.mono e.sub, h6, h7⟩
  | dct xs =>
    obtain ⟨a, vs, h1, h2, h3, h4, h5, h6, h7⟩ := m
    exact ⟨a, vs, h1, e.keep _ _ h2 (fun ps z => by cases z) h4, e.fr _ _ h3 h2 (fun ps z => by cases z), h4, h5.mono e.sub, h6, h7⟩
  | row => exact m
  | bad => exact m
theorem MR.live {v : V} {b : B} (m : MR W F H Hx v b) (l : b.live = true) : ∃ a, v = .ref a ∧ a ≠ W.R ∧ New Hx a := by
  cases b with
  | val d => cases l
  | own xs =>
    obtain ⟨a, vs, h1, h2, h3, h4, h5, h6, h7⟩ := m
    exact ⟨a, h1, h4, h7⟩
  | dct xs =>
    obtain ⟨a, vs, h1, h2, h3, h4, h5, h6, h7⟩ := m
    exact ⟨a, h1, h4, h7⟩
  | row => cases l
  | bad => cases l
theorem MR.slot {v : V} {b : B} (m : MR W F H Hx v b) : SlotOk W F H (some v) b := by
  cases b with
  | val d => exact ⟨v, rfl, m⟩
  | own xs =>
    obtain ⟨a, vs, rfl, h2, h3, h4, h5, h6, h7⟩ := m
    exact ⟨a, vs, rfl, h2, h3, h4, h5, h6⟩
  | dct xs =>
    obtain ⟨a, vs, rfl, h2, h3, h4, h5, h6, h7⟩ := m
    exact ⟨a, vs, rfl, h2, h3, h4, h5, h6⟩
  | row => exact m.elim
  | bad => exact m.elim
theorem StS.ext (s : StS W F0 H0 Fb F ρ σ H) (e : Ext W F H F' H') : StS W F0 H0 Fb F' ρ σ H' := ⟨s.st.ext e, s.g0, s.sm.trans e.sub, s.ex.trans e, s.nw⟩
/-- a store; s0: the state when the value was asked for -/
theorem StS.setB {v : V} {b : B} (s0 : StS W F0 H0 Fb Fx ρ σ Hx) (e : Ext W Fx Hx F H) (m : MR W F H Hx v b) (i : Nat) : StS W F0 H0 Fb F (ρ.set i b) (σ.set i (some v)) H := by
  have s := s0.ext e
  have old : ∀ {j : Nat} {c : B}, i ≠ j → ∀ {a : Addr}, (ρ.set i b)[j]? = some c → (σ.set i (some v))[j]? = some (some (.ref a)) → ρ[j]? = some c ∧ σ[j]? = some (some (.ref a)) := fun {j c} hj {a} h1 h2 => by
    rw [List.getElem?_set_ne hj] at h1 h2
    exact ⟨h1, h2⟩
  have live : ∀ {j : Nat} {c : B} {a : Addr}, ρ[j]? = some c → c.live = true → σ[j]? = some (some (.ref a)) → ¬ New Hx a := fun {j c a} h1 lv h2 n => by
    obtain ⟨a', o, e1, e2, e3, _⟩ := (s0.st.sl j _ _ h1 h2).live lv
    cases e1
    exact n _ e2 e3
  have here : ∀ {c : B} {a : Addr}, (ρ.set i b)[i]? = some c → (σ.set i (some v))[i]? = some (some (.ref a)) → b = c ∧ v = .ref a := fun {c a} h1 h2 => by
    rw [List.getElem?_set] at h1 h2
    simp only [if_true] at h1 h2
    split at h1
    · split at h2
      · cases h1; cases h2; exact ⟨rfl, rfl⟩
      · cases h2
    · cases h1
  refine ⟨⟨s.st.f, s.st.g, by simp [s.st.len], fun j c w h1 h2 => ?_, fun j k a c c' h1 h2 l1 l2 h3 h4 => ?_⟩, s.g0, s.sm, s.ex, fun j c a h1 lv h2 => ?_⟩
  · by_cases hj : i = j
    · subst hj
      rw [List.getElem?_set] at h1 h2
      simp only [if_true] at h1 h2
      split at h1
      · split at h2
        · cases h1; cases h2; exact m.slot
        · cases h2
      · cases h1
    · rw [List.getElem?_set_ne hj] at h1 h2
      exact s.st.sl j c w h1 h2
  · by_cases hj : i = j
    · by_cases hk : i = k
      · rw [← hj, ← hk]
      · subst hj
        obtain ⟨rfl, rfl⟩ := here h1 h3
        obtain ⟨a1, a2⟩ := old hk h2 h4
        obtain ⟨a', z, _, n⟩ := m.live l1
        cases z
        exact absurd n (live a1 l2 a2)
    · by_cases hk : i = k
      · subst hk
        obtain ⟨rfl, rfl⟩ := here h2 h4
        obtain ⟨a1, a2⟩ := old hj h1 h3
        obtain ⟨a', z, _, n⟩ := m.live l2
        cases z
        exact absurd n (live a1 l1 a2)
      · obtain ⟨a1, a2⟩ := old hj h1 h3
        obtain ⟨b1, b2⟩ := old hk h2 h4
        exact s0.st.dj j k a c c' a1 b1 l1 l2 a2 b2
  · by_cases hj : i = j
    · subst hj
      obtain ⟨rfl, rfl⟩ := here h1 h2
      obtain ⟨a', z, hR, n⟩ := m.live lv
      cases z
      exact n.back s0.ex hR
    · obtain ⟨a1, a2⟩ := old hj h1 h2
      exact s0.nw j c a a1 lv a2
theorem SlotOk.liveK {v : Option V} {b : B} (h : SlotOk W F H v b) (l : b.live = true) : ∃ a o, v = some (.ref a) ∧ H a = some o ∧ ((∃ xs, o = .lst xs) ∨ ∃ vs, o = .dK vs) ∧ F a = none ∧ a ≠ W.R := by
  cases b with
  | val d => cases l
  | own xs =>
    obtain ⟨a, vs, h1, h2, h3, h4, _⟩ := h
    exact ⟨a, _, h1, h2, .inl ⟨_, rfl⟩, h3, h4⟩
  | dct kvs =>
    obtain ⟨a, vs, h1, h2, h3, h4, _⟩ := h
    exact ⟨a, _, h1, h2, .inr ⟨_, rfl⟩, h3, h4⟩
  | row => cases l
  | bad => cases l
/-- what is owned is written -/
theorem StS.writeG {b0 b1 : B} {o1 : HO} {i : Nat} {a : Addr} (s : StS W F0 H0 Fb F ρ σ H) (h1 : ρ[i]? = some b0) (l0 : b0.live = true) (l1 : b1.live = true) (h2 : σ[i]? = some (some (.ref a))) (hs1 : F a = none → a ≠ W.R → SlotOk W F (upd H a o1) (some (.ref a)) b1) : StS W F0 H0 Fb F (ρ.set i b1) σ (upd H a o1) := by
  obtain ⟨a', o0, e1, e2, e25, e3, e4⟩ := (s.st.sl i _ _ h1 h2).liveK l0
  cases e1
  have sb : FOk W F (upd H a o1) := ⟨fun b o q => by
    have hb : b ≠ a := fun z => by rw [z, e3] at q; cases q
    rw [upd_ne hb]; exact s.st.f.sub b o q, s.st.f.imm, s.st.f.nr⟩
  have gd : Good W (upd H a o1) := by
    obtain ⟨⟨⟨i, s1, gg, q1, hb⟩, ns, hs, hl⟩, t⟩ := s.st.g
    obtain ⟨⟨_, ns0, hs0, hl0⟩, _⟩ := s.g0
    refine ⟨⟨⟨i, s1, gg, by rw [upd_ne (Ne.symm e4)]; exact q1, hb⟩, ?_⟩, fun p hp => ?_⟩
    · rcases hs0 with ⟨hs0, _⟩ | hs0
      · have nS : W.S ≠ a := fun z => by
          rcases hs0 with h | ⟨o, h⟩
          · exact s.nw _ _ _ h1 l0 h2 _ (z ▸ h) (fun ps q => by cases q)
          · exact s.nw _ _ _ h1 l0 h2 _ (z ▸ h) (fun ps q => by cases q)
        exact ⟨ns, hs.imp fun o h _ _ => by rw [upd_ne nS]; exact h, hl⟩
      · exact ⟨ns0, .inr hs0, hl0⟩
    · obtain ⟨ps, t1, t2, t3⟩ := t p hp
      have n1 : p.1 ≠ a := fun z => by rw [z, e2] at t1; rcases e25 with ⟨_, rfl⟩ | ⟨_, rfl⟩ <;> cases t1
      refine ⟨ps, by rw [upd_ne n1]; exact t1, t2, fun pos cv h => ?_⟩
      obtain ⟨c, c1, c2⟩ := t3 pos cv h
      have n2 : c ≠ a := fun z => by rw [z, e2] at c2; rcases e25 with ⟨_, rfl⟩ | ⟨_, rfl⟩ <;> cases c2
      exact ⟨c, c1, by rw [upd_ne n2]; exact c2⟩
  refine ⟨⟨sb, gd, by simp [s.st.len], fun j c w q1 q2 => ?_, fun j k b c c' q1 q2 l1 l2 q3 q4 => ?_⟩, s.g0, s.sm, ⟨fun b o q1 q2 q3 => ?_, s.ex.sub, s.ex.fr, sb, gd⟩, fun j c b q1 lv q2 => ?_⟩
  · by_cases hj : i = j
    · subst hj
      rw [List.getElem?_set] at q1
      simp only [if_true] at q1
      split at q1
      · cases q1
        rw [h2] at q2
        cases q2
        exact hs1 e3 e4
      · cases q1
    · rw [List.getElem?_set_ne hj] at q1
      have q := s.st.sl j c w q1 q2
      cases c with
      | val d => exact q
      | own zs =>
        obtain ⟨b, us', rfl, r2, r3⟩ := q
        have : b ≠ a := fun z => by
          subst z
          exact hj (s.st.dj i j b _ _ h1 q1 l0 rfl h2 q2)
        exact ⟨b, us', rfl, by rw [upd_ne this]; exact r2, r3⟩
      | dct zs =>
        obtain ⟨b, us', rfl, r2, r3⟩ := q
        have : b ≠ a := fun z => by
          subst z
          exact hj (s.st.dj i j b _ _ h1 q1 l0 rfl h2 q2)
        exact ⟨b, us', rfl, by rw [upd_ne this]; exact r2, r3⟩
      | row => exact q
      | bad => exact q
  · have lift : ∀ {m : Nat} {ws : B}, (ρ.set i b1)[m]? = some ws → ws.live = true → ∃ ws', ρ[m]? = some ws' ∧ ws'.live = true := fun {m ws} q lw => by
      by_cases hm : i = m
      · subst hm; exact ⟨_, h1, l0⟩
      · rw [List.getElem?_set_ne hm] at q; exact ⟨_, q, lw⟩
    obtain ⟨w1, r1, r1'⟩ := lift q1 l1
    obtain ⟨w2, r2, r2'⟩ := lift q2 l2
    exact s.st.dj j k b _ _ r1 r2 r1' r2' q3 q4
  · have hb : b ≠ a := fun z => by
      subst z
      exact s.nw i _ b h1 l0 h2 o q1 q2
    rw [upd_ne hb]
    exact s.ex.keep b o q1 q2 q3
  · by_cases hj : i = j
    · subst hj
      rw [h2] at q2
      cases q2
      exact s.nw i _ a h1 l0 h2
    · rw [List.getElem?_set_ne hj] at q1
      exact s.nw j _ b q1 lv q2
/-- an owned list is written -/
theorem StS.write {xs ys : List PyData} {vs : List V} {i : Nat} {a : Addr} (s : StS W F0 H0 Fb F ρ σ H) (h1 : ρ[i]? = some (.own xs)) (h2 : σ[i]? = some (some (.ref a))) (d : Dats W.K F vs ys) (z : ys.length ≤ 16777216) : StS W F0 H0 Fb F (ρ.set i (.own ys)) σ (upd H a (.lst vs)) :=
  s.writeG h1 rfl rfl h2 fun e3 e4 => ⟨a, vs, rfl, upd_same, e3, e4, d, z⟩
/-- an owned dict is written -/
theorem StS.writeD {xs ys : List (Int × PyData)} {vs : List (Key × V)} {i : Nat} {a : Addr} (s : StS W F0 H0 Fb F ρ σ H) (h1 : ρ[i]? = some (.dct xs)) (h2 : σ[i]? = some (some (.ref a))) (d : KvD W.K F vs ys) (z : ys.length ≤ 16777216) : StS W F0 H0 Fb F (ρ.set i (.dct ys)) σ (upd H a (.dK vs)) :=
  s.writeG h1 rfl rfl h2 fun e3 e4 => ⟨a, vs, rfl, upd_same, e3, e4, d, z⟩
/-- an owned list is kept as data from now on -/
theorem StS.frz {xs : List PyData} {i : Nat} (s : StS W F0 H0 Fb F ρ σ H) (h1 : ownAt ρ i = some xs) : ∃ F', StS W F0 H0 Fb F' (ρ.set i (.val (.list xs))) σ H := by
  have h1 : ρ[i]? = some (.own xs) := by
    unfold ownAt at h1
    split at h1
    · rename_i e; cases h1; exact e
    · cases h1
  obtain ⟨w, h2, a, us, rfl, e2, e3, e4, e5, e6⟩ := s.st.slot h1
  have sm : Same F (upd F a (.lst us)) := fun b o q => by
    have hb : b ≠ a := fun z => by rw [z, e3] at q; cases q
    rw [upd_ne hb]; exact q
  refine ⟨upd F a (.lst us), ⟨Ext.frzOwn s.st.f s.st.g e2 e4, s.st.g, by simp [s.st.len], fun j c w q1 q2 => ?_, fun j k b c c' q1 q2 l1 l2 q3 q4 => ?_⟩, s.g0, s.sm.trans sm, ⟨s.ex.keep, s.ex.sub.trans sm, fun b o q1 q2 q3 => ?_, Ext.frzOwn s.st.f s.st.g e2 e4, s.st.g⟩, fun j c b q1 lv q2 => ?_⟩
  · by_cases hj : i = j
    · subst hj
      rw [List.getElem?_set] at q1
      simp only [if_true] at q1
      split at q1
      · cases q1
        rw [h2] at q2
        cases q2
        exact ⟨_, rfl, .lst upd_same (e5.mono sm) e6⟩
      · cases q1
    · rw [List.getElem?_set_ne hj] at q1
      have q := s.st.sl j c w q1 q2
      cases c with
      | val d => obtain ⟨x, r1, r2⟩ := q; exact ⟨x, r1, r2.mono sm⟩
      | own zs =>
        obtain ⟨b, us', rfl, r2, r3, r4, r5, r6⟩ := q
        have : b ≠ a := fun z => by
          subst z
          exact hj (s.st.dj i j b _ _ h1 q1 rfl rfl h2 q2)
        exact ⟨b, us', rfl, r2, by rw [upd_ne this]; exact r3, r4, r5.mono sm, r6⟩
      | dct zs =>
        obtain ⟨b, us', rfl, r2, r3, r4, r5, r6⟩ := q
        have : b ≠ a := fun z => by
          subst z
          exact hj (s.st.dj i j b _ _ h1 q1 rfl rfl h2 q2)
        exact ⟨b, us', rfl, r2, by rw [upd_ne this]; exact r3, r4, r5.mono sm, r6⟩
      | row => exact q
      | bad => exact q
  · have lift : ∀ {m : Nat} {ws : B}, (ρ.set i (.val (.list xs)))[m]? = some ws → ws.live = true → i ≠ m ∧ ρ[m]? = some ws := fun {m ws} q lw => by
      by_cases hm : i = m
      · subst hm
        rw [List.getElem?_set] at q
        simp only [if_true] at q
        split at q <;> cases q
        cases lw
      · rw [List.getElem?_set_ne hm] at q; exact ⟨hm, q⟩
    exact s.st.dj j k b _ _ (lift q1 l1).2 (lift q2 l2).2 l1 l2 q3 q4
  · have hb : b ≠ a := fun z => by
      subst z
      exact s.nw i _ b h1 rfl h2 o q2 q3
    rw [upd_ne hb]
    exact s.ex.fr b o q1 q2 q3
  · have hj : i ≠ j := fun z => by
      subst z
      rw [List.getElem?_set] at q1
      simp only [if_true] at q1
      split at q1 <;> cases q1
      cases lv
    rw [List.getElem?_set_ne hj] at q1
    exact s.nw j _ b q1 lv q2
end
end Dl

set_option Elab.async false
set_option linter.all false
set_option maxRecDepth 100000
set_option maxHeartbeats 8000000
/-! the data layer, part 20: statements, one by one -/
namespace Dl
open PySem PySem.Spec PyProof.Rows L2
structure CtxS (W : Wd) (Γ : Gam) (k : Nat) (EX : XK) (N : List Str) (sc : Scope) (l : Bool) (X : Cx) : Prop where
  ok : CtxOk W Γ k EX N sc l X
  fn : ∀ x, X.fn x = true
  kind : sc.kind = .function
  own : PassesOwn (model X.prog X.w) X.A X.env X.xe
theorem _root_.L2.PS.impD {X : Cx} {e : Stmt} {t t' : TS} (h : PS X e t) (i : ∀ D σ H, t' D σ H → t D σ H) : PS X e t' := ⟨fun pins s σ H D I q => h.run pins s σ H D I (i _ _ _ q)⟩
theorem _root_.L2.PSs.impD {X : Cx} {e : List Stmt} {t t' : TS} (h : PSs X e t) (i : ∀ D σ H, t' D σ H → t D σ H) : PSs X e t' := ⟨fun pins s σ H D I q => h.run pins s σ H D I (i _ _ _ q)⟩
structure EndsOk (W : Wd) (EX : XK) (F0 H0 Fb : Hp) (P : Post) (D : Ends) : Prop where
  nx : ∀ F ρ σ H, StS W F0 H0 Fb F ρ σ H → P.nx ρ → D.nx σ H
  rt : ∀ F d v H, Ext W F0 H0 F H → Dat W.K F v d → P.rt d → D.rt v H
  bk : ∀ F ρ σ H, StS W F0 H0 Fb F ρ σ H → P.bk ρ → D.bk σ H
  ct : ∀ F ρ σ H, StS W F0 H0 Fb F ρ σ H → P.ct ρ → D.ct σ H
  xc : XOK W EX F0 H0 P.xc
def tB (W : Wd) (Γ : Gam) (EX : XK) (b : S) : TS := fun D σ H => ∃ F0 H0 Fb F ρ P, StS W F0 H0 Fb F ρ σ H ∧ wpS Γ b ρ P ∧ EndsOk W EX F0 H0 Fb P D
def tBs (W : Wd) (Γ : Gam) (EX : XK) (b : SL) : TS := fun D σ H => ∃ F0 H0 Fb F ρ P, StS W F0 H0 Fb F ρ σ H ∧ wpSs Γ b ρ P ∧ EndsOk W EX F0 H0 Fb P D
def tM (W : Wd) (Γ : Gam) (EX : XK) (o : Bool) (e : E) : TE := fun σ H Q => ∃ F ρ K Xd, St W F ρ σ H ∧ wpM Γ o e ρ K Xd ∧ (∀ b v F' H', Ext W F H F' H' → MR W F' H' H v b → K b → Q v H') ∧ XOK W EX F H Xd
section
variable {W : Wd} {Γ : Gam} {EX : XK} {X : Cx} {k : Nat} {N : List Str} {sc : Scope} {l : Bool}
theorem New.ext {F H F' H' : Hp} {p : Addr} (e : Ext W F H F' H') (n : H' p = none) : New H p := fun o h t => by
  by_cases hR : p = W.R
  · exact e.gd.nR (hR ▸ n)
  · rw [e.keep p o h t hR] at n; cases n
theorem tZ_of_tM {e : E} {σ : L2.St} {H : Hp} {Q : VK} (h : tM W Γ EX true e σ H Q) : tZ W Γ EX e σ H Q := by
  obtain ⟨F, ρ, K, Xd, s, w, q, x⟩ := h
  refine ⟨F, ρ, _, Xd, s, w, fun d F' H' e ⟨xs, h1, h2⟩ => ?_, x⟩
  subst h1
  exact fun p vs n dd z => q (.own xs) _ F' _ (e.trans (Ext.new e.ok e.gd n)) ⟨p, vs, rfl, upd_same, e.ok.none n, fun z => e.gd.nR (z ▸ n), dd, z, New.ext e n⟩ h2
theorem tE_of_tM {e : E} {σ : L2.St} {H : Hp} {Q : VK} (h : tM W Γ EX false e σ H Q) : tE W Γ EX e σ H Q := by
  obtain ⟨F, ρ, K, Xd, s, w, q, x⟩ := h
  exact ⟨F, ρ, _, Xd, s, w, fun d v F' H' e r h1 => q (.val d) v F' H' e r h1, x⟩
theorem m_of {o : Bool} {e : E} {x : Expr} (h : Snd W Γ EX X e x) (hm : modeOk o e = true) : PE X x (tM W Γ EX o e) := by
  unfold modeOk at hm
  cases o with
  | true => exact (h.z hm).impD fun σ H Q q => tZ_of_tM q
  | false => exact (h.e (by simpa using hm)).impD fun σ H Q q => tE_of_tM q
theorem XOK.up {F0 H0 F H : Hp} {Xd : Str → Prop} (x : XOK W EX F0 H0 Xd) (e : Ext W F0 H0 F H) : XOK W EX F H Xd := x.ext e
/-! ### stores of a name -/
theorem nm_of {i : Nat} {x : Str} (C : CtxS W Γ k EX N sc l X) (h : nmOk N sc i x = true) : X.N[i]? = some x ∧ Loc X.env.scope x := by
  unfold nmOk at h
  simp only [Bool.and_eq_true, decide_eq_true_eq] at h
  exact ⟨by rw [C.ok.hN]; exact h.1, by rw [C.ok.hsc]; exact loc_of h.2⟩
theorem set_imp {o : Bool} {i : Nat} {e : E} {D : Ends} {σ : L2.St} {H : Hp} (h : tB W Γ EX (.set o i e) D σ H) : tAsg (tM W Γ EX o e) (gName i) D σ H := by
  obtain ⟨F0, H0, Fb, F, ρ, P, s, w, q⟩ := h
  have w : wpM Γ o e ρ (fun b => P.nx (ρ.set i b)) P.xc := w
  exact ⟨F, ρ, _, _, s.st, w, fun b v F' H' e1 m h1 => q.nx _ _ _ _ (s.setB e1 m i) h1, q.xc.ext s.ex⟩
/-- a comprehension's value kept under a local's name on the same line -/
theorem setLc (C : CtxS W Γ k EX N sc l X) {e : E} {elt : Expr} {gs : List Comprehension} {scope : Scope} {pos spos px : Pos} {i : Nat} {x : Str} (hi : X.N[i]? = some x) (hl : X.env.scope.names.lookup x = some .local)
    (hsw : swapsWith (.ListComp elt gs scope pos) (some (.Name x px)) spos.line X.env = pure true) (h : chkE N sc l e (.ListComp elt gs scope pos) = true) : PS X (.Assign [.Name x px] (.ListComp elt gs scope pos) spos) (tAsg (tZ W Γ EX e) (gName i)) := by
  cases e <;> try (cases h; done)
  rotate_left 2
  · rename_i f a
    cases f <;> cases h
  · rename_i kd i a
    cases kd <;> cases h
  · rename_i elt' own tg it cs
    match gs, h with
    | [], h => cases h
    | ⟨_, _, _, _⟩ :: ⟨_, _, _, _⟩ :: _, h => cases h
    | [⟨tx, ix, ifs, n⟩], h =>
      have h : (decide (n = 0) && blkC N sc scope own && chkI N sc l it tx ix && !isSetD ix && chkP N (relS scope sc) (stBlk scope sc) tg tx && decide (∀ i ∈ tg.slots, i ∈ own.map (·.2)) &&
        chkTs N (relS scope sc) cs ifs && chkE N (relS scope sc) false elt' elt && !elt'.isRd) = true := h
      simp only [Bool.and_eq_true, decide_eq_true_eq, Bool.not_eq_true'] at h
      obtain ⟨⟨⟨⟨⟨⟨⟨⟨rfl, h1⟩, h2⟩, h3⟩, h4⟩, h5⟩, h6⟩, h7⟩, h8⟩ := h
      have C := C.ok
      refine (ps_setLc C.calm (by rw [C.hN]; exact C.nd) hi hl hsw (sndI it C tx ix h2) (by rw [C.hN, C.hsc]; exact blkOk_by h1)
        (fun s H L cl fp => blkP C s H cl L fp h4) (fun s H L cl fp => sndTs cs (C.blk s H cl L fp) ifs h6) (fun s H L cl fp => (snd elt' (C.blk s H cl L fp) elt h7).e h8) (no_fold h3 X.env)).impD fun D σ H q => ?_
      exact lc_imp h5 q
  · rename_i elt' own tg it cs vs1 tg1 it1 cs1
    match gs, h with
    | [], h => cases h
    | [⟨_, _, _, _⟩], h => cases h
    | ⟨_, _, _, _⟩ :: ⟨_, _, _, _⟩ :: ⟨_, _, _, _⟩ :: _, h => cases h
    | [⟨tx, ix, ifs, n⟩, ⟨tx1, ix1, ifs1, n1⟩], h =>
      have h : (decide (n = 0) && decide (n1 = 0) && blkC N sc scope own && chkI N sc l it tx ix && !isSetD ix && chkP N (relS scope sc) (stBlk scope sc) tg tx && decide (∀ i ∈ tg.slots, i ∈ own.map (·.2)) &&
        chkTs N (relS scope sc) cs ifs && chkI N (relS scope sc) false it1 tx1 ix1 && !isSetD ix1 && chkP N (relS scope sc) (stBlk scope sc) tg1 tx1 && decide (∀ i ∈ tg1.slots, i ∈ vs1) && decide (∀ i ∈ vs1, i ∈ own.map (·.2)) &&
        chkTs N (relS scope sc) cs1 ifs1 && chkE N (relS scope sc) false elt' elt && !elt'.isRd) = true := h
      simp only [Bool.and_eq_true, decide_eq_true_eq, Bool.not_eq_true'] at h
      obtain ⟨⟨⟨⟨⟨⟨⟨⟨⟨⟨⟨⟨⟨⟨⟨rfl, rfl⟩, h1⟩, h2⟩, h3⟩, h4⟩, h5⟩, h6⟩, h7⟩, h8⟩, h9⟩, h10⟩, h11⟩, h12⟩, h13⟩, h14⟩ := h
      have C := C.ok
      refine (ps_setLc2 C.calm (by rw [C.hN]; exact C.nd) hi hl hsw (sndI it C tx ix h2) (by rw [C.hN, C.hsc]; exact blkOk_by h1) h11
        (fun s H L cl fp => blkP C s H cl L fp h4) (fun s H L cl fp => sndTs cs (C.blk s H cl L fp) ifs h6) (fun s H L cl fp => sndI it1 (C.blk s H cl L fp) tx1 ix1 h7) (fun s H L cl fp => blkP C s H cl L fp h9) (fun s H L cl fp => sndTs cs1 (C.blk s H cl L fp) ifs1 h12)
        (fun s H L cl fp => (snd elt' (C.blk s H cl L fp) elt h13).e h14) (no_fold h3 X.env) (fun env => no_fold h8 env)).impD fun D σ H q => ?_
      exact lc2_imp h5 h10 h11 q
theorem asg_z {o : Bool} {e : E} {i : Nat} {D : Ends} {σ : L2.St} {H : Hp} (h : tAsg (tM W Γ EX o e) (gName i) D σ H) : tAsg (tZ W Γ EX e) (gName i) D σ H := by
  cases o with
  | true => exact tZ_of_tM h
  | false => exact tE_of_tZ (tE_of_tM h)
theorem b_set (C : CtxS W Γ k EX N sc l X) {o : Bool} {i : Nat} {e : E} {x : Str} {px pos : Pos} {v : Expr} (hn : nmOk N sc i x = true) (hsw : lcSw sc x px v = true) (hm : modeOk o e = true) (h : chkE N sc l e v = true) : PS X (.Assign [.Name x px] v pos) (tB W Γ EX (.set o i e)) := by
  obtain ⟨hi, hx⟩ := nm_of C hn
  have hN : X.N.Nodup := by rw [C.ok.hN]; exact C.ok.nd
  have plain : swapsWith v (some (.Name x px)) pos.line X.env = pure false → PS X (.Assign [.Name x px] v pos) (tB W Γ EX (.set o i e)) := fun hs =>
    (ps_set hN hi hx (m_of (snd e C.ok v h) hm) hs (.inl (C.fn x))).impD fun D σ H q => set_imp q
  by_cases hc : isComp v = true
  · cases v <;> first | (cases hc; done) | (cases hsw; done) | skip
    case ListComp elt gs scope cpos =>
      have hsw : ((decide (sc.names.lookup x = some .local) && (px.line == cpos.line) && lcNo scope x) || decide (sc.names.lookup x = some .cell) || (decide (sc.names.lookup x = some .local) && !(px.line == cpos.line))) = true := hsw
      simp only [Bool.or_eq_true, Bool.and_eq_true, decide_eq_true_eq, Bool.not_eq_true'] at hsw
      rcases hsw with (⟨⟨a1, a2⟩, a3⟩ | a) | ⟨_, a⟩
      · have hl : X.env.scope.names.lookup x = some .local := by rw [C.ok.hsc]; exact a1
        have hsw : swapsWith (.ListComp elt gs scope cpos) (some (.Name x px)) pos.line X.env = pure true := sw_true (by rw [C.ok.hsc]; exact C.kind) hl a2 (by unfold lcNo at a3; simpa using a3)
        exact (setLc C hi hl hsw h).impD fun D σ H q => asg_z (set_imp q)
      · exact plain (sw_other (.inl (by rw [C.ok.hsc]; exact a)))
      · exact plain (sw_other (.inr a))
  · exact plain (no_swap (by simpa using hc) _ _ _)
end
end Dl

set_option Elab.async false
set_option linter.all false
set_option maxRecDepth 100000
set_option maxHeartbeats 8000000
/-! the data layer, part 21: statements, more -/
namespace Dl
open PySem PySem.Spec PyProof.Rows L2
section
variable {W : Wd} {Γ : Gam} {EX : XK} {X : Cx} {k : Nat} {N : List Str} {sc : Scope} {l : Bool}
theorem StS.bind {F0 H0 Fb F H : Hp} {ρ ρ' : Env1} {σ σ' : L2.St} {p : Pat} {d : PyData} (s : StS W F0 H0 Fb F ρ σ H) (hb : bindP p d ρ = some ρ') (s' : St W F ρ' σ' H) (o : SlotsOnly p.slots σ σ') : StS W F0 H0 Fb F ρ' σ' H :=
  ⟨s', s.g0, s.sm, s.ex, fun j xs a h1 lv h2 => by
    obtain ⟨n, h3⟩ := bindP_own p d ρ ρ' hb j xs h1 lv
    rw [← wipe_at n, o p.slots fun _ z => z, wipe_at n] at h2
    exact s.nw j xs a h3 lv h2⟩
theorem sndPS (C : CtxS W Γ k EX N sc l X) {p : Pat} {x : Expr} (h : chkP N sc stAll p x = true) : PG X x (gP W p) := sndP C.ok.hK C.ok.hN C.ok.nd C.ok.hsc C.ok.calm (fun x _ _ => .inl (C.fn x)) p x h
theorem b_asg (C : CtxS W Γ k EX N sc l X) {p : Pat} {e : E} {ts : List Expr} {j : Nat} {tp pos : Pos} {v : Expr} (hs : swappedStores [.Tuple ts j tp] v X.env = pure none) (hc : isComp v = false) (hr : e.isRd = false) (hp : chkP N sc stAll p (.Tuple ts j tp) = true) (h : chkE N sc l e v = true) :
    PS X (.Assign [.Tuple ts j tp] v pos) (tB W Γ EX (.asg p e)) := by
  refine (ps_asg ((snd e C.ok v h).e hr) (sndPS C hp) (no_swap hc (some (.Tuple ts j tp)) pos.line X.env) hs rfl).impD fun D σ H q => ?_
  obtain ⟨F0, H0, Fb, F, ρ, P, s, w, q⟩ := q
  have w : wpE Γ e ρ (fun d => opt (bindP p d ρ) P.nx) P.xc := w
  refine ⟨F, ρ, _, _, s.st, w, fun d v F' H' e1 r ⟨ρ', hb, h1⟩ => ?_, q.xc.ext s.ex⟩
  exact ⟨F', ρ, d, ρ', s.st.ext e1, r, hb, fun σ' s' o => q.nx _ _ _ _ ((s.ext e1).bind hb s' o) h1⟩
theorem b_par2 (C : CtxS W Γ k EX N sc l X) {o1 o2 : Bool} {i1 i2 : Nat} {e1 e2 : E} {x y : Str} {px py pt pt2 pos : Pos} {kt k2 : Nat} {a b : Expr} (h1 : nmOk N sc i1 x = true) (h2 : nmOk N sc i2 y = true) (l1 : isLoc sc x = true) (l2 : isLoc sc y = true) (hl : (px.line == py.line) = true) (hxy : x ≠ y) (hp : parOk [a, b] = true)
    (m1 : modeOk o1 e1 = true) (m2 : modeOk o2 e2 = true) (c1 : chkE N sc l e1 a = true) (c2 : chkE N sc l e2 b = true) : PS X (.Assign [.Tuple [.Name x px, .Name y py] kt pt] (.Tuple [a, b] k2 pt2) pos) (tB W Γ EX (.par2 o1 i1 e1 o2 i2 e2)) := by
  obtain ⟨n1, _⟩ := nm_of C h1
  obtain ⟨n2, _⟩ := nm_of C h2
  unfold isLoc at l1 l2
  rw [decide_eq_true_eq] at l1 l2
  have hk : X.env.scope.kind = .function := by rw [C.ok.hsc]; exact C.kind
  have lx : X.env.scope.names.lookup x = some .local := by rw [C.ok.hsc]; exact l1
  have ly : X.env.scope.names.lookup y = some .local := by rw [C.ok.hsc]; exact l2
  have hij : i1 ≠ i2 := fun z => by rw [z, n2] at n1; cases n1; exact hxy rfl
  have hst : noStars [a, b] = true := by unfold parOk at hp; simp only [Bool.and_eq_true] at hp; exact hp.1.1
  unfold noStars at hst
  simp only [List.all_cons, List.all_nil, Bool.and_true, Bool.and_eq_true, Bool.not_eq_true'] at hst
  have ha := pa_cons (m_of (snd e1 C.ok a c1) m1) (pa_cons (m_of (snd e2 C.ok b c2) m2) pa_nil (star_ok hst.2 [] X.env)) (star_ok hst.1 [b] X.env)
  refine (ps_par C.ok.calm (by rw [C.ok.hN]; exact C.ok.nd) n1 n2 hij lx ly ha (stores2 hk lx ly hl hxy hp) rfl).impD fun D σ H q => ?_
  obtain ⟨F0, H0, Fb, F, ρ, P, s, w, q⟩ := q
  have w : wpM Γ o1 e1 ρ (fun b1 => wpM Γ o2 e2 ρ (fun b2 => P.nx ((ρ.set i1 b1).set i2 b2)) P.xc) P.xc := w
  refine ⟨F, ρ, _, _, s.st, w, fun b1 v1 F1 H1 x1 r1 w1 => ?_, q.xc.ext s.ex⟩
  refine ⟨F1, ρ, _, _, s.st.ext x1, w1, fun b2 v2 F2 H2 x2 r2 w2 => ?_, (q.xc.ext s.ex).ext x1⟩
  exact ⟨v1, v2, rfl, q.nx _ _ _ _ ((s.setB x1 r1 i1).setB x2 r2 i2) w2⟩
theorem b_par2c (C : CtxS W Γ k EX N sc l X) {o1 o2 : Bool} {i1 i2 : Nat} {e1 e2 : E} {x y : Str} {px py pt pt2 pos : Pos} {kt k2 : Nat} {a b : Expr} (h1 : nmOk N sc i1 x = true) (h2 : nmOk N sc i2 y = true) (hl : (!isLoc sc x || !isLoc sc y) = true) (hp : parOk [a, b] = true)
    (m1 : modeOk o1 e1 = true) (m2 : modeOk o2 e2 = true) (c1 : chkE N sc l e1 a = true) (c2 : chkE N sc l e2 b = true) : PS X (.Assign [.Tuple [.Name x px, .Name y py] kt pt] (.Tuple [a, b] k2 pt2) pos) (tB W Γ EX (.par2 o1 i1 e1 o2 i2 e2)) := by
  obtain ⟨n1, x1⟩ := nm_of C h1
  obtain ⟨n2, y1⟩ := nm_of C h2
  have hN : X.N.Nodup := by rw [C.ok.hN]; exact C.ok.nd
  have hst : noStars [a, b] = true := by unfold parOk at hp; simp only [Bool.and_eq_true] at hp; exact hp.1.1
  unfold noStars at hst
  simp only [List.all_cons, List.all_nil, Bool.and_true, Bool.and_eq_true, Bool.not_eq_true'] at hst
  have hcell : hasCell X.env.scope [.Name x px, .Name y py] = true := by
    rw [C.ok.hsc]
    unfold isLoc at hl
    unfold hasCell
    simp only [List.any_cons, List.any_nil, Bool.or_false]
    exact hl
  have ha := pa_cons (m_of (snd e1 C.ok a c1) m1) (pa_cons (m_of (snd e2 C.ok b c2) m2) pa_nil (star_ok hst.2 [] X.env)) (star_ok hst.1 [b] X.env)
  have hg : PG X (.Tuple [.Name x px, .Name y py] kt pt) _ := pg_tup C.ok.calm (pgs_cons (pg_name hN n1 x1 (.inl (C.fn x))) (pgs_cons (pg_name hN n2 y1 (.inl (C.fn y))) pgs_nil))
  refine (ps_asg (pe_tup (x1 := k2) (pos := pt2) ha) hg rfl (stores_cell hcell) rfl).impD fun D σ H q => ?_
  obtain ⟨F0, H0, Fb, F, ρ, P, s, w, q⟩ := q
  have w : wpM Γ o1 e1 ρ (fun b1 => wpM Γ o2 e2 ρ (fun b2 => P.nx ((ρ.set i1 b1).set i2 b2)) P.xc) P.xc := w
  refine ⟨F, ρ, _, _, s.st, w, fun b1 v1 F1 H1 x1 r1 w1 => ?_, q.xc.ext s.ex⟩
  refine ⟨F1, ρ, _, _, s.st.ext x1, w1, fun b2 v2 F2 H2 x2 r2 w2 => ⟨by rw [sizeLine_eq]; simp, fun p hp => ?_⟩, (q.xc.ext s.ex).ext x1⟩
  have x3 := Ext.new (o := .tup [v1, v2]) x2.ok x2.gd hp
  exact ⟨p, [v1, v2], rfl, .inl (.inl upd_same), rfl, v1, [v2], rfl, v2, [], rfl, rfl, q.nx _ _ _ _ (((s.setB x1 r1 i1).setB x2 r2 i2).ext x3) w2⟩
theorem b_par3 (C : CtxS W Γ k EX N sc l X) {o1 o2 o3 : Bool} {i1 i2 i3 : Nat} {e1 e2 e3 : E} {x y z : Str} {px py pz pt pt2 pos : Pos} {kt k2 : Nat} {a b c : Expr} (h1 : nmOk N sc i1 x = true) (h2 : nmOk N sc i2 y = true) (h3 : nmOk N sc i3 z = true) (l1 : isLoc sc x = true) (l2 : isLoc sc y = true) (l3 : isLoc sc z = true)
    (hl : (px.line == py.line) = true) (hl2 : (px.line == pz.line) = true) (hxy : x ≠ y) (hxz : x ≠ z) (hyz : y ≠ z) (hp : parOk [a, b, c] = true)
    (m1 : modeOk o1 e1 = true) (m2 : modeOk o2 e2 = true) (m3 : modeOk o3 e3 = true) (c1 : chkE N sc l e1 a = true) (c2 : chkE N sc l e2 b = true) (c3 : chkE N sc l e3 c = true) :
    PS X (.Assign [.Tuple [.Name x px, .Name y py, .Name z pz] kt pt] (.Tuple [a, b, c] k2 pt2) pos) (tB W Γ EX (.par3 o1 i1 e1 o2 i2 e2 o3 i3 e3)) := by
  obtain ⟨n1, _⟩ := nm_of C h1
  obtain ⟨n2, _⟩ := nm_of C h2
  obtain ⟨n3, _⟩ := nm_of C h3
  unfold isLoc at l1 l2 l3
  rw [decide_eq_true_eq] at l1 l2 l3
  have hk : X.env.scope.kind = .function := by rw [C.ok.hsc]; exact C.kind
  have lx : X.env.scope.names.lookup x = some .local := by rw [C.ok.hsc]; exact l1
  have ly : X.env.scope.names.lookup y = some .local := by rw [C.ok.hsc]; exact l2
  have lz : X.env.scope.names.lookup z = some .local := by rw [C.ok.hsc]; exact l3
  have hij : i1 ≠ i2 := fun z => by rw [z, n2] at n1; cases n1; exact hxy rfl
  have hil : i1 ≠ i3 := fun z => by rw [z, n3] at n1; cases n1; exact hxz rfl
  have hjl : i2 ≠ i3 := fun z => by rw [z, n3] at n2; cases n2; exact hyz rfl
  have hst : noStars [a, b, c] = true := by unfold parOk at hp; simp only [Bool.and_eq_true] at hp; exact hp.1.1
  unfold noStars at hst
  simp only [List.all_cons, List.all_nil, Bool.and_true, Bool.and_eq_true, Bool.not_eq_true'] at hst
  have ha := pa_cons (m_of (snd e1 C.ok a c1) m1) (pa_cons (m_of (snd e2 C.ok b c2) m2) (pa_cons (m_of (snd e3 C.ok c c3) m3) pa_nil (star_ok hst.2.2 [] X.env)) (star_ok hst.2.1 [c] X.env)) (star_ok hst.1 [b, c] X.env)
  refine (ps_par3 C.ok.calm (by rw [C.ok.hN]; exact C.ok.nd) n1 n2 n3 hij hil hjl lx ly lz ha (stores3 hk lx ly lz hl hl2 hxy hxz hyz hp) rfl).impD fun D σ H q => ?_
  obtain ⟨F0, H0, Fb, F, ρ, P, s, w, q⟩ := q
  have w : wpM Γ o1 e1 ρ (fun b1 => wpM Γ o2 e2 ρ (fun b2 => wpM Γ o3 e3 ρ (fun b3 => P.nx (((ρ.set i1 b1).set i2 b2).set i3 b3)) P.xc) P.xc) P.xc := w
  refine ⟨F, ρ, _, _, s.st, w, fun b1 v1 F1 H1 x1 r1 w1 => ?_, q.xc.ext s.ex⟩
  refine ⟨F1, ρ, _, _, s.st.ext x1, w1, fun b2 v2 F2 H2 x2 r2 w2 => ?_, (q.xc.ext s.ex).ext x1⟩
  refine ⟨F2, ρ, _, _, (s.st.ext x1).ext x2, w2, fun b3 v3 F3 H3 x3 r3 w3 => ?_, ((q.xc.ext s.ex).ext x1).ext x2⟩
  exact ⟨v1, v2, v3, rfl, q.nx _ _ _ _ (((s.setB x1 r1 i1).setB x2 r2 i2).setB x3 r3 i3) w3⟩
theorem b_aug (C : CtxS W Γ k EX N sc l X) {op : Operator} {i : Nat} {e : E} {x : Str} {px pos : Pos} {v : Expr} (ho : op = .Add ∨ op = .Sub) (hn : nmOk N sc i x = true) (hr : e.isRd = false) (h : chkE N sc l e v = true) : PS X (.AugAssign (.Name x px) op v pos) (tB W Γ EX (.aug op i e)) := by
  obtain ⟨hi, hx⟩ := nm_of C hn
  have hN : X.N.Nodup := by rw [C.ok.hN]; exact C.ok.nd
  have fin : ∀ {f : Int → Int → Int}, (∀ d d' r, augSem op d d' = some r → ∃ a b, d = .int a ∧ d' = .int b ∧ r = .int (f a b)) → ∀ D σ H, tB W Γ EX (.aug op i e) D σ H → tAug i (tE W Γ EX e) (ipI f) D σ H := fun {f} hf D σ H q => by
    obtain ⟨F0, H0, Fb, F, ρ, P, s, w, q⟩ := q
    obtain ⟨d, hd, w⟩ : opt (valAt ρ i) fun d => wpE Γ e ρ (fun d' => opt (augSem op d d') fun r => P.nx (ρ.set i (.val r))) P.xc := w
    obtain ⟨u, h1, h2⟩ := s.st.val hd
    refine ⟨u, h1, F, ρ, _, _, s.st, w, fun d' v' F' H' x1 r1 ⟨r, w1, w2⟩ => ?_, q.xc.ext s.ex⟩
    obtain ⟨a, b, rfl, rfl, rfl⟩ := hf _ _ _ w1
    cases h2
    cases r1
    exact ⟨a, b, rfl, rfl, q.nx _ _ _ _ (s.setB x1 (b := .val (.int (f a b))) (Dat.int _) i) w2⟩
  have he := (snd e C.ok v h).e hr
  rcases ho with rfl | rfl
  · refine (ps_aug hN hi hx he ip_add (.inl (C.fn x))).impD (fin fun d d' r hs => ?_)
    cases d <;> cases d' <;> first | (cases hs; done) | (cases hs; exact ⟨_, _, rfl, rfl, rfl⟩)
  · refine (ps_aug hN hi hx he ip_sub (.inl (C.fn x))).impD (fin fun d d' r hs => ?_)
    cases d <;> cases d' <;> first | (cases hs; done) | (cases hs; exact ⟨_, _, rfl, rfl, rfl⟩)
theorem b_ex (C : CtxS W Γ k EX N sc l X) {e : E} {pos : Pos} {v : Expr} (hc : isComp v = false) (hr : e.isRd = false) (h : chkE N sc l e v = true) : PS X (.Expr v pos) (tB W Γ EX (.ex e)) := by
  refine (ps_expr ((snd e C.ok v h).e hr) (no_swap hc none pos.line X.env)).impD fun D σ H q => ?_
  obtain ⟨F0, H0, Fb, F, ρ, P, s, w, q⟩ := q
  have w : wpE Γ e ρ (fun _ => P.nx ρ) P.xc := w
  exact ⟨F, ρ, _, _, s.st, w, fun d v F' H' e1 r h1 => q.nx _ _ _ _ (s.ext e1) h1, q.xc.ext s.ex⟩
theorem b_ret (C : CtxS W Γ k EX N sc l X) {e : E} {pos : Pos} {v : Expr} (hr : e.isRd = false) (h : chkE N sc l e v = true) : PS X (.Return (some v) pos) (tB W Γ EX (.ret e)) := by
  refine (ps_ret ((snd e C.ok v h).e hr)).impD fun D σ H q => ?_
  obtain ⟨F0, H0, Fb, F, ρ, P, s, w, q⟩ := q
  have w : wpE Γ e ρ P.rt P.xc := w
  exact ⟨F, ρ, _, _, s.st, w, fun d v F' H' e1 r h1 => q.rt _ _ _ _ (s.ex.trans e1) r h1, q.xc.ext s.ex⟩
end
end Dl

set_option Elab.async false
set_option linter.all false
set_option maxRecDepth 100000
set_option maxHeartbeats 8000000
/-! the data layer, part 22: lists that are written, branches, loops; all statements -/
namespace Dl
open PySem PySem.Spec PyProof.Rows L2
section
variable {W : Wd} {Γ : Gam} {EX : XK} {X : Cx} {k : Nat} {N : List Str} {sc : Scope} {l : Bool}
theorem own_at {ρ : Env1} {i : Nat} {xs : List PyData} (h : ownAt ρ i = some xs) : ρ[i]? = some (.own xs) := by
  unfold ownAt at h
  split at h
  · rename_i e; cases h; exact e
  · cases h
theorem var_of (C : CtxS W Γ k EX N sc l X) {i : Nat} {x : Str} {pos : Pos} (h : chkVar N sc i x = true) : PE X (.Name x pos) (tVar i) := by
  unfold chkVar nameOk at h
  simp only [Bool.and_eq_true, decide_eq_true_eq, Bool.not_eq_true'] at h
  exact pe_var (by rw [C.ok.hN]; exact h.1.1) (by rw [C.ok.hsc]; exact vis_of h.1.2) h.2.1.1 h.2.1.2
theorem few1 {v : Expr} {cp : Pos} (hs : isStar v = false) : ((backTo cp (starEach [v] X.env)).all (fun x => !x.1) && (backToKw cp (keywordEach [] X.env)).all (fun x => x.1.isSome)
      && decide (([v] : List Expr).length + ([] : List Keyword).length + (if ([] : List Keyword).isEmpty then 0 else 1) < 30)) = true := by
  rw [star_ok hs]; rfl
theorem b_app (C : CtxS W Γ k EX N sc l X) {i : Nat} {e : E} {x m : Str} {px ap cp pos : Pos} {v : Expr} (hm : m = "append") (hl : (ap.endLine == cp.line) = true) (hs : isStar v = false) (hx : chkVar N sc i x = true) (hr : e.isRd = false) (h : chkE N sc l e v = true) :
    PS X (.Expr (.Call (.Attribute (.Name x px) m ap) [v] [] cp) pos) (tB W Γ EX (.app i e)) := by
  subst hm
  refine (ps_expr (pe_bm PySem.F.plainAttrs_list PySem.F.slot_list_append PySem.F.type_list_append mt_append (var_of C hx) (pa_cons ((snd e C.ok v h).e hr) pa_nil (star_ok hs [] X.env)) rfl (few1 hs) hl (star_ok hs [] X.env) rfl) rfl).impD fun D σ H q => ?_
  obtain ⟨F0, H0, Fb, F, ρ, P, s, w, q⟩ := q
  obtain ⟨xs, ho, w⟩ : opt (ownAt ρ i) fun xs => wpE Γ e ρ (fun d => xs.length < 16777216 ∧ P.nx (ρ.set i (.own (xs ++ [d])))) P.xc := w
  obtain ⟨a, vs, e1, e2, e3, e4, e5, e6⟩ := s.st.own ho
  refine ⟨_, e1, .inl ⟨rfl, vs, .inl (.inl e2)⟩, F, ρ, _, _, s.st, w, fun d v F' H' x1 r ⟨h1, h2⟩ => ?_, q.xc.ext s.ex⟩
  refine ⟨a, vs, v, rfl, rfl, x1.keep _ _ e2 (fun ps z => by cases z) e4, ?_, ?_⟩
  · rw [e5.length, sizeLine_eq]; omega
  · exact q.nx _ _ _ _ ((s.ext x1).write (own_at ho) e1 ((e5.mono x1.sub).append (.cons r .nil)) (by simp; omega)) h2
theorem b_ext (C : CtxS W Γ k EX N sc l X) {i : Nat} {e : E} {x m : Str} {px ap cp pos : Pos} {v : Expr} (hm : m = "extend") (hl : (ap.endLine == cp.line) = true) (hs : isStar v = false) (hx : chkVar N sc i x = true) (h : chkE N sc l e v = true) :
    PS X (.Expr (.Call (.Attribute (.Name x px) m ap) [v] [] cp) pos) (tB W Γ EX (.ext i e)) := by
  subst hm
  refine (ps_expr (pe_bm PySem.F.plainAttrs_list PySem.F.slot_list_extend PySem.F.type_list_extend mt_extend (var_of C hx) (pa_cons (snd e C.ok v h).r pa_nil (star_ok hs [] X.env)) rfl (few1 hs) hl (star_ok hs [] X.env) rfl) rfl).impD fun D σ H q => ?_
  obtain ⟨F0, H0, Fb, F, ρ, P, s, w, q⟩ := q
  obtain ⟨xs, ho, w⟩ : opt (ownAt ρ i) fun xs => wpE Γ e ρ (fun d => ∃ ys, d = .list ys ∧ xs.length + ys.length ≤ 16777216 ∧ P.nx (ρ.set i (.own (xs ++ ys)))) P.xc := w
  obtain ⟨a, vs, e1, e2, e3, e4, e5, e6⟩ := s.st.own ho
  refine ⟨_, e1, .inl ⟨rfl, vs, .inl (.inl e2)⟩, F, ρ, _, _, s.st, w, fun d v F' H' x1 r ⟨ys, h0, h1, h2⟩ => ?_, q.xc.ext s.ex⟩
  subst h0
  obtain ⟨b, us, rfl, g1, g2, g3⟩ := r.lst x1.ok
  refine ⟨a, b, vs, us, rfl, rfl, x1.keep _ _ e2 (fun ps z => by cases z) e4, g1, ?_, ?_⟩
  · rw [e5.length, g2.length, sizeLine_eq]; omega
  · exact q.nx _ _ _ _ ((s.ext x1).write (own_at ho) e1 ((e5.mono x1.sub).append g2) (by simp; omega)) h2
theorem b_popT (C : CtxS W Γ k EX N sc l X) {p : Pat} {i : Nat} {ts : List Expr} {j : Nat} {tp px ap cp pos : Pos} {x m : Str} (hm : m = "pop") (hl : (ap.endLine == cp.line) = true) (hx : chkVar N sc i x = true) (hp : chkP N sc stAll p (.Tuple ts j tp) = true) :
    PS X (.Assign [.Tuple ts j tp] (.Call (.Attribute (.Name x px) m ap) [] [] cp) pos) (tB W Γ EX (.mut i (.popT p))) := by
  subst hm
  refine (ps_asg (pe_bm0 PySem.F.plainAttrs_list PySem.F.slot_list_pop PySem.F.type_list_pop mt_pop (var_of C hx) rfl hl) (sndPS C hp) (no_swap (show isComp (.Call (.Attribute (.Name x px) ("pop" : Str) ap) [] [] cp) = false from rfl) (some (.Tuple ts j tp)) pos.line X.env) (stores_none rfl) rfl).impD fun D σ H q => ?_
  obtain ⟨F0, H0, Fb, F, ρ, P, s, w, q⟩ := q
  obtain ⟨xs, ho, d, hd, ρ', hb, w⟩ : opt (ownAt ρ i) fun xs => opt xs.getLast? fun d => opt (bindP p d (ρ.set i (.own xs.dropLast))) P.nx := w
  obtain ⟨a, vs, e1, e2, e3, e4, e5, e6⟩ := s.st.own ho
  have hd' : xs[xs.length - 1]? = some d := by rw [← List.getLast?_eq_getElem?]; exact hd
  obtain ⟨v, hv, rv⟩ := e5.get hd'
  refine ⟨_, e1, .inl ⟨rfl, vs, .inl (.inl e2)⟩, a, vs, v, rfl, rfl, e2, by rw [e5.length]; exact hv, ?_⟩
  have s' := s.write (own_at ho) e1 e5.dropLast (by simp; omega)
  exact ⟨F, _, d, ρ', s'.st, rv, hb, fun σ' s'' o => q.nx _ _ _ _ (s'.bind hb s'' o) w⟩
theorem b_popAt (C : CtxS W Γ k EX N sc l X) {i : Nat} {e : E} {x m : Str} {px ap cp pos : Pos} {v : Expr} (hm : m = "pop") (hl : (ap.endLine == cp.line) = true) (hs : isStar v = false) (hx : chkVar N sc i x = true) (h : chkE N sc l e v = true) :
    PS X (.Expr (.Call (.Attribute (.Name x px) m ap) [v] [] cp) pos) (tB W Γ EX (.mut i (.popAt e))) := by
  subst hm
  refine (ps_expr (pe_bm PySem.F.plainAttrs_list PySem.F.slot_list_pop PySem.F.type_list_pop mt_popAt (var_of C hx) (pa_cons (snd e C.ok v h).r pa_nil (star_ok hs [] X.env)) rfl (few1 hs) hl (star_ok hs [] X.env) rfl) rfl).impD fun D σ H q => ?_
  obtain ⟨F0, H0, Fb, F, ρ, P, s, w, q⟩ := q
  obtain ⟨xs, ho, w⟩ : opt (ownAt ρ i) fun xs => wpE Γ e ρ (fun d => ∃ k' n, d = .int k' ∧ ixN xs.length k' = some n ∧ P.nx (ρ.set i (.own (xs.eraseIdx n)))) P.xc := w
  obtain ⟨a, vs, e1, e2, e3, e4, e5, e6⟩ := s.st.own ho
  refine ⟨_, e1, .inl ⟨rfl, vs, .inl (.inl e2)⟩, F, ρ, _, _, s.st, w, fun d v F' H' x1 r ⟨k', n, h0, h1, h2⟩ => ?_, q.xc.ext s.ex⟩
  subst h0
  have := r.int
  subst this
  obtain ⟨g1, g2, g3, g4⟩ := ixN_seq h1
  obtain ⟨y, hy⟩ : ∃ y, vs[n]? = some y := ⟨_, List.getElem?_eq_getElem (by rw [e5.length]; exact g2)⟩
  refine ⟨a, vs, k', n, y, rfl, rfl, x1.keep _ _ e2 (fun ps z => by cases z) e4, by omega, by omega, by rw [e5.length]; exact g1, hy, ?_⟩
  exact q.nx _ _ _ _ ((s.ext x1).write (own_at ho) e1 ((e5.mono x1.sub).eraseIdx n) (by have := List.length_eraseIdx_le xs n; omega)) h2
theorem few2 {v u : Expr} {cp : Pos} (hs : isStar v = false) (hu : isStar u = false) : ((backTo cp (starEach [v, u] X.env)).all (fun x => !x.1) && (backToKw cp (keywordEach [] X.env)).all (fun x => x.1.isSome)
      && decide (([v, u] : List Expr).length + ([] : List Keyword).length + (if ([] : List Keyword).isEmpty then 0 else 1) < 30)) = true := by
  rw [star_ok hs, star_ok hu]; rfl
theorem b_ins (C : CtxS W Γ k EX N sc l X) {i : Nat} {e1' e : E} {x m : Str} {px ap cp pos : Pos} {v u : Expr} (hm : m = "insert") (hl : (ap.endLine == cp.line) = true) (hs : isStar v = false) (hu : isStar u = false) (hx : chkVar N sc i x = true) (hr : e.isRd = false) (h1 : chkE N sc l e1' v = true) (h : chkE N sc l e u = true) :
    PS X (.Expr (.Call (.Attribute (.Name x px) m ap) [v, u] [] cp) pos) (tB W Γ EX (.mut i (.ins e1' e))) := by
  subst hm
  refine (ps_expr (pe_bm PySem.F.plainAttrs_list PySem.F.slot_list_insert PySem.F.type_list_insert mt_insert (var_of C hx) (pa_cons (snd e1' C.ok v h1).r (pa_cons ((snd e C.ok u h).e hr) pa_nil (star_ok hu [] X.env)) (star_ok hs [u] X.env)) rfl (few2 hs hu) hl (star_ok hs [u] X.env) (by rw [star_ok hu]; rfl)) rfl).impD fun D σ H q => ?_
  obtain ⟨F0, H0, Fb, F, ρ, P, s, w, q⟩ := q
  obtain ⟨xs, ho, w⟩ : opt (ownAt ρ i) fun xs => wpE Γ e1' ρ (fun k => wpE Γ e ρ (fun d => ∃ n : Nat, k = .int (n : Nat) ∧ n ≤ xs.length ∧ xs.length < 16777216 ∧ P.nx (ρ.set i (.own (xs.take n ++ d :: xs.drop n)))) P.xc) P.xc := w
  obtain ⟨a, vs, e1, e2, e3, e4, e5, e6⟩ := s.st.own ho
  refine ⟨_, e1, .inl ⟨rfl, vs, .inl (.inl e2)⟩, F, ρ, _, _, s.st, w, fun g y F1 H1 x1 r1 w1 => ?_, q.xc.ext s.ex⟩
  refine ⟨F1, ρ, _, _, s.st.ext x1, w1, fun d v F2 H2 x2 r2 ⟨n, h0, h1, h2, h3⟩ => ?_, (q.xc.ext s.ex).ext x1⟩
  subst h0
  have := r1.int
  subst this
  have x3 := x1.trans x2
  refine ⟨a, vs, (n : Nat), v, rfl, rfl, x3.keep _ _ e2 (fun ps z => by cases z) e4, by rw [e5.length, sizeLine_eq]; omega, by omega, by omega, ?_⟩
  rw [Int.toNat_natCast]
  have e7 := e5.mono x3.sub
  refine q.nx _ _ _ _ ((s.ext x3).write (own_at ho) e1 (ys := xs.take n ++ d :: xs.drop n) ?_ (by simp; omega)) h3
  rw [List.append_assoc]
  exact (e7.take n).append (.cons r2 (e7.drop n))
def sSlP (to ta tb tv : TE) : TS := fun D σ H => tv σ H fun v H1 => to σ H1 fun x H2 => tPart ta σ H2 (fun l H3 => tPart tb σ H3 fun w H4 => ∃ p b xs ys m n, x = .ref p ∧ v = .ref b ∧ l = some m ∧ w = some n ∧ H4 p = some (.lst xs) ∧ H4 b = some (.lst ys) ∧ p ≠ b ∧ 0 ≤ m ∧ m ≤ n ∧ n ≤ xs.length ∧
  xs.length + ys.length ≤ sizeLine ∧ D.nx σ (upd H4 p (.lst (xs.take m.toNat ++ ys ++ xs.drop n.toNat))))
theorem ps_slput {X : Cx} {o a b value : Expr} {to ta tb tv : TE} {p2 pos' pos : Pos} (ho : PE X o to) (ha : PE X a ta) (hb : PE X b tb) (hv : PE X value tv) (hs : swapsWith value (some (.Subscript o (.Slice (some a) (some b) none p2) pos')) pos.line X.env = pure false) :
    PS X (.Assign [.Subscript o (.Slice (some a) (some b) none p2) pos'] value pos) (sSlP to ta tb tv) := by
  refine ⟨fun pins s σ H D I h => ?_⟩
  refine wpAny_Assign_Subscript (thn (hv.run pins s σ H _ I h) fun r s1 ⟨v, H1, I1, rv, q1⟩ => thn (ho.run pins s1 σ H1 _ I1 q1) fun u s2 ⟨x, H2, I2, rx, q2⟩ => wpAny_Slice (thn ((po_some ha).run pins s2 σ H2 _ I2 q2) fun vl s3 ⟨l, H3, I3, pl, q3⟩ => thn ((po_some hb).run pins s3 σ H3 _ I3 q3) fun vu s4 ⟨w, H4, I4, pu, q4⟩ => ?_)) hs
  rw [evalPart_none]
  refine wpAny_pure ?_
  obtain ⟨p, b', xs, ys, m, n, rfl, rfl, rfl, rfl, g1, g2, g3, g4, g5, g6, g7, q5⟩ := q4
  cases rx
  cases rv
  cases pl with
  | int _ t1 =>
    cases pu with
    | int _ t2 =>
      have I5 := I4.kept (t' := s4.toks) (h' := s4.heap.push { cls := .type "slice", data := .fields #[.int m t1, .int n t2, .none] }) fun b ob q => Heap.get?_push_of_some _ q
      exact set_slice I5 g1 g2 g3 (Heap.IsSliceOf.new ..) ⟨_, rfl⟩ ⟨_, rfl⟩ g4 g5 g6 g7 fun s' I' => ⟨σ, _, I', q5⟩
theorem b_slcp (C : CtxS W Γ k EX N sc l X) {i : Nat} {a b e : E} {x : Str} {px p2 tp pos : Pos} {ax bx v : Expr} (hc : isComp v = false) (hx : chkVar N sc i x = true) (hr : e.isRd = false) (h1 : chkE N sc l a ax = true) (h2 : chkE N sc l b bx = true) (h : chkE N sc l e v = true) :
    PS X (.Assign [.Subscript (.Name x px) (.Slice (some ax) (some bx) none p2) tp] v pos) (tB W Γ EX (.mut i (.slcp a b e))) := by
  refine (ps_slput (var_of C hx) (snd a C.ok ax h1).r (snd b C.ok bx h2).r ((snd e C.ok v h).e hr) (no_swap hc _ _ _)).impD fun D σ H q => ?_
  obtain ⟨F0, H0, Fb, F, ρ, P, s, w, q⟩ := q
  obtain ⟨xs, ho, w⟩ : opt (ownAt ρ i) fun xs => wpE Γ e ρ (fun d => wpE Γ a ρ (fun ka => ∃ m : Nat, ka = .int (m : Nat) ∧ wpE Γ b ρ (fun kb => ∃ (ys : List PyData) (n : Nat), d = .list ys ∧ kb = .int (n : Nat) ∧ m ≤ n ∧ n ≤ xs.length ∧ xs.length + ys.length ≤ 16777216 ∧ P.nx (ρ.set i (.own (xs.take m ++ ys ++ xs.drop n)))) P.xc) P.xc) P.xc := w
  obtain ⟨a', vs, e1, e2, e3, e4, e5, e6⟩ := s.st.own ho
  refine ⟨F, ρ, _, _, s.st, w, fun d v F1 H1 x1 r w1 => ?_, q.xc.ext s.ex⟩
  refine ⟨_, e1, F1, ρ, _, _, s.st.ext x1, w1, fun ka u F2 H2 x2 r2 ⟨m, h0, w2⟩ => ?_, (q.xc.ext s.ex).ext x1⟩
  subst h0
  have := r2.int
  subst this
  refine ⟨_, rfl, F2, ρ, _, _, (s.st.ext x1).ext x2, w2, fun kb t F3 H3 x3 r3 ⟨ys, n, g0, g1, g2, g3, g4, g5⟩ => ?_, ((q.xc.ext s.ex).ext x1).ext x2⟩
  subst g0 g1
  have := r3.int
  subst this
  have x23 := x2.trans x3
  have x13 := x1.trans x23
  cases r with
  | lst c1 c2 c3 =>
    rename_i b' us
    have fb : F3 b' = some (.lst us) := x23.sub _ _ c1
    have fa : F3 a' = none := x13.fr _ _ e3 e2 fun ps z => by cases z
    refine ⟨_, rfl, a', b', vs, us, (m : Nat), (n : Nat), rfl, rfl, rfl, rfl, x13.keep _ _ e2 (fun ps z => by cases z) e4, x13.ok.sub _ _ fb, fun z => (by rw [z, fb] at fa; cases fa), by omega, by omega, by rw [e5.length]; omega, by rw [e5.length, c2.length, sizeLine_eq]; omega, ?_⟩
    rw [Int.toNat_natCast, Int.toNat_natCast]
    have e7 := e5.mono x13.sub
    exact q.nx _ _ _ _ ((s.ext x13).write (own_at ho) e1 (ys := xs.take m ++ ys ++ xs.drop n) (((e7.take m).append (c2.mono x23.sub)).append (e7.drop n)) (by simp; omega)) g5
theorem b_popA (C : CtxS W Γ k EX N sc l X) {p : Pat} {i : Nat} {e : E} {t : Expr} {px ap cp pos : Pos} {x m : Str} {v : Expr} (hm : m = "pop") (hl : (ap.endLine == cp.line) = true) (hs : isStar v = false) (hx : chkVar N sc i x = true) (hp : chkP N sc stAll p t = true) (h : chkE N sc l e v = true) :
    PS X (.Assign [t] (.Call (.Attribute (.Name x px) m ap) [v] [] cp) pos) (tB W Γ EX (.mut i (.popA p e))) := by
  subst hm
  have ht : isStar t = false := by cases p <;> cases t <;> first | rfl | cases hp
  refine (ps_asg (pe_bm PySem.F.plainAttrs_list PySem.F.slot_list_pop PySem.F.type_list_pop mt_popAt (var_of C hx) (pa_cons (snd e C.ok v h).r pa_nil (star_ok hs [] X.env)) rfl (few1 hs) hl (star_ok hs [] X.env) rfl) (sndPS C hp) (no_swap (show isComp (.Call (.Attribute (.Name x px) ("pop" : Str) ap) [v] [] cp) = false from rfl) (some t) pos.line X.env) (stores_none rfl) (by rw [each_plain ht]; rfl)).impD fun D σ H q => ?_
  obtain ⟨F0, H0, Fb, F, ρ, P, s, w, q⟩ := q
  obtain ⟨xs, ho, w⟩ : opt (ownAt ρ i) fun xs => wpE Γ e ρ (fun k => ∃ k' n d, k = .int k' ∧ ixN xs.length k' = some n ∧ xs[n]? = some d ∧ opt (bindP p d (ρ.set i (.own (xs.eraseIdx n)))) P.nx) P.xc := w
  obtain ⟨a, vs, e1, e2, e3, e4, e5, e6⟩ := s.st.own ho
  refine ⟨_, e1, .inl ⟨rfl, vs, .inl (.inl e2)⟩, F, ρ, _, _, s.st, w, fun kd kv F' H' x1 r ⟨k', n, d, h0, h1, hd, ρ', hb, h2⟩ => ?_, q.xc.ext s.ex⟩
  subst h0
  have := r.int
  subst this
  obtain ⟨g1, g2, g3, g4⟩ := ixN_seq h1
  obtain ⟨y, hy, ry⟩ := e5.get hd
  refine ⟨a, vs, k', n, y, rfl, rfl, x1.keep _ _ e2 (fun ps z => by cases z) e4, by omega, by omega, by rw [e5.length]; exact g1, hy, ?_⟩
  have s' := (s.ext x1).write (own_at ho) e1 ((e5.mono x1.sub).eraseIdx n) (by have := List.length_eraseIdx_le xs n; omega)
  exact ⟨F', _, d, ρ', s'.st, ry.mono x1.sub, hb, fun σ' s'' o => q.nx _ _ _ _ (s'.bind hb s'' o) h2⟩
theorem b_put2 (C : CtxS W Γ k EX N sc l X) {i i2 : Nat} {j1 j2 e : E} {x u : Str} {px p1 pu p2 pt vp pos : Pos} {kt k2 : Nat} {jx ju : Expr} {vs : List Expr} (hx : chkVar N sc i x = true) (hu : chkVar N sc i2 u = true) (hne : i ≠ i2) (hjx : plainIx jx = true) (hju : plainIx ju = true) (hr : e.isRd = false) (h1 : chkE N sc l j1 jx = true) (h2 : chkE N sc l j2 ju = true) (h : chkE N sc l e (.Tuple vs k2 vp) = true) :
    PS X (.Assign [.Tuple [.Subscript (.Name x px) jx p1, .Subscript (.Name u pu) ju p2] kt pt] (.Tuple vs k2 vp) pos) (tB W Γ EX (.mut i (.put2 i2 j1 j2 e))) := by
  have g1 : PG X (.Subscript (.Name x px) jx p1) (gSub (tVar i) (tR W Γ EX j1) rSetL) := pg_sub (var_of C hx) (snd j1 C.ok jx h1).r set_list (by cases jx <;> first | (cases hjx; done) | (intro _; rfl))
  have g2 : PG X (.Subscript (.Name u pu) ju p2) (gSub (tVar i2) (tR W Γ EX j2) rSetL) := pg_sub (var_of C hu) (snd j2 C.ok ju h2).r set_list (by cases ju <;> first | (cases hju; done) | (intro _; rfl))
  refine (ps_asg ((snd e C.ok _ h).e hr) (pg_tup C.ok.calm (pgs_cons g1 (pgs_cons g2 pgs_nil))) (no_swap (show isComp (.Tuple vs k2 vp) = false from rfl) (some (.Tuple [.Subscript (.Name x px) jx p1, .Subscript (.Name u pu) ju p2] kt pt)) pos.line X.env) (stores_cell rfl) rfl).impD fun D σ H q => ?_
  obtain ⟨F0, H0, Fb, F, ρ, P, s, w, q⟩ := q
  obtain ⟨xs, ho, ys, ho2, w⟩ : opt (ownAt ρ i) fun xs => opt (ownAt ρ i2) fun ys => wpE Γ e ρ (fun d => ∃ d1 d2, d = .tuple [d1, d2] ∧ wpE Γ j1 ρ (fun k1 => ∃ k n, k1 = .int k ∧ ixN xs.length k = some n ∧ wpE Γ j2 (ρ.set i (.own (xs.set n d1))) (fun k2 => ∃ k' n', k2 = .int k' ∧ ixN ys.length k' = some n' ∧ P.nx ((ρ.set i (.own (xs.set n d1))).set i2 (.own (ys.set n' d2)))) P.xc) P.xc) P.xc := w
  refine ⟨F, ρ, _, _, s.st, w, fun d v F1 H1 x1 r ⟨d1, d2, hd, w1⟩ => ?_, q.xc.ext s.ex⟩
  subst hd
  have s1 := s.ext x1
  cases r with
  | tup t1 dd z =>
    rename_i ta ws
    cases dd with
    | cons r1 dd =>
      cases dd with
      | cons r2 dd =>
        cases dd
        refine ⟨ta, _, rfl, C.ok.hK ▸ (t1.mono x1.ok.sub).seq, rfl, _, _, rfl, ?_⟩
        obtain ⟨a, as, e1, e2, e3, e4, e5, e6⟩ := s1.st.own ho
        refine ⟨_, e1, F1, ρ, _, _, s1.st, w1, fun g y F2 H2 x2 r3 ⟨kk, n, hk, hn, w2⟩ => ?_, (q.xc.ext s.ex).ext x1⟩
        subst hk
        have := r3.int
        subst this
        refine ⟨a, as, kk, n, rfl, rfl, x2.keep _ _ e2 (fun ps z => by cases z) e4, by rw [e5.length]; exact hn, ?_⟩
        have s3 := (s1.ext x2).write (own_at ho) e1 (Dats.set (r1.mono x2.sub) n (e5.mono x2.sub)) (by simp; omega)
        have ho3 : ownAt (ρ.set i (.own (xs.set n d1))) i2 = some ys := by
          unfold ownAt
          rw [List.getElem?_set_ne hne]
          exact ho2
        obtain ⟨b, bs, f1, f2, f3, f4, f5, f6⟩ := s3.st.own ho3
        refine ⟨_, _, rfl, _, f1, F2, _, _, _, s3.st, w2, fun g y F4 H4 x4 r5 ⟨kk', n', hk', hn', w4⟩ => ?_, q.xc.ext s3.ex⟩
        subst hk'
        have := r5.int
        subst this
        refine ⟨b, bs, kk', n', rfl, rfl, x4.keep _ _ f2 (fun ps z => by cases z) f4, by rw [f5.length]; exact hn', rfl, ?_⟩
        exact q.nx _ _ _ _ ((s3.ext x4).write (own_at ho3) f1 (Dats.set ((r2.mono x2.sub).mono x4.sub) n' (f5.mono x4.sub)) (by simp; omega)) w4
theorem b_mut (C : CtxS W Γ k EX N sc l X) {i : Nat} {m : OwnF} {st : Stmt} (h : chkMut N sc l i m st = true) : PS X st (tB W Γ EX (.mut i m)) := by
  cases m with
  | popT p =>
    have g : (match asPopT st with
      | some (ts, j, tp, x, m, ap, cp) => decide (m = "pop") && (ap.endLine == cp.line) && chkVar N sc i x && chkP N sc stAll p (.Tuple ts j tp)
      | none => false) = true := h
    split at g
    · rename_i hq
      obtain ⟨_, _, rfl⟩ := asPopT_eq hq
      simp only [Bool.and_eq_true, decide_eq_true_eq] at g
      obtain ⟨⟨⟨a1, a2⟩, a3⟩, a4⟩ := g
      exact b_popT C a1 a2 a3 a4
    · cases g
  | popAt a =>
    have g : (match asMth st with
      | some (x, m, ap, v, cp) => decide (m = "pop") && (ap.endLine == cp.line) && !isStar v && chkVar N sc i x && chkE N sc l a v
      | none => false) = true := h
    split at g
    · rename_i hq
      obtain ⟨_, _, rfl⟩ := asMth_eq hq
      simp only [Bool.and_eq_true, decide_eq_true_eq, Bool.not_eq_true'] at g
      obtain ⟨⟨⟨⟨a1, a2⟩, a3⟩, a4⟩, a5⟩ := g
      exact b_popAt C a1 a2 a3 a4 a5
    · cases g
  | ins a e =>
    have g : (match asMth2 st with
      | some (x, m, ap, v, u, cp) => decide (m = "insert") && (ap.endLine == cp.line) && !isStar v && !isStar u && chkVar N sc i x && !e.isRd && chkE N sc l a v && chkE N sc l e u
      | none => false) = true := h
    split at g
    · rename_i hq
      obtain ⟨_, _, rfl⟩ := asMth2_eq hq
      simp only [Bool.and_eq_true, decide_eq_true_eq, Bool.not_eq_true'] at g
      obtain ⟨⟨⟨⟨⟨⟨⟨a1, a2⟩, a3⟩, a4⟩, a5⟩, a6⟩, a7⟩, a8⟩ := g
      exact b_ins C a1 a2 a3 a4 a5 a6 a7 a8
    · cases g
  | slcp a b e =>
    have g : (match asSlc st with
      | some (x, ax, bx, v) => !isComp v && chkVar N sc i x && !e.isRd && chkE N sc l a ax && chkE N sc l b bx && chkE N sc l e v
      | none => false) = true := h
    split at g
    · rename_i hq
      obtain ⟨_, _, _, _, rfl⟩ := asSlc_eq hq
      simp only [Bool.and_eq_true, Bool.not_eq_true'] at g
      obtain ⟨⟨⟨⟨⟨a1, a2⟩, a3⟩, a4⟩, a5⟩, a6⟩ := g
      exact b_slcp C a1 a2 a3 a4 a5 a6
    · cases g
  | popA p a =>
    have g : (match asPopA st with
      | some (t, x, m, ap, v, cp) => decide (m = "pop") && ((ap.endLine == cp.line) && (!isStar v && (chkVar N sc i x && (chkP N sc stAll p t && chkE N sc l a v))))
      | none => false) = true := h
    split at g
    · rename_i hq
      obtain ⟨_, _, rfl⟩ := asPopA_eq hq
      simp only [Bool.and_eq_true, decide_eq_true_eq, Bool.not_eq_true'] at g
      obtain ⟨a1, a2, a3, a4, a5, a6⟩ := g
      exact b_popA C a1 a2 a3 a4 a5 a6
    · cases g
  | put2 i2 j1 j2 e =>
    have g : (match asPut2 st with
      | some (x, jx, u, ju, vs, k2, vp) => chkVar N sc i x && (chkVar N sc i2 u && (decide (i ≠ i2) && (plainIx jx && (plainIx ju && (!e.isRd && (chkE N sc l j1 jx && (chkE N sc l j2 ju && chkE N sc l e (.Tuple vs k2 vp))))))))
      | none => false) = true := h
    split at g
    · rename_i hq
      obtain ⟨_, _, _, _, _, _, _, rfl⟩ := asPut2_eq hq
      simp only [Bool.and_eq_true, decide_eq_true_eq, Bool.not_eq_true'] at g
      obtain ⟨a1, a2, a3, a4, a5, a6, a7, a8, a9⟩ := g
      exact b_put2 C a1 a2 a3 a4 a5 a6 a7 a8 a9
    · cases g
theorem b_put (C : CtxS W Γ k EX N sc l X) {i : Nat} {j e : E} {x : Str} {px tp pos : Pos} {v jx : Expr} (hp : plainIx jx = true) (hc : isComp v = false) (hx : chkVar N sc i x = true) (hr : e.isRd = false) (hj : chkE N sc l j jx = true) (h : chkE N sc l e v = true) :
    PS X (.Assign [.Subscript (.Name x px) jx tp] v pos) (tB W Γ EX (.put i j e)) := by
  have hg : PG X (.Subscript (.Name x px) jx tp) (gSub (tVar i) (tR W Γ EX j) rSetL) := pg_sub (var_of C hx) (snd j C.ok jx hj).r set_list (by cases jx <;> first | (cases hp; done) | (intro _; rfl))
  refine (ps_asg ((snd e C.ok v h).e hr) hg (no_swap hc (some (.Subscript (.Name x px) jx tp)) pos.line X.env) stores_sub rfl).impD fun D σ H q => ?_
  obtain ⟨F0, H0, Fb, F, ρ, P, s, w, q⟩ := q
  obtain ⟨xs, ho, w⟩ : opt (ownAt ρ i) fun xs => wpE Γ e ρ (fun d => wpE Γ j ρ (fun k => ∃ k' n, k = .int k' ∧ ixN xs.length k' = some n ∧ P.nx (ρ.set i (.own (xs.set n d)))) P.xc) P.xc := w
  obtain ⟨a, vs, e1, e2, e3, e4, e5, e6⟩ := s.st.own ho
  refine ⟨F, ρ, _, _, s.st, w, fun d v F1 H1 x1 r w1 => ?_, q.xc.ext s.ex⟩
  refine ⟨_, e1, F1, ρ, _, _, s.st.ext x1, w1, fun g u F2 H2 x2 r2 ⟨k', n, h0, h1, h2⟩ => ?_, (q.xc.ext s.ex).ext x1⟩
  subst h0
  have := r2.int
  subst this
  have x3 := x1.trans x2
  refine ⟨a, vs, k', n, rfl, rfl, x3.keep _ _ e2 (fun ps z => by cases z) e4, by rw [e5.length]; exact h1, ?_⟩
  exact q.nx _ _ _ _ ((s.ext x3).write (own_at ho) e1 (Dats.set (r.mono x2.sub) n (e5.mono x3.sub)) (by simp; omega)) h2
def tGetL (K : PySem.W.Frag) : V → V → Hp → VK → Prop := fun o i H Q => ∃ p xs k v, o = .ref p ∧ i = .int k ∧ SqL K H p xs ∧ atI xs k = some v ∧ Q v H
theorem get_list : PGet X (tGetL X.K) := by
  intro pins s σ H o i ov iv Q I ro ri h
  obtain ⟨p, xs, i, z, rfl, rfl, hq, he, q⟩ := h
  cases ro
  obtain ⟨t, rfl⟩ := ri
  obtain ⟨its, r, pl, hz⟩ := I.list hq
  obtain ⟨j, h1, h2, h3, h4, h5⟩ := atI_get he
  obtain ⟨w, ew, rw'⟩ := r.get h2
  have hl := r.length
  have hn := line63
  have fin : EP X pins σ Q w s := ⟨z, H, I, rw', q⟩
  by_cases h0 : 0 ≤ i
  · have hj : i.toNat = j := by
      rw [seqIndex_of h0 h5] at h1
      exact Option.some.inj h1
    exact wpAny_getItem_list pl.isList h0 (by omega) (by rw [hj]; simpa using ew) fin
  · have hj : (i + (its.toArray.size : Int)).toNat = j := by
      rw [seqIndex_neg (by omega) h4] at h1
      rw [List.size_toArray, ← hl]
      exact Option.some.inj h1
    exact wpAny_getItem_list_neg pl.isList (by omega) (by rw [List.size_toArray] <;> omega) (by omega) (by rw [hj]; simpa using ew) fin
theorem b_augp (C : CtxS W Γ k EX N sc l X) {op : Operator} {i : Nat} {j e : E} {x : Str} {px tp pos : Pos} {v jx : Expr} (ho : op = .Add ∨ op = .Sub) (hp : plainIx jx = true) (hx : chkVar N sc i x = true) (hr : e.isRd = false) (hj : chkE N sc l j jx = true) (h : chkE N sc l e v = true) :
    PS X (.AugAssign (.Subscript (.Name x px) jx tp) op v pos) (tB W Γ EX (.augp op i j e)) := by
  have ha : ∀ ov iv new, augStore jx ov iv new = (do holding [new, ov, iv] (setItem ov iv new); release [new, ov, iv] []; pure .next) := by cases jx <;> first | (cases hp; done) | (intros; rfl)
  have fin : ∀ {f : Int → Int → Int}, (∀ d d' r, augSem op d d' = some r → ∃ a b, d = .int a ∧ d' = .int b ∧ r = .int (f a b)) → ∀ D σ H, tB W Γ EX (.augp op i j e) D σ H → tAugS (tVar i) (tR W Γ EX j) (tE W Γ EX e) (tGetL X.K) (ipI f) rSetL D σ H := fun {f} hf D σ H q => by
    obtain ⟨F0, H0, Fb, F, ρ, P, s, w, q⟩ := q
    obtain ⟨xs, ho, w⟩ : opt (ownAt ρ i) fun xs => wpE Γ j ρ (fun k => ∃ k' n d, k = .int k' ∧ ixN xs.length k' = some n ∧ xs[n]? = some d ∧ wpE Γ e ρ (fun d' => opt (augSem op d d') fun r => P.nx (ρ.set i (.own (xs.set n r)))) P.xc) P.xc := w
    obtain ⟨a, vs, e1, e2, e3, e4, e5, e6⟩ := s.st.own ho
    refine ⟨_, e1, F, ρ, _, _, s.st, w, fun g u F1 H1 x1 r1 ⟨k', n, d, h0, h1, h2, w2⟩ => ?_, q.xc.ext s.ex⟩
    subst h0
    have := r1.int
    subst this
    obtain ⟨z, z1, z2⟩ := e5.get h2
    refine ⟨a, vs, k', z, rfl, rfl, .inl (.inl (x1.keep _ _ e2 (fun ps z => by cases z) e4)), by unfold atI; rw [e5.length, h1]; exact z1, ?_⟩
    refine ⟨F1, ρ, _, _, s.st.ext x1, w2, fun d' v' F2 H2 x2 r2 ⟨r, w3, w4⟩ => ?_, (q.xc.ext s.ex).ext x1⟩
    obtain ⟨m, b, rfl, rfl, rfl⟩ := hf _ _ _ w3
    cases z2
    cases r2
    have x3 := x1.trans x2
    refine ⟨m, b, rfl, rfl, a, vs, k', n, rfl, rfl, x3.keep _ _ e2 (fun ps z => by cases z) e4, by rw [e5.length]; exact h1, ?_⟩
    exact q.nx _ _ _ _ ((s.ext x3).write (own_at ho) e1 (Dats.set (Dat.int _) n (e5.mono x3.sub)) (by simp; omega)) w4
  have he := (snd e C.ok v h).e hr
  rcases ho with rfl | rfl
  · refine (ps_augS (var_of C hx) (snd j C.ok jx hj).r get_list he ip_add set_list ha).impD (fin fun d d' r hs => ?_)
    cases d <;> cases d' <;> first | (cases hs; done) | (cases hs; exact ⟨_, _, rfl, rfl, rfl⟩)
  · refine (ps_augS (var_of C hx) (snd j C.ok jx hj).r get_list he ip_sub set_list ha).impD (fin fun d d' r hs => ?_)
    cases d <;> cases d' <;> first | (cases hs; done) | (cases hs; exact ⟨_, _, rfl, rfl, rfl⟩)
/-! ### dicts of the def's own -/
theorem dct_at {ρ : Env1} {i : Nat} {xs : List (Int × PyData)} (h : dctAt ρ i = some xs) : ρ[i]? = some (.dct xs) := by
  unfold dctAt at h
  split at h
  · rename_i e; cases h; exact e
  · cases h
theorem b_dnew (C : CtxS W Γ k EX N sc l X) {i : Nat} {x : Str} {px dp pos : Pos} (hn : nmOk N sc i x = true) : PS X (.Assign [.Name x px] (.Dict [] [] dp) pos) (tB W Γ EX (.dnew i)) := by
  obtain ⟨hi, hx⟩ := nm_of C hn
  have hN : X.N.Nodup := by rw [C.ok.hN]; exact C.ok.nd
  refine (ps_set hN hi hx pe_dnewK (no_swap (x := .Dict [] [] dp) rfl _ _ _) (.inl (C.fn x))).impD fun D σ H q => ?_
  obtain ⟨F0, H0, Fb, F, ρ, P, s, w, q⟩ := q
  intro p hp
  have e1 := Ext.new (o := .dK []) s.st.f s.st.g hp
  have hnone : F p = none := s.st.f.none hp
  have hR : p ≠ W.R := fun z => s.st.g.nR (z ▸ hp)
  exact q.nx _ _ _ _ (s.setB (b := .dct []) e1 ⟨p, [], rfl, upd_same, hnone, hR, ⟨rfl, .nil⟩, Nat.zero_le _, New.of hp⟩ i) w
theorem b_dput (C : CtxS W Γ k EX N sc l X) {i : Nat} {j e : E} {x : Str} {px tp pos : Pos} {v jx : Expr} (hc : isComp v = false) (hx : chkVar N sc i x = true) (hr : e.isRd = false) (hj : chkE N sc l j jx = true) (h : chkE N sc l e v = true) :
    PS X (.Assign [.Subscript (.Name x px) jx tp] v pos) (tB W Γ EX (.dput i j e)) := by
  have hu : X.A.units + 1 < cLine := by have := C.ok.units; omega
  refine (ps_dput hu (var_of C hx) (snd j C.ok jx hj).r ((snd e C.ok v h).e hr) (no_swap hc _ _ _)).impD fun D σ H q => ?_
  obtain ⟨F0, H0, Fb, F, ρ, P, s, w, q⟩ := q
  obtain ⟨kvs, ho, w⟩ : opt (dctAt ρ i) fun kvs => wpE Γ e ρ (fun d => wpE Γ j ρ (fun k => ∃ k', k = .int k' ∧ kvs.length < 16777216 ∧ P.nx (ρ.set i (.dct (dPut kvs k' d)))) P.xc) P.xc := w
  refine ⟨F, ρ, _, _, s.st, w, fun d v F1 H1 x1 r w1 => ?_, q.xc.ext s.ex⟩
  obtain ⟨a, vs, e1, e2, e3, e4, e5, e6⟩ := (s.st.ext x1).dct ho
  refine ⟨_, e1, F1, ρ, _, _, s.st.ext x1, w1, fun g u F2 H2 x2 r2 ⟨k', h0, h1, h2⟩ => ?_, (q.xc.ext s.ex).ext x1⟩
  subst h0
  have := r2.int
  subst this
  have x3 := x1.trans x2
  obtain ⟨a', vs', e1', e2', e3', e4', e5', e6'⟩ := ((s.st.ext x1).ext x2).dct ho
  rw [e1] at e1'
  cases e1'
  refine ⟨a, _, rfl, DPut.k (k := Sum.inl k') e2' ?_, ?_⟩
  · have := e5'.1
    have := congrArg List.length this
    simp at this
    rw [this, sizeLine_eq]; omega
  · exact q.nx _ _ _ _ ((s.ext x3).writeD (dct_at ho) e1 (kvd_put (r.mono x2.sub) e5') (Nat.le_trans dPut_len (by omega))) h2
/-! ### branches, loops -/
theorem b_ife {c : E} {a b : SL} {t : Expr} {p q' : List Stmt} {pos : Pos} (hc : PT X t (tT W Γ EX c)) (ha : PSs X p (tBs W Γ EX a)) (hb : PSs X q' (tBs W Γ EX b)) : PS X (.If t p q' pos) (tB W Γ EX (.ife c a b)) := by
  refine (ps_if hc ha hb).impD fun D σ H q => ?_
  obtain ⟨F0, H0, Fb, F, ρ, P, s, w, q⟩ := q
  have w : wpT Γ c ρ (fun t => if t = true then wpSs Γ a ρ P else wpSs Γ b ρ P) P.xc := w
  refine ⟨F, ρ, _, _, s.st, w, fun t F' H' x1 w1 => ?_, q.xc.ext s.ex⟩
  cases t with
  | true => rw [if_pos rfl] at w1 ⊢; exact ⟨F0, H0, Fb, F', ρ, P, s.ext x1, w1, q⟩
  | false => rw [if_neg Bool.false_ne_true] at w1 ⊢; exact ⟨F0, H0, Fb, F', ρ, P, s.ext x1, w1, q⟩
theorem b_whl (C : CtxS W Γ k EX N sc l X) {c : E} {b : SL} {t : Expr} {p : List Stmt} {pos : Pos} (hc : PT X t (tT W Γ EX c)) (hb : PSs X p (tBs W Γ EX b)) : PS X (.While t p [] pos) (tB W Γ EX (.whl c b)) := by
  refine (ps_while C.own hc hb).impD fun D σ H q => ?_
  obtain ⟨F0, H0, Fb, F, ρ, P, s, w, q⟩ := q
  obtain ⟨I, ⟨n, h0⟩, turn⟩ : ∃ I : Nat → Env1 → Prop, (∃ n, I n ρ) ∧ ∀ n ρ1, I n ρ1 → wpT Γ c ρ1 (fun t => if t = true then wpSs Γ b ρ1 { nx := fun ρ2 => ∃ m, m < n ∧ I m ρ2, ct := fun ρ2 => ∃ m, m < n ∧ I m ρ2, bk := P.nx, rt := P.rt, xc := P.xc } else P.nx ρ1) P.xc := w
  refine ⟨fun n σ H => ∃ F ρ, StS W F0 H0 Fb F ρ σ H ∧ I n ρ, ⟨n, F, ρ, s, h0⟩, ?_⟩
  rintro m σ1 H1 ⟨F1, ρ1, s1, i1⟩
  refine ⟨F1, ρ1, _, _, s1.st, turn m ρ1 i1, fun t F' H' x1 w1 => ?_, q.xc.ext s1.ex⟩
  dsimp only
  cases t with
  | true =>
    rw [if_pos rfl] at w1 ⊢
    refine ⟨fun σ2 H2 => ∃ F ρ m', StS W F0 H0 Fb F ρ σ2 H2 ∧ m' < m ∧ I m' ρ, ?_, F0, H0, Fb, F', ρ1, _, s1.ext x1, w1, ?_⟩
    · rintro σ2 H2 ⟨F2, ρ2, m', s2, hm, i2⟩
      exact ⟨m', hm, F2, ρ2, s2, i2⟩
    · exact ⟨fun F ρ σ H s ⟨m', hm, i2⟩ => ⟨F, ρ, m', s, hm, i2⟩, q.rt, q.nx, fun F ρ σ H s ⟨m', hm, i2⟩ => ⟨F, ρ, m', s, hm, i2⟩, q.xc⟩
  | false =>
    rw [if_neg Bool.false_ne_true] at w1 ⊢
    exact q.nx _ _ _ _ (s1.ext x1) w1
theorem b_for (C : CtxS W Γ k EX N sc l X) {tg : Pat} {it : It1} {b : SL} {tx ix : Expr} {p : List Stmt} {pos : Pos} (hi : PI X tx ix (tIt W Γ EX it)) (hf : isSetD ix = false) (hg : PG X tx (gP W tg)) (hb : PSs X p (tBs W Γ EX b)) : PS X (.For tx ix p [] pos) (tB W Γ EX (.for_ tg it b)) := by
  refine (ps_for C.own C.ok.calm hi hg hb (no_fold hf X.env)).impD fun D σ H q => ?_
  obtain ⟨F0, H0, Fb, F, ρ, P, s, w, q⟩ := q
  have w : wpI Γ it ρ (fun items => forL (fun x ρ1 k => opt (bindP tg x ρ1) fun ρ2 => wpSs Γ b ρ2 { nx := k, ct := k, bk := P.nx, rt := P.rt, xc := P.xc }) items ρ P.nx) P.xc := w
  refine ⟨F, ρ, _, _, s.st, w, fun items J F1 H1 x1 hJ hlen w1 => ?_, q.xc.ext s.ex⟩
  obtain ⟨G, Y, wk, hG, hY⟩ := hJ
  have s1 := s.ext x1
  refine for_it wk (fun i σ H => ∃ F2 ρ2, StS W F0 H0 F1 F2 ρ2 σ H ∧ forL (fun x ρ1 k => opt (bindP tg x ρ1) fun ρ2 => wpSs Γ b ρ2 { nx := k, ct := k, bk := P.nx, rt := P.rt, xc := P.xc }) (items.drop i) ρ2 P.nx) ?_ ?_ ?_ ?_
  · exact ⟨F1, ρ, ⟨s1.st, s1.g0, .refl _, s1.ex, s1.nw⟩, by simpa using w1⟩
  · rintro i σ2 H2 hi ⟨F2, ρ2, s2, w2⟩
    exact hG F2 H2 s2.sm s2.st.f
  · rintro i xv σ2 H2 H' hi ⟨F2, ρ2, s2, w2⟩ hy
    obtain ⟨F3, d, x3, hd, dv⟩ := hY i F2 H2 xv H' s2.sm s2.st.f s2.st.g hi hy
    rw [drop_at hd] at w2
    obtain ⟨ρ3, hb3, w3⟩ := w2
    have s3 := s2.ext x3
    refine ⟨F3, ρ2, d, ρ3, s3.st, dv, hb3, fun σ4 s4 o => ?_⟩
    refine ⟨F0, H0, F1, F3, ρ3, _, s3.bind hb3 s4 o, w3, ?_⟩
    exact ⟨fun F ρ σ H s k => ⟨F, ρ, s, k⟩, q.rt, fun F ρ σ H s k => q.nx F ρ σ H ⟨s.st, s.g0, (s1.sm).trans s.sm, s.ex, s.nw⟩ k, fun F ρ σ H s k => ⟨F, ρ, s, k⟩, q.xc⟩
  · rintro σ2 H2 ⟨F2, ρ2, s2, w2⟩
    rw [List.drop_length] at w2
    exact q.nx _ _ _ _ ⟨s2.st, s2.g0, (s1.sm).trans s2.sm, s2.ex, s2.nw⟩ w2
end
end Dl

set_option Elab.async false
set_option linter.all false
set_option maxRecDepth 100000
set_option maxHeartbeats 8000000
/-! the data layer, part 23: all statements; a def -/
namespace Dl
open PySem PySem.Spec PyProof.Rows L2
section
variable {W : Wd} {Γ : Gam} {k : Nat}
theorem stS_frz {W : Wd} {Γ : Gam} {EX : XK} {i : Nat} {r : SL} {D : Ends} {σ : L2.St} {H : Hp} (h : tBs W Γ EX (.frz i r) D σ H) : tBs W Γ EX r D σ H := by
  obtain ⟨F0, H0, Fb, F, ρ, P, s, w, q⟩ := h
  obtain ⟨xs, ho, w⟩ : opt (ownAt ρ i) fun xs => wpSs Γ r (ρ.set i (.val (.list xs))) P := w
  obtain ⟨F', s'⟩ := s.frz ho
  exact ⟨F0, H0, Fb, F', _, P, s', w, q⟩
mutual
theorem sndS : ∀ (b : S) {EX : XK} {X : Cx} {N : List Str} {sc : Scope} {l : Bool} (C : CtxS W Γ k EX N sc l X) (x : Stmt), chkS N sc l b x = true → PS X x (tB W Γ EX b)
  | .skip, EX, X, N, sc, l, C, x, h => by
    have fin : ∀ D σ H, tB W Γ EX .skip D σ H → tNext D σ H := fun D σ H ⟨F0, H0, Fb, F, ρ, P, s, w, q⟩ => q.nx _ _ _ _ s w
    cases x <;> try (cases h; done)
    case Pass => exact ps_pass.impD fin
    case Expr v pos =>
      cases v <;> try (cases h; done)
      rename_i c j p
      cases c <;> try (cases h; done)
      exact ps_doc.impD fin
  | .ret e, EX, X, N, sc, l, C, x, h => by
    cases x <;> try (cases h; done)
    rename_i v pos
    cases v with
    | none => cases h
    | some v =>
      have h : (chkE N sc l e v && !e.isRd) = true := h
      simp only [Bool.and_eq_true, Bool.not_eq_true'] at h
      exact b_ret C h.2 h.1
  | .retN, EX, X, N, sc, l, C, x, h => by
    cases x <;> try (cases h; done)
    rename_i v pos
    cases v with
    | some _ => cases h
    | none => exact ps_retN.impD fun D σ H ⟨F0, H0, Fb, F, ρ, P, s, w, q⟩ => q.rt _ _ _ _ s.ex .non w
  | .brk, EX, X, N, sc, l, C, x, h => by
    cases x <;> try (cases h; done)
    exact ps_break.impD fun D σ H ⟨F0, H0, Fb, F, ρ, P, s, w, q⟩ => q.bk _ _ _ _ s w
  | .cnt, EX, X, N, sc, l, C, x, h => by
    cases x <;> try (cases h; done)
    exact ps_continue.impD fun D σ H ⟨F0, H0, Fb, F, ρ, P, s, w, q⟩ => q.ct _ _ _ _ s w
  | .set o i e, EX, X, N, sc, l, C, x, h => by
    cases x <;> try (cases h; done)
    rename_i ts v pos
    match ts, h with
    | [], h => cases h
    | [t], h =>
      cases t <;> try (cases h; done)
      rename_i x px
      have h : (nmOk N sc i x && lcSw sc x px v && modeOk o e && chkE N sc l e v) = true := h
      simp only [Bool.and_eq_true] at h
      exact b_set C h.1.1.1 h.1.1.2 h.1.2 h.2
    | t :: _ :: _, h => cases t <;> cases h
  | .asg p e, EX, X, N, sc, l, C, x, h => by
    cases x <;> try (cases h; done)
    rename_i ts v pos
    match ts, h with
    | [], h => cases h
    | [t], h =>
      cases t <;> try (cases h; done)
      rename_i ts j tp
      have h : ((!isTupE v || hasCell sc ts || foldT v) && !isComp v && !e.isRd && chkP N sc stAll p (.Tuple ts j tp) && chkE N sc l e v) = true := h
      simp only [Bool.and_eq_true, Bool.or_eq_true, Bool.not_eq_true'] at h
      obtain ⟨⟨⟨⟨h1, h2⟩, h3⟩, h4⟩, h5⟩ := h
      refine b_asg C ?_ h2 h3 h4 h5
      rcases h1 with h1 | h1
      · rcases h1 with h1 | h1
        · exact stores_none h1
        · cases v <;> first | exact stores_cell (by rw [C.ok.hsc]; exact h1) | exact stores_none rfl
      · exact stores_fold h1
    | t :: _ :: _, h => cases t <;> cases h
  | .par2 o1 i1 e1 o2 i2 e2, EX, X, N, sc, l, C, x, h => by
    have g : (match asPar2 x with
      | some (x, px, y, py, a, b) => nmOk N sc i1 x && nmOk N sc i2 y && ((isLoc sc x && isLoc sc y && (px.line == py.line)) || (!isLoc sc x || !isLoc sc y)) && decide (x ≠ y) && parOk [a, b] && modeOk o1 e1 && modeOk o2 e2 && chkE N sc l e1 a && chkE N sc l e2 b
      | none => false) = true := h
    clear h
    split at g
    · rename_i hq
      obtain ⟨_, _, _, _, _, rfl⟩ := asPar2_eq hq
      simp only [Bool.and_eq_true, decide_eq_true_eq] at g
      obtain ⟨⟨⟨⟨⟨⟨⟨⟨a1, a2⟩, a3⟩, a6⟩, a7⟩, a8⟩, a9⟩, a10⟩, a11⟩ := g
      rw [Bool.or_eq_true] at a3
      rcases a3 with a3 | a3
      · simp only [Bool.and_eq_true] at a3
        exact b_par2 C a1 a2 a3.1.1 a3.1.2 a3.2 a6 a7 a8 a9 a10 a11
      · exact b_par2c C a1 a2 a3 a7 a8 a9 a10 a11
    · cases g
  | .par3 o1 i1 e1 o2 i2 e2 o3 i3 e3, EX, X, N, sc, l, C, x, h => by
    have g : (match asPar3 x with
      | some (x, px, y, py, z, pz, a, b, c) => nmOk N sc i1 x && nmOk N sc i2 y && nmOk N sc i3 z && isLoc sc x && isLoc sc y && isLoc sc z && (px.line == py.line) && (px.line == pz.line) &&
      decide (x ≠ y) && decide (x ≠ z) && decide (y ≠ z) && parOk [a, b, c] && modeOk o1 e1 && modeOk o2 e2 && modeOk o3 e3 && chkE N sc l e1 a && chkE N sc l e2 b && chkE N sc l e3 c
      | none => false) = true := h
    clear h
    split at g
    · rename_i hq
      obtain ⟨_, _, _, _, _, rfl⟩ := asPar3_eq hq
      simp only [Bool.and_eq_true, decide_eq_true_eq] at g
      obtain ⟨⟨⟨⟨⟨⟨⟨⟨⟨⟨⟨⟨⟨⟨⟨⟨⟨a1, a2⟩, a3⟩, a4⟩, a5⟩, a6⟩, a7⟩, a8⟩, a9⟩, a10⟩, a11⟩, a12⟩, a13⟩, a14⟩, a15⟩, a16⟩, a17⟩, a18⟩ := g
      exact b_par3 C a1 a2 a3 a4 a5 a6 a7 a8 a9 a10 a11 a12 a13 a14 a15 a16 a17 a18
    · cases g
  | .aug op i e, EX, X, N, sc, l, C, x, h => by
    cases x <;> try (cases h; done)
    rename_i t op' v pos
    cases t <;> try (cases h; done)
    rename_i x px
    have h : (decide (op = op') && (decide (op = .Add) || decide (op = .Sub)) && nmOk N sc i x && !e.isRd && chkE N sc l e v) = true := h
    simp only [Bool.and_eq_true, Bool.or_eq_true, decide_eq_true_eq, Bool.not_eq_true'] at h
    obtain ⟨⟨⟨⟨rfl, a2⟩, a3⟩, a4⟩, a5⟩ := h
    exact b_aug C a2 a3 a4 a5
  | .augp op i j e, EX, X, N, sc, l, C, x, h => by
    have g : (match asAugp x with
      | some (x, jx, op', v) => decide (op = op') && (decide (op = .Add) || decide (op = .Sub)) && plainIx jx && chkVar N sc i x && !e.isRd && chkE N sc l j jx && chkE N sc l e v
      | none => false) = true := h
    clear h
    split at g
    · rename_i hq
      obtain ⟨_, _, _, rfl⟩ := asAugp_eq hq
      simp only [Bool.and_eq_true, Bool.or_eq_true, decide_eq_true_eq, Bool.not_eq_true'] at g
      obtain ⟨⟨⟨⟨⟨⟨rfl, a2⟩, a3⟩, a4⟩, a5⟩, a6⟩, a7⟩ := g
      exact b_augp C a2 a3 a4 a5 a6 a7
    · cases g
  | .app i e, EX, X, N, sc, l, C, x, h => by
    have g : (match asMth x with
      | some (x, m, ap, v, cp) => decide (m = "append") && (ap.endLine == cp.line) && !isStar v && chkVar N sc i x && !e.isRd && chkE N sc l e v
      | none => false) = true := h
    clear h
    split at g
    · rename_i hq
      obtain ⟨_, _, rfl⟩ := asMth_eq hq
      simp only [Bool.and_eq_true, decide_eq_true_eq, Bool.not_eq_true'] at g
      obtain ⟨⟨⟨⟨⟨a1, a2⟩, a3⟩, a4⟩, a5⟩, a6⟩ := g
      exact b_app C a1 a2 a3 a4 a5 a6
    · cases g
  | .ext i e, EX, X, N, sc, l, C, x, h => by
    have g : (match asMth x with
      | some (x, m, ap, v, cp) => decide (m = "extend") && (ap.endLine == cp.line) && !isStar v && chkVar N sc i x && chkE N sc l e v
      | none => false) = true := h
    clear h
    split at g
    · rename_i hq
      obtain ⟨_, _, rfl⟩ := asMth_eq hq
      simp only [Bool.and_eq_true, decide_eq_true_eq, Bool.not_eq_true'] at g
      obtain ⟨⟨⟨⟨a1, a2⟩, a3⟩, a4⟩, a6⟩ := g
      exact b_ext C a1 a2 a3 a4 a6
    · cases g
  | .put i j e, EX, X, N, sc, l, C, x, h => by
    have g : (match asPut x with
      | some (x, jx, v) => plainIx jx && !isComp v && chkVar N sc i x && !e.isRd && chkE N sc l j jx && chkE N sc l e v
      | none => false) = true := h
    clear h
    split at g
    · rename_i hq
      obtain ⟨_, _, _, rfl⟩ := asPut_eq hq
      simp only [Bool.and_eq_true, Bool.not_eq_true'] at g
      obtain ⟨⟨⟨⟨⟨a1, a2⟩, a4⟩, a5⟩, a6⟩, a7⟩ := g
      exact b_put C a1 a2 a4 a5 a6 a7
    · cases g
  | .dnew i, EX, X, N, sc, l, C, x, h => by
    cases x <;> try (cases h; done)
    rename_i ts v pos
    match ts, v, h with
    | [.Name x px], .Dict [] [] dp, h => exact b_dnew C h
    | [.Name x px], .Dict (_ :: _) _ dp, h => cases h
    | [.Name x px], .Dict [] (_ :: _) dp, h => cases h
    | [], _, h => cases h
    | t :: _ :: _, _, h => cases t <;> cases h
    | [t], v, h =>
      cases t <;> try (cases h; done)
      rename_i x px
      cases v <;> try (cases h; done)
      rename_i ks vs dp
      cases ks with
      | nil => cases vs with
        | nil => exact b_dnew C h
        | cons _ _ => cases h
      | cons _ _ => cases h
  | .mut i m, EX, X, N, sc, l, C, x, h => b_mut C h
  | .dput i j e, EX, X, N, sc, l, C, x, h => by
    have g : (match asPut x with
      | some (x, jx, v) => plainIx jx && !isComp v && chkVar N sc i x && !e.isRd && chkE N sc l j jx && chkE N sc l e v
      | none => false) = true := h
    clear h
    split at g
    · rename_i hq
      obtain ⟨_, _, _, rfl⟩ := asPut_eq hq
      simp only [Bool.and_eq_true, Bool.not_eq_true'] at g
      obtain ⟨⟨⟨⟨⟨a1, a2⟩, a4⟩, a5⟩, a6⟩, a7⟩ := g
      exact b_dput C a2 a4 a5 a6 a7
    · cases g
  | .ex e, EX, X, N, sc, l, C, x, h => by
    cases x <;> try (cases h; done)
    rename_i v pos
    have h : (!isComp v && !e.isRd && chkE N sc l e v) = true := h
    simp only [Bool.and_eq_true, Bool.not_eq_true'] at h
    exact b_ex C h.1.1 h.1.2 h.2
  | .ife c a b, EX, X, N, sc, l, C, x, h => by
    cases x <;> try (cases h; done)
    rename_i t p q pos
    have h : (chkT N sc l c t && chkSs N sc l a p && chkSs N sc l b q) = true := h
    simp only [Bool.and_eq_true] at h
    exact b_ife (sndT c C.ok t h.1.1) (sndSs a C p h.1.2) (sndSs b C q h.2)
  | .whl c b, EX, X, N, sc, l, C, x, h => by
    cases x <;> try (cases h; done)
    rename_i t p q pos
    cases q with
    | cons _ _ => cases h
    | nil =>
      have h : (chkT N sc l c t && chkSs N sc l b p) = true := h
      simp only [Bool.and_eq_true] at h
      exact b_whl C (sndT c C.ok t h.1) (sndSs b C p h.2)
  | .for_ tg it b, EX, X, N, sc, l, C, x, h => by
    cases x <;> try (cases h; done)
    rename_i tx ix p q pos
    cases q with
    | cons _ _ => cases h
    | nil =>
      have h : (chkI N sc l it tx ix && !isSetD ix && chkP N sc stAll tg tx && chkSs N sc l b p) = true := h
      simp only [Bool.and_eq_true, Bool.not_eq_true'] at h
      exact b_for C (sndI it C.ok tx ix h.1.1.1) h.1.1.2 (sndPS C h.1.2) (sndSs b C p h.2)
theorem sndSs : ∀ (b : SL) {EX : XK} {X : Cx} {N : List Str} {sc : Scope} {l : Bool} (C : CtxS W Γ k EX N sc l X) (xs : List Stmt), chkSs N sc l b xs = true → PSs X xs (tBs W Γ EX b)
  | .nil, EX, X, N, sc, l, C, xs, h => by
    cases xs with
    | cons _ _ => cases h
    | nil => exact pss_nil.impD fun D σ H ⟨F0, H0, Fb, F, ρ, P, s, w, q⟩ => q.nx _ _ _ _ s w
  | .cons b r, EX, X, N, sc, l, C, xs, h => by
    cases xs with
    | nil => cases h
    | cons x xs =>
      have h : (chkS N sc l b x && chkSs N sc l r xs) = true := h
      simp only [Bool.and_eq_true] at h
      refine (pss_cons (sndS b C x h.1) (sndSs r C xs h.2)).impD fun D σ H q => ?_
      obtain ⟨F0, H0, Fb, F, ρ, P, s, w, q⟩ := q
      refine ⟨F0, H0, Fb, F, ρ, _, s, w, ?_⟩
      exact ⟨fun F ρ σ H s k => ⟨F0, H0, Fb, F, ρ, P, s, k, q⟩, q.rt, q.bk, q.ct, q.xc⟩
  | .frz i r, EX, X, N, sc, l, C, xs, h => by
    have h : chkSs N sc l r xs = true := h
    exact (sndSs r C xs h).impD fun D σ H q => stS_frz q
end
end
end Dl

set_option Elab.async false
set_option linter.all false
set_option maxRecDepth 100000
set_option maxHeartbeats 8000000
/-! the data layer, part 24: a def keeps its promise -/
namespace Dl
open PySem PySem.Spec PyProof.Rows L2
/-- the slots at a def's entry -/
def rho0 (n : Nat) (row : Bool) (ds : List PyData) : Env1 := (if row then [B.row] else []) ++ ds.map B.val ++ List.replicate (n - ((if row then 1 else 0) + ds.length)) B.bad
def postOf (Q : PyData → Prop) (X : Str → Prop) : Post := { nx := fun _ => Q .none, rt := Q, xc := X }
theorem St.start {W : Wd} {F H : Hp} {N : List Str} {row : Bool} {ds : List PyData} {vs : List V} (f : FOk W F H) (g : Good W H) (d : Dats W.K F vs ds) : St W F (rho0 N.length row ds) (L2.start N ((if row then [V.ref W.R] else []) ++ vs)) H := by
  have hl := d.length
  have key : ∀ (i : Nat) b v, (rho0 N.length row ds)[i]? = some b → (L2.start N ((if row then [V.ref W.R] else []) ++ vs))[i]? = some v → SlotOk W F H v b ∧ b.live = false := by
    intro i b v h1 h2
    unfold rho0 at h1
    unfold L2.start at h2
    have dat : ∀ j : Nat, (ds.map B.val ++ List.replicate (N.length - ((if row then 1 else 0) + ds.length)) B.bad)[j]? = some b → (vs.map some ++ List.replicate (N.length - (((if row then [V.ref W.R] else []) ++ vs)).length) none)[j]? = some v → SlotOk W F H v b ∧ b.live = false := by
      intro j h1 h2
      by_cases hj : j < ds.length
      · rw [List.getElem?_append_left (by simpa using hj)] at h1
        rw [List.getElem?_append_left (by simpa [hl] using hj)] at h2
        rw [List.getElem?_map] at h1 h2
        cases hd : ds[j]? with
        | none => rw [hd] at h1; cases h1
        | some d0 =>
          rw [hd] at h1
          cases h1
          obtain ⟨w, e1, e2⟩ := d.get hd
          rw [e1] at h2
          cases h2
          exact ⟨⟨w, rfl, e2⟩, rfl⟩
      · rw [List.getElem?_append_right (by simpa using Nat.le_of_not_lt hj)] at h1
        have := List.mem_of_getElem? h1
        rw [List.mem_replicate] at this
        obtain ⟨_, rfl⟩ := this
        exact ⟨trivial, rfl⟩
    cases row with
    | false => simpa using dat i (by simpa using h1) (by simpa using h2)
    | true =>
      cases i with
      | zero =>
        simp at h1 h2
        subst h1 h2
        exact ⟨rfl, rfl⟩
      | succ i => exact dat i (by simpa using h1) (by simpa using h2)
  refine ⟨f, g, ?_, fun i b v h1 h2 => (key i b v h1 h2).1, fun i j a b c h1 h2 l1 l2 h3 h4 => by rw [(key i _ _ h1 h3).2] at l1; cases l1⟩
  unfold rho0 L2.start
  cases row <;> simp [hl] <;> omega
theorem rho0_no {n : Nat} {row : Bool} {ds : List PyData} {i : Nat} {b : B} (lv : b.live = true) (h : (rho0 n row ds)[i]? = some b) : False := by
  have := List.mem_of_getElem? h
  unfold rho0 at this
  simp only [List.mem_append, List.mem_map, List.mem_replicate] at this
  rcases this with (h | ⟨_, _, h⟩) | ⟨_, h⟩
  · cases row with
    | false => simp at h
    | true => simp at h; subst h; cases lv
  · subst h; cases lv
  · subst h; cases lv
section
variable {P : Program} {w : World} {K : PySem.W.Frag} {mg : Str → Option Value} {base : Heap} {W : Wd} {Γ : Gam} {k : Nat}
structure Glb (P : Program) (w : World) (K : PySem.W.Frag) (mg : Str → Option Value) (base : Heap) (W : Wd) (Γ : Gam) (k : Nat) : Prop where
  hK : K = W.K
  hmg : mg = W.mg
  funs : ∀ f sg, Γ.funs f = some sg → FnAt P w K mg base k W f sg
  cons : ∀ x d, Γ.cons x = some d → ∃ u v, mg x = some u ∧ RelV v u ∧ ∀ F, Dat W.K F v d
  blt : ∀ x ∈ bltNames, mg x = none
theorem def_ok {x qual : Str} {st : Stmt} {f : Addr} {fd : FuncData} {N : List Str} {sg : Sig} {b : SL} {l : Bool} {m : Nat} (G : Glb P w K mg base W Γ k) (F : Fun K x qual st f fd) (S : FnScope N sg.ps (defScope st)) (hb : chkSs N (defScope st) l b (defBody st) = true)
    (hlen : ∀ ds Q X, sg.sp ds Q X → (if sg.row then 1 else 0) + ds.length = sg.ps.length) (hsp : ∀ ds Q X, sg.sp ds Q X → wpSs Γ b (rho0 N.length sg.row ds) (postOf Q X))
    (hm : k ≤ m) (hl : l = true → k + 2 ≤ m ∧ ∀ (cdv : Value) (A : Around) (outer : List Env) (s : Shared) (H : Hp) (E : XK), Room m (A.deeper (envOfC qual (defScope st) s.heap.objs.size f cdv)) → LamAt W (cxOf (L2.CX P w) P w K mg base N qual (defScope st) f cdv A outer s H E)) :
    FnOk P w K mg base (L2.CX P w) (m + 1) f fd sg.ps (spV W sg) := by
  refine F.okX S (fun vs H Q E h => ?_) fun cdv A outer s H vs Q E hr h => ⟨tBs W Γ E b, ?_, ?_⟩
  · obtain ⟨F0, ds, ws, Qd, Xd, f1, g1, rfl, d1, h1, _⟩ := h
    rw [← hlen ds Qd Xd h1, List.length_append, d1.length]
    cases sg.row <;> rfl
  · have C : CtxS W Γ k E N (defScope st) l (cxOf (L2.CX P w) P w K mg base N qual (defScope st) f cdv A outer s H E) := by
      refine ⟨⟨G.hK, G.hmg, rfl, S.nd, rfl, rfl, hr.mono hm, fun z => hr.mono (hl z).1, passes_call (W := fun cls d _ H => E cls d H) (takes_of rfl rfl rfl rfl) (fun _ _ _ _ h => h), G.funs, G.cons, G.blt, fun z => (hl z).2 cdv A outer s H E hr⟩, fun _ => rfl, S.kind, passes_of rfl⟩
    exact sndSs b C _ hb
  · obtain ⟨F0, ds, ws, Qd, Xd, f1, g1, rfl, d1, h1, h2, h3⟩ := h
    exact ⟨F0, H, F0, F0, _, _, ⟨St.start f1 g1 d1, g1, .refl _, .refl f1 g1, fun i b a q1 lv q2 => (rho0_no lv q1).elim⟩, hsp ds Qd Xd h1, ⟨fun F' ρ σ H' s' q => h2 .none .non F' H' s'.ex .non q, fun F' d v H' e r q => h2 d v F' H' e r q, fun _ _ _ _ _ z => z.elim, fun _ _ _ _ _ z => z.elim, fun n cls dd F' H' e i q => h3 n cls dd F' H' e i q⟩⟩
end
end Dl

set_option Elab.async false
set_option linter.all false
set_option maxRecDepth 100000
set_option maxHeartbeats 8000000
/-! the data layer, part 25: the error of an argument: made, raised, told -/
namespace Dl
open PySem PySem.Spec PyProof.Rows L2
/-- what the written part says of the error's class at C -/
structure ErrTxt (K : PySem.W.Frag) (mg : Str → Option Value) (C fI : Addr) : Prop where
  gC : mg "BadArgument" = some (.ref C)
  oex : OexC K C
  xf : XfC K C
  noN : PySem.W.findIn K (.ref C) "name" = some none
  iC : PySem.W.findIn K (.ref C) "__init__" = some (some (.ref fI))
  tI : PySem.W.typeIn K (.ref fI) = some (.type "function")
  te : PySem.W.exmOne K (.ref C) (.ref C) = some true
section
variable {P : Program} {w : World} {K : PySem.W.Frag} {mg : Str → Option Value} {base : Heap} {W : Wd} {Γ : Gam} {k : Nat} {C fI : Addr}
/-- self.name = name -/
def spInit (C : Addr) : Sp := fun vs H Q _ => ∃ (a : Addr) (y : V), vs = [.ref a, y] ∧ H a = some (exo a C none) ∧ ∀ dx, H dx = none → dx ≠ a → Q .non (upd (upd H dx (exd dx [(("name" : Str), y)])) a (exo a C (some dx)))
theorem ok_init {st : Stmt} {qual : Str} {f : Addr} {fd : FuncData} {p1 p2 p3 p4 : Pos} (F : Fun K "__init__" qual st f fd) (T : ErrTxt K mg C f) (S : FnScope ["self", "name"] ["self", "name"] (defScope st)) (m : Nat)
    (hb : defBody st = [.Assign [.Attribute (.Name "self" p1) "name" p2] (.Name "name" p3) p4]) : FnOk P w K mg base (L2.CX P w) (m + 1) f fd ["self", "name"] (spInit C) := by
  refine F.okX S (fun vs H Q E h => ?_) fun cdv A outer s H vs Q E hr h => ⟨tOst K "name" (tVar 0) (tVar 1), ?_, ?_⟩
  · obtain ⟨a, y, rfl, _⟩ := h; rfl
  · rw [hb]
    have v0 : PE (cxOf (L2.CX P w) P w K mg base ["self", "name"] qual (defScope st) f cdv A outer s H E) (.Name "self" p1) (tVar 0) := pe_var rfl ((S.par _ List.mem_cons_self).elim .inl fun z => .inr (.inl z)) (by decide) (by decide)
    have v1 : PE (cxOf (L2.CX P w) P w K mg base ["self", "name"] qual (defScope st) f cdv A outer s H E) (.Name "name" p3) (tVar 1) := pe_var rfl ((S.par _ (List.mem_cons_of_mem _ List.mem_cons_self)).elim .inl fun z => .inr (.inl z)) (by decide) (by decide)
    exact pss_one (ps_ost v0 v1 rfl)
  · obtain ⟨a, y, rfl, h1, h2⟩ := h
    exact ⟨_, rfl, _, rfl, a, C, rfl, T.oex, T.noN, .inl ⟨h1, fun dx n ne => h2 dx n ne⟩⟩
theorem ctx_of {qual : Str} {st : Stmt} {f : Addr} {N ps : List Str} {m : Nat} {cdv : Value} {A : Around} {outer : List Env} {s : Shared} {H : Hp} {E : XK} (G : Glb P w K mg base W Γ k) (S : FnScope N ps (defScope st)) (hm : k ≤ m) (hr : Room m (A.deeper (envOfC qual (defScope st) s.heap.objs.size f cdv))) :
    CtxS W Γ k E N (defScope st) false (cxOf (L2.CX P w) P w K mg base N qual (defScope st) f cdv A outer s H E) :=
  ⟨⟨G.hK, G.hmg, rfl, S.nd, rfl, rfl, hr.mono hm, fun z => (by cases z), passes_call (W := fun cls d _ H => E cls d H) (takes_of rfl rfl rfl rfl) (fun _ _ _ _ h => h), G.funs, G.cons, G.blt, fun z => (by cases z)⟩, fun _ => rfl, S.kind, passes_of rfl⟩
/-- demand(is_right, name) -/
def sgDemand : Sig where
  ps := ["is_right", "name"]
  row := false
  kws := []
  sp := fun ds Q X => ∃ d n b, ds = [d, .str n] ∧ truth d = some b ∧ (b = true → Q .none) ∧ (b = false → X n)
theorem del_put {H : Hp} {a dx : Addr} {C : Addr} {o o' : HO} (n : H a = none) (ne : dx ≠ a) : upd (L2.del (upd (upd (upd H a o') dx o) a (exo a C (some dx))) a) dx (.xd [] : HO) = upd H dx (.xd []) := by
  funext b
  by_cases hb : b = dx
  · subst hb; rw [upd_same, upd_same]
  · rw [upd_ne hb, upd_ne hb]
    by_cases ha : b = a
    · subst ha; rw [L2.del_same, n]
    · rw [L2.del_ne ha, upd_ne ha, upd_ne hb, upd_ne ha]
theorem del_put' {H : Hp} {a dx : Addr} {C : Addr} {o o' u : HO} (n : H a = none) (ne : dx ≠ a) : upd (L2.del (upd (upd (upd H a o') dx o) a (exo a C (some dx))) a) dx u = upd H dx u := by
  funext b
  by_cases hb : b = dx
  · subst hb; rw [upd_same, upd_same]
  · rw [upd_ne hb, upd_ne hb]
    by_cases ha : b = a
    · subst ha; rw [L2.del_same, n]
    · rw [L2.del_ne ha, upd_ne ha, upd_ne hb, upd_ne ha]
theorem ok_demand {st : Stmt} {f : Addr} {fd fdI : FuncData} {m j : Nat} {p1 p2 p3 p4 p5 p6 p7 : Pos} (hW : mg = W.mg) (hK : K = W.K) (G : Glb P w K mg base W Γ k) (F : Fun K "demand" "demand" st f fd) (S : FnScope ["is_right", "name"] ["is_right", "name"] (defScope st)) (T : ErrTxt K mg C fI)
    (FI : FnOk P w K mg base (L2.CX P w) j fI fdI ["self", "name"] (spInit C)) (bI : Binds K fdI ["self", "name"] []) (hg : (defScope st).names.lookup ("BadArgument" : Str) = some .globalImplicit)
    (hb : defBody st = [.If (.UnaryOp .Not (.Name "is_right" p1) p2) [.Raise (some (.Call (.Name "BadArgument" p3) [.Name "name" p4] [] p5)) none p6] [] p7]) (hm : k ≤ m) (hj : j + 1 ≤ m) :
    FnOk P w K mg base (L2.CX P w) (m + 1) f fd sgDemand.ps (spV W sgDemand) := by
  refine F.okX S (fun vs H Q E h => ?_) fun cdv A outer s H vs Q E hr h => ⟨tIfS (tT W Γ E (.not (.var 0))) (fun _ σ H => tMkO C (spInit C) [] (tCons (tE W Γ E (.var 1)) tNil) σ H fun cls d H' => E cls d H') tNext, ?_, ?_⟩
  · obtain ⟨F0, ds, ws, Qd, Xd, f1, g1, rfl, d1, ⟨d, n, b, rfl, _⟩, _⟩ := h
    have := d1.length
    show vs.length = 2
    exact this
  · rw [hb]
    have C1 : CtxS W Γ k E ["is_right", "name"] (defScope st) false (cxOf (L2.CX P w) P w K mg base ["is_right", "name"] "demand" (defScope st) f cdv A outer s H E) := ctx_of G S hm hr
    have x0 : chkVar ["is_right", "name"] (defScope st) 0 "is_right" = true := by
      unfold chkVar nameOk visB
      rcases S.par _ List.mem_cons_self with z | z <;> rw [z] <;> rfl
    have x1 : chkVar ["is_right", "name"] (defScope st) 1 "name" = true := by
      unfold chkVar nameOk visB
      rcases S.par _ (List.mem_cons_of_mem _ List.mem_cons_self) with z | z <;> rw [z] <;> rfl
    have ht := sndT (W := W) (Γ := Γ) (k := k) (.not (.var 0)) C1.ok (.UnaryOp .Not (.Name "is_right" p1) p2) x0
    have hn := (snd (W := W) (Γ := Γ) (k := k) (.var 1) C1.ok (.Name "name" p4) x1).e rfl
    have hr2 : Room (j + 1) (cxOf (L2.CX P w) P w K mg base ["is_right", "name"] "demand" (defScope st) f cdv A outer s H E).A := hr.mono hj
    exact pss_one (ps_if ht (pss_one (ps_raise rfl (takes_of (E := E) rfl rfl rfl rfl) (pmk_oex (X := cxOf (L2.CX P w) P w K mg base ["is_right", "name"] "demand" (defScope st) f cdv A outer s H E) (dvs := []) (ds := []) T.oex T.iC T.tI FI hr2 bI .nil passNo hg T.gC (pa_cons hn pa_nil rfl)))) pss_nil)
  · obtain ⟨F0, ds, ws, Qd, Xd, f1, g1, rfl, d1, ⟨d, n, b, rfl, h1, h2, h3⟩, h4, h5⟩ := h
    have s0 : St W F0 (rho0 2 false [d, .str n]) (L2.start ["is_right", "name"] vs) H := St.start (N := ["is_right", "name"]) (row := false) f1 g1 d1
    have hs : PyData.strOk n = true := by
      cases d1 with
      | cons a1 a2 => cases a2 with | cons b1 b2 => cases b1 with | str _ k => exact k
    refine ⟨F0, rho0 2 false [d, .str n], fun t => (!t) = b, fun _ => False, s0, ⟨d, rfl, b, h1, by simp⟩, fun t F' H' e ht => ?_, fun _ _ _ _ _ _ _ z => z.elim⟩
    subst ht
    cases t with
    | false =>
      rw [if_neg Bool.false_ne_true]
      exact h4 .none .non F' H' e .non (h2 rfl)
    | true =>
      rw [if_pos rfl]
      refine ⟨F', rho0 2 false [d, .str n], fun d' => d' = .str n, fun _ => False, s0.ext e, ⟨.str n, rfl, rfl⟩, fun d' v F2 H2 e2 r hd' => ?_, fun _ _ _ _ _ _ _ z => z.elim⟩
      subst hd'
      cases r
      refine ⟨by simp, fun a n1 => ⟨a, _, rfl, upd_same, fun dx n2 ne => ⟨rfl, dx, _, upd_same, by rw [upd_ne ne, upd_same], ?_, ?_⟩⟩⟩
      · rwa [upd_ne ne] at n2
      · rw [upd_ne ne] at n2
        rw [del_put' n1 ne]
        refine h5 n _ _ F2 _ ((e.trans e2).trans (Ext.new e2.ok e2.gd n2)) ⟨C, dx, ?_, rfl, rfl, upd_same, hs⟩ (h3 rfl)
        rw [← hW]; exact T.gC
theorem takes_len {X : Cx} {W' : WX} (t : Takes X W') : Takes X (fun c d σ H => σ.length = X.N.length → W' c d σ H) := fun u s' ⟨a, B, sI, pins, σ, H, cls, d, e, I, nb, up, sky, na, os, ag, w⟩ =>
  t u s' ⟨a, B, sI, pins, σ, H, cls, d, e, I, nb, up, sky, na, os, ag, w I.len⟩
/-- the name that a call refuses -/
theorem refused_gives {X : Cx} {sg : Scope} {g CS fI : Addr} {cdg : Value} {q : Str} {j : Nat} {p1 p2 p3 p4 p5 p6 p7 p8 p9 p10 p11 : Pos} (hK : X.K = W.K) (hW : X.mg = W.mg) (T : ErrTxt X.K X.mg CS fI) (hge : sg.names.lookup ("BadArgument" : Str) = some .globalImplicit) (hle : sg.names.lookup ("e" : Str) = some .local) :
    LamX.GivesTo X ["call", "e"] "_law_refused" sg g cdg [.Try [.Expr (.Call (.Name "call" p1) [] [] p2) p3] [.ExceptHandler (some (.Name "BadArgument" p4)) (some "e") [.Return (some (.Attribute (.Name "e" p5) "name" p6)) p7] p8] [] [] p9, .Return (some (.Constant (.str "") j p10)) p11] "call" q
      (fun tl H Q => tl (fun cls dd H' => ∃ n, IsX W n cls dd H' ∧ Q (.str n) H') H (fun _ H' => Q (.str "") H')) := by
  intro f c' s H Q tl act hc h
  let tb : WX → TS := fun W' D σ H => ∃ Ech : XK, (∀ cls d σ' H', Ech cls d H' → σ'.length = 2 → W' cls d σ' H') ∧ σ = L2.start ["call", "e"] [.ref f] ∧ H c' = some (LamX.CodeO c' q) ∧ tl Ech H (fun _ H1 => D.nx σ H1)
  let ts : Addr → Value → Option Addr → TS := fun a cls d => tRet (tXf a cls d CS "name" (tVar 1))
  refine ⟨_, pss_cons (ps_try_as (X := (cxOf C8.CX0 X.prog X.w X.K X.mg X.base ["call", "e"] "_law_refused" sg g cdg X.A X.stack s H C8.E0).nox) (c := .ref CS) (tb := tb) (ts := ts) (i := 1) (Wout := fun _ _ _ _ => False)
      rfl rfl (show (["call", "e"] : List Str).Nodup by decide) rfl hle ⟨hge, by decide, .inl T.gC⟩ L2.takes0 (fun W' pn xe tk _ => ?_) (fun a oe cls d pn hz hf => ?_)) (pss_one (ps_ret pe_str)), ?_⟩
  · refine ⟨fun pins s' σ H' D I h' => ?_⟩
    obtain ⟨Ech, hW', h1, h2, h3⟩ := h'
    have hp := act (fun c d σ H => σ.length = 2 → W' c d σ H) pn xe Ech p1 p2 (takes_len tk) hW'
    exact (pss_one (ps_expr (pos := p3) hp rfl)).run pins s' σ H' D I ⟨by rw [h1]; rfl, h2, h3⟩
  · have ve : PE ((cxOf C8.CX0 X.prog X.w X.K X.mg X.base ["call", "e"] "_law_refused" sg g cdg X.A X.stack s H C8.E0).nox.suite a ((a, oe) :: pn)) (.Name "e" p5) (tVar 1) := pe_var rfl (.inl hle) (by decide) (by decide)
    exact pss_one (ps_ret (pe_xf T.xf T.noN hz hf ve rfl))
  · refine ⟨fun cls dd H' => ∃ n, IsX W n cls dd H' ∧ Q (.str n) H', fun cls d σ' H' ⟨n, hx, hq⟩ hl => ?_, rfl, hc, h⟩
    obtain ⟨C2, d2, e1, rfl, rfl, e4, e5⟩ := hx
    have : C2 = CS := by
      have a1 := T.gC
      rw [hW, e1] at a1
      cases a1; rfl
    subst this
    refine ⟨true, T.te, fun _ a na => ?_, fun z => by cases z⟩
    refine ⟨V.ref a, ?_, rfl, rfl, d2, _, .str n, rfl, e4, rfl, hq⟩
    rw [List.getElem?_set_self (by rw [hl]; decide)]
end
end Dl

set_option Elab.async false
set_option linter.all false
set_option maxRecDepth 100000
set_option maxHeartbeats 8000000
/-! the data layer, part 26: the draws -/
namespace Dl
open PySem PySem.Spec PyProof.Rows L2
/-- an expression that is a number at these slots and this heap, which it leaves -/
structure IV (X : Cx) (e : Expr) (σ : L2.St) (H : Hp) (n : Int) : Prop where
  run : ∀ (pins : List (Addr × Obj)) (s : Shared) (Q : VK), Inv X pins σ H s → Q (.int n) H → wpAny (model X.prog X.w) X.A (eval e X.env) (EP X pins σ Q) X.xe s
def tIv (X : Cx) (e : Expr) : TE := fun σ H Q => ∃ n, IV X e σ H n ∧ Q (.int n) H
section
variable {X : Cx} {e e' : Expr} {σ : L2.St} {H : Hp} {a b : Int} {pos : Pos}
theorem pe_iv : PE X e (tIv X e) := ⟨fun pins s σ H Q I ⟨n, h, q⟩ => h.run pins s Q I q⟩
theorem IV.of {t : TE} (h : PE X e t) (ht : ∀ Q : VK, Q (.int a) H → t σ H Q) : IV X e σ H a := ⟨fun pins s Q I q => h.run pins s σ H Q I (ht Q q)⟩
theorem iv_c {j : Nat} : IV X (.Constant (.int a) j pos) σ H a := .of pe_int fun Q q => q
theorem iv_add (h : IV X e σ H a) (h' : IV X e' σ H b) : IV X (.BinOp e .Add e' pos) σ H (a + b) := .of (pe_op op_add pe_iv pe_iv) fun Q q => ⟨a, h, b, h', _, _, rfl, rfl, q⟩
theorem iv_sub (h : IV X e σ H a) (h' : IV X e' σ H b) : IV X (.BinOp e .Sub e' pos) σ H (a - b) := .of (pe_op op_sub pe_iv pe_iv) fun Q q => ⟨a, h, b, h', _, _, rfl, rfl, q⟩
theorem iv_mul (h : IV X e σ H a) (h' : IV X e' σ H b) (c : -(2 ^ 64) < b ∧ b < 2 ^ 64) : IV X (.BinOp e .Mult e' pos) σ H (a * b) := .of (pe_op op_mul pe_iv pe_iv) fun Q q => ⟨a, h, b, h', _, _, rfl, rfl, .inr c, q⟩
theorem iv_mod (h : IV X e σ H a) (h' : IV X e' σ H b) (c : 0 < b) : IV X (.BinOp e .Mod e' pos) σ H (a % b) := .of (pe_op op_mod pe_iv pe_iv) fun Q q => ⟨a, h, b, h', _, _, rfl, rfl, c, q⟩
theorem iv_div (h : IV X e σ H a) (h' : IV X e' σ H b) (c : 0 < b) (c2 : b < 2 ^ 64) : IV X (.BinOp e .FloorDiv e' pos) σ H (a / b) := .of (pe_op op_fdivW pe_iv pe_iv) fun Q q => ⟨a, h, b, h', _, _, rfl, rfl, ⟨c, by
  have : b.natAbs < 2 ^ 64 := by omega
  have := (Nat.log2_lt (n := b.natAbs) (k := 64) (by omega)).mpr this
  omega⟩, q⟩
theorem iv_pow (h : IV X e σ H a) (h' : IV X e' σ H b) (c : a.natAbs < 2 ^ 64) (c1 : 0 ≤ b) (c2 : b ≤ 1000000) : IV X (.BinOp e .Pow e' pos) σ H (a ^ b.toNat) := .of (pe_op op_pow pe_iv pe_iv) fun Q q => ⟨a, h, b, h', _, _, rfl, rfl, ⟨c1, c2, c⟩, q⟩
theorem iv_int {p : Pos} (hg : Gl X "int") (hm : X.mg "int" = none) (hs : isStar e = false) (h : IV X e σ H a) : IV X (.Call (.Name "int" p) [e] [] pos) σ H a :=
  .of (pe_callTy call_int1 hg hm (by decide +kernel) (pa_cons pe_iv pa_nil (star_ok hs [] X.env)) (by decide) (by decide) (star_ok hs [] X.env) rfl) fun Q q => ⟨a, h, .inl ⟨a, rfl, q⟩⟩
theorem iv_var {i : Nat} {x : Str} (hN : X.N[i]? = some x) (hv : Vis X.env.scope x) (h1 : (x == ("__debug__" : Str)) = false) (h2 : (x == ("__classdict__" : Str)) = false) (h : σ[i]? = some (some (.int a))) : IV X (.Name x pos) σ H a := .of (pe_var hN hv h1 h2) fun Q q => ⟨_, h, q⟩
/-- a number at a place of a list that a name holds -/
theorem iv_at {i k : Nat} {x : Str} {R : Addr} {vs : List V} {j : Nat} {p p2 : Pos} (hN : X.N[i]? = some x) (hv : Vis X.env.scope x) (h1 : (x == ("__debug__" : Str)) = false) (h2 : (x == ("__classdict__" : Str)) = false) (h : σ[i]? = some (some (.ref R))) (hR : H R = some (.lst vs)) (hk : atI vs (k : Int) = some (.int a)) :
    IV X (.Subscript (.Name x p) (.Constant (.int (k : Int)) j p2) pos) σ H a := .of (pe_ix ix_list (pe_var hN hv h1 h2) pe_int (by intro o i; rfl)) fun Q q => ⟨_, h, R, vs, k, _, rfl, rfl, .inl (.inl hR), hk, q⟩
/-- the length of a list at a place of a list -/
theorem iv_len {i k : Nat} {x : Str} {R S : Addr} {vs ws : List V} {j : Nat} {p p2 p3 p4 : Pos} (hg : Gl X "len") (hm : X.mg "len" = none) (hN : X.N[i]? = some x) (hv : Vis X.env.scope x) (h1 : (x == ("__debug__" : Str)) = false) (h2 : (x == ("__classdict__" : Str)) = false) (h : σ[i]? = some (some (.ref R))) (hR : H R = some (.lst vs)) (hk : atI vs (k : Int) = some (.ref S)) (hS : SqL X.K H S ws) :
    IV X (.Call (.Name "len" p3) [.Subscript (.Name x p) (.Constant (.int (k : Int)) j p2) p4] [] pos) σ H (ws.length : Int) :=
  .of (pe_callB call_len_seq hg hm (by decide +kernel) (pa_cons (pe_ix ix_list (pe_var hN hv h1 h2) pe_int (by intro o i; rfl)) pa_nil rfl)) fun Q q => ⟨_, h, R, vs, k, _, rfl, rfl, .inl (.inl hR), hk, S, ws, rfl, .inl hS, q⟩
/-- a number at a place of a list at a place of a list -/
theorem iv_at2 {i k : Nat} {x : Str} {R S : Addr} {vs ws : List V} {j : Nat} {p p2 p3 : Pos} (hN : X.N[i]? = some x) (hv : Vis X.env.scope x) (h1 : (x == ("__debug__" : Str)) = false) (h2 : (x == ("__classdict__" : Str)) = false) (h : σ[i]? = some (some (.ref R))) (hR : H R = some (.lst vs)) (hk : atI vs (k : Int) = some (.ref S)) (hS : SqL X.K H S ws)
    (hp : plainIx e = true) (he : IV X e σ H b) (hb : atI ws b = some (.int a)) : IV X (.Subscript (.Subscript (.Name x p) (.Constant (.int (k : Int)) j p2) p3) e pos) σ H a :=
  .of (pe_ix ix_list (pe_ix ix_list (pe_var hN hv h1 h2) pe_int (by intro o i; rfl)) pe_iv (plain_ix hp)) fun Q q => ⟨_, h, R, vs, k, _, rfl, rfl, .inl (.inl hR), hk, b, he, S, ws, b, _, rfl, rfl, hS, hb, q⟩
/-- row[k] = e -/
theorem ps_iv {i k : Nat} {x : Str} {j : Nat} {p p2 p3 : Pos} (hN : X.N[i]? = some x) (hv : Vis X.env.scope x) (h1 : (x == ("__debug__" : Str)) = false) (h2 : (x == ("__classdict__" : Str)) = false) (hc : isComp e = false) (ht : isTupE e = false) :
    PS X (.Assign [.Subscript (.Name x p) (.Constant (.int (k : Int)) j p2) p3] e pos) (fun D σ H => ∃ n, IV X e σ H n ∧ ∃ R vs, σ[i]? = some (some (.ref R)) ∧ H R = some (.lst vs) ∧ k < vs.length ∧ D.nx σ (upd H R (.lst (vs.set k (.int n))))) := by
  refine (ps_asg pe_iv (pg_sub (pe_var hN hv h1 h2) pe_int set_list (by intro _; rfl)) (no_swap hc (some (.Subscript (.Name x p) (.Constant (.int (k : Int)) j p2) p3)) pos.line X.env) (stores_none ht) rfl).impD fun D σ H q => ?_
  obtain ⟨n, h, R, vs, g1, g2, g3, g4⟩ := q
  refine ⟨n, h, _, g1, R, vs, k, k, rfl, rfl, g2, ?_, g4⟩
  unfold ixN
  rw [if_pos (by omega), if_pos (by omega)]
  simp
theorem ps_ivn {i : Nat} {x : Str} {p : Pos} (hnd : X.N.Nodup) (hN : X.N[i]? = some x) (hl : X.env.scope.names.lookup x = some .local) (hc : isComp e = false) :
    PS X (.Assign [.Name x p] e pos) (fun D σ H => ∃ n, IV X e σ H n ∧ D.nx (σ.set i (some (.int n))) H) :=
  (ps_set hnd hN (.inl hl) pe_iv (no_swap hc (some (.Name x p)) pos.line X.env) (.inr hl)).impD fun D σ H q => q
theorem ps_ivr : PS X (.Return (some e) pos) (fun D σ H => ∃ n, IV X e σ H n ∧ D.rt (.int n) H) := (ps_ret pe_iv).impD fun D σ H q => q
theorem pt_gt (hm : behindInMarks .Gt e' = false) : PT X (.Compare e [.Gt] [e'] pos) (fun σ H Q => ∃ a b, IV X e σ H a ∧ IV X e' σ H b ∧ Q (decide (b < a)) H) :=
  (pt_cmpR op_gt pe_iv pe_iv hm).impD fun σ H Q ⟨a, b, h, h', q⟩ => ⟨a, h, b, h', a, b, rfl, rfl, _, rfl, q⟩
theorem pt_ge (hm : behindInMarks .GtE e' = false) : PT X (.Compare e [.GtE] [e'] pos) (fun σ H Q => ∃ a b, IV X e σ H a ∧ IV X e' σ H b ∧ Q (decide (b ≤ a)) H) :=
  (pt_cmpR op_ge pe_iv pe_iv hm).impD fun σ H Q ⟨a, b, h, h', q⟩ => ⟨a, h, b, h', a, b, rfl, rfl, _, rfl, q⟩
end
def sgTaken : Sig where
  ps := ["row", "many"]
  row := true
  kws := []
  sp := fun ds Q X => ∃ m : Int, ds = [.int m] ∧ 0 < m ∧ m ≤ 1000000000000 ∧ ∀ r : Int, 0 ≤ r → r < m → Q (.int r)
section
variable {P : Program} {w : World} {K : PySem.W.Frag} {mg : Str → Option Value} {base : Heap} {W : Wd}
theorem row_step {F H : Hp} {i s g i' s' g' : Int} (f : FOk W F H) (gd : Good W H) (h : H W.R = some (.lst [.ref W.S, .int i, .int s, .int g])) (h1 : 0 ≤ i') (h2 : 0 ≤ s') (h3 : s' < 2147483647) (h4 : 0 ≤ g') (h5 : g' < 10 ^ 90) :
    Ext W F H F (upd H W.R (.lst [.ref W.S, .int i', .int s', .int g'])) := by
  have sb : FOk W F (upd H W.R (.lst [.ref W.S, .int i', .int s', .int g'])) := ⟨fun b o q => by
    have hb : b ≠ W.R := fun z => by rw [z, f.nr] at q; cases q
    rw [upd_ne hb]; exact f.sub b o q, f.imm, f.nr⟩
  refine ⟨fun b o q1 q2 q3 => by rw [upd_ne q3]; exact q1, .refl _, fun b o q1 q2 q3 => q1, sb, ?_⟩
  obtain ⟨⟨_, ns, hs, hl1, hl2⟩, t⟩ := gd
  refine ⟨⟨⟨i', s', g', upd_same, h1, h2, h3, h4, h5⟩, ns, hs.imp fun o q _ n => by rw [upd_ne n]; exact q, hl1, hl2⟩, fun p hp => ?_⟩
  · obtain ⟨ps, t1, t2, t3⟩ := t p hp
    have n1 : p.1 ≠ W.R := fun z => by rw [z, h] at t1; cases t1
    refine ⟨ps, by rw [upd_ne n1]; exact t1, t2, fun pos cv q => ?_⟩
    obtain ⟨c, c1, c2⟩ := t3 pos cv q
    have n2 : c ≠ W.R := fun z => by rw [z, h] at c2; cases c2
    exact ⟨c, c1, by rw [upd_ne n2]; exact c2⟩
structure TkX (X : Cx) : Prop where
  hN : X.N = (["row", "many", "found", "cell"] : List Str)
  vr : Vis X.env.scope ("row" : Str)
  vm : Vis X.env.scope "many"
  vf : Vis X.env.scope "found"
  vc : Vis X.env.scope "cell"
  gi : Gl X "int"
  gl : Gl X "len"
  mi : X.mg "int" = none
  ml : X.mg "len" = none
section
variable {X : Cx} {σ : L2.St} {H : Hp} {p p2 p3 p4 pos : Pos} {j : Nat} {R S : Addr} {vs ws : List V} {a b : Int} {e : Expr}
theorem TkX.row (T : TkX X) (k : Nat) (h : σ[0]? = some (some (.ref R))) (hR : H R = some (.lst vs)) (hk : atI vs (k : Int) = some (.int a)) : IV X (.Subscript (.Name "row" p) (.Constant (.int (k : Int)) j p2) pos) σ H a := iv_at (by rw [T.hN]; rfl) T.vr (by decide) (by decide) h hR hk
theorem TkX.many (T : TkX X) (h : σ[1]? = some (some (.int a))) : IV X (.Name "many" pos) σ H a := iv_var (i := 1) (by rw [T.hN]; rfl) T.vm (by decide) (by decide) h
theorem TkX.found (T : TkX X) (h : σ[2]? = some (some (.int a))) : IV X (.Name "found" pos) σ H a := iv_var (i := 2) (by rw [T.hN]; rfl) T.vf (by decide) (by decide) h
theorem TkX.cell (T : TkX X) (h : σ[3]? = some (some (.int a))) : IV X (.Name "cell" pos) σ H a := iv_var (i := 3) (by rw [T.hN]; rfl) T.vc (by decide) (by decide) h
theorem TkX.int (T : TkX X) (hs : isStar e = false) (h : IV X e σ H a) : IV X (.Call (.Name "int" p) [e] [] pos) σ H a := iv_int T.gi T.mi hs h
theorem TkX.len (T : TkX X) {k : Nat} (h : σ[0]? = some (some (.ref R))) (hR : H R = some (.lst vs)) (hk : atI vs (k : Int) = some (.ref S)) (hS : SqL X.K H S ws) : IV X (.Call (.Name "len" p3) [.Subscript (.Name "row" p) (.Constant (.int (k : Int)) j p2) p4] [] pos) σ H (ws.length : Int) := iv_len T.gl T.ml (by rw [T.hN]; rfl) T.vr (by decide) (by decide) h hR hk hS
theorem TkX.at2 (T : TkX X) {k : Nat} (h : σ[0]? = some (some (.ref R))) (hR : H R = some (.lst vs)) (hk : atI vs (k : Int) = some (.ref S)) (hS : SqL X.K H S ws) (hp : plainIx e = true) (he : IV X e σ H b) (hb : atI ws b = some (.int a)) :
    IV X (.Subscript (.Subscript (.Name "row" p) (.Constant (.int (k : Int)) j p2) p3) e pos) σ H a := iv_at2 (by rw [T.hN]; rfl) T.vr (by decide) (by decide) h hR hk hS hp he hb
end
theorem ok_taken {st : Stmt} {f : Addr} {fd : FuncData} {m : Nat} {p1 p2 p3 p4 p5 p6 p7 p8 p9 p10 p11 p12 p13 p14 p15 p16 p17 p18 p19 p20 p21 p22 p23 p24 p25 p26 p27 p28 p29 p30 p31 p32 p33 p34 p35 p36 p37 p38 p39 p40 p41 p42 p43 p44 p45 p46 p47 p48 p49 p50 p51 p52 p53 p54 p55 p56 p57 p58 p59 p60 p61 p62 p63 p64 p65 p66 p67 p68 p69 p70 p71 p72 p73 p74 p75 p76 p77 p78 p79 p80 p81 p82 p83 p84 p85 p86 p87 p88 p89 p90 p91 p92 p93 p94 p95 p96 p97 p98 p99 p100 p101 p102 p103 p104 p105 p106 p107 p108 p109 p110 p111 p112 p113 p114 p115 p116 p117 p118 p119 p120 p121 p122 p123 p124 p125 p126 p127 : Pos} (hW : mg = W.mg) (hK : K = W.K) (F : Fun K "_law_taken" "_law_taken" st f fd) (S : FnScope ["row", "many", "found", "cell"] ["row", "many"] (defScope st))
    (gi : (defScope st).names.lookup ("int" : Str) = some .globalImplicit) (gl : (defScope st).names.lookup ("len" : Str) = some .globalImplicit) (lf : (defScope st).names.lookup ("found" : Str) = some .local) (lc : (defScope st).names.lookup ("cell" : Str) = some .local) (mi : mg "int" = none) (ml : mg "len" = none)
    (hb : defBody st = [.If (.Compare (.Subscript (.Name "row" p1) (.Constant (.int 3) 0 p2) p3) [.Gt] [(.Constant (.int 0) 0 p4)] p5) [.Assign [(.Name "found" p6)] (.BinOp (.Call (.Name "int" p7) [(.Subscript (.Name "row" p8) (.Constant (.int 3) 0 p9) p10)] [] p11) .Mod (.Name "many" p12) p13) p14, .Assign [(.Subscript (.Name "row" p15) (.Constant (.int 3) 0 p16) p17)] (.BinOp (.Subscript (.Name "row" p18) (.Constant (.int 3) 0 p19) p20) .FloorDiv (.Name "many" p21) p22) p23, .Return (some (.Name "found" p24)) p25] [] p26, .Assign [(.Subscript (.Name "row" p27) (.Constant (.int 1) 0 p28) p29)] (.BinOp (.Subscript (.Name "row" p30) (.Constant (.int 1) 0 p31) p32) .Add (.Constant (.int 1) 0 p33) p34) p35, .If (.Compare (.Subscript (.Name "row" p36) (.Constant (.int 1) 0 p37) p38) [.Gt] [(.Call (.Name "len" p39) [(.Subscript (.Name "row" p40) (.Constant (.int 0) 0 p41) p42)] [] p43)] p44) [.Assign [(.Subscript (.Name "row" p45) (.Constant (.int 2) 0 p46) p47)] (.BinOp (.Call (.Name "int" p48) [(.BinOp (.BinOp (.Subscript (.Name "row" p49) (.Constant (.int 2) 0 p50) p51) .Mult (.Constant (.int 48271) 0 p52) p53) .Add (.Constant (.int 11) 0 p54) p55)] [] p56) .Mod (.Constant (.int 2147483647) 0 p57) p58) p59, .Return (some (.BinOp (.Call (.Name "int" p60) [(.BinOp (.Subscript (.Name "row" p61) (.Constant (.int 2) 0 p62) p63) .FloorDiv (.Constant (.int 7) 0 p64) p65)] [] p66) .Mod (.Name "many" p67) p68)) p69] [] p70, .Assign [(.Name "cell" p71)] (.Subscript (.Subscript (.Name "row" p72) (.Constant (.int 0) 0 p73) p74) (.BinOp (.Subscript (.Name "row" p75) (.Constant (.int 1) 0 p76) p77) .Sub (.Constant (.int 1) 0 p78) p79) p80) p81, .Assign [(.Subscript (.Name "row" p82) (.Constant (.int 2) 0 p83) p84)] (.BinOp (.Call (.Name "int" p85) [(.BinOp (.BinOp (.BinOp (.Subscript (.Name "row" p86) (.Constant (.int 2) 0 p87) p88) .Mult (.Constant (.int 48271) 0 p89) p90) .Add (.Call (.Name "int" p91) [(.Name "cell" p92)] [] p93) p94) .Add (.Constant (.int 11) 0 p95) p96)] [] p97) .Mod (.Constant (.int 2147483647) 0 p98) p99) p100, .If (.Compare (.Name "cell" p101) [.GtE] [(.BinOp (.Constant (.int 10) 0 p102) .Pow (.Constant (.int 18) 0 p103) p104)] p105) [.Assign [(.Subscript (.Name "row" p106) (.Constant (.int 3) 0 p107) p108)] (.BinOp (.Call (.Name "int" p109) [(.BinOp (.Call (.Name "int" p110) [(.Name "cell" p111)] [] p112) .Mod (.BinOp (.Constant (.int 10) 0 p113) .Pow (.Constant (.int 90) 0 p114) p115) p116)] [] p117) .FloorDiv (.Name "many" p118) p119) p120] [] p121, .Return (some (.BinOp (.Call (.Name "int" p122) [(.Name "cell" p123)] [] p124) .Mod (.Name "many" p125) p126)) p127]) : FnOk P w K mg base (L2.CX P w) (m + 1) f fd sgTaken.ps (spV W sgTaken) := by
  refine F.okX S (fun vs H Q E h => ?_) fun cdv A outer s H vs Q E hr h => ?_
  · obtain ⟨F0, ds, ws, Qd, Xd, f1, g1, rfl, d1, ⟨m, rfl, _⟩, _⟩ := h
    have := d1.length
    show (V.ref W.R :: ws).length = 2
    simpa using this
  rw [hb]
  have vr : Vis (defScope st) "row" := (S.par _ List.mem_cons_self).elim .inl fun z => .inr (.inl z)
  have vm : Vis (defScope st) "many" := (S.par _ (List.mem_cons_of_mem _ List.mem_cons_self)).elim .inl fun z => .inr (.inl z)
  refine ⟨_, pss_cons (ps_if (pt_gt rfl) (pss_cons (ps_ivn S.nd (i := 2) rfl lf rfl) (pss_cons (ps_iv (k := 3) (i := 0) rfl vr (by decide) (by decide) rfl rfl) (pss_one ps_ivr))) pss_nil)
    (pss_cons (ps_iv (k := 1) (i := 0) rfl vr (by decide) (by decide) rfl rfl) (pss_cons (ps_if (pt_gt rfl) (pss_cons (ps_iv (k := 2) (i := 0) rfl vr (by decide) (by decide) rfl rfl) (pss_one ps_ivr)) pss_nil)
    (pss_cons (ps_ivn S.nd (i := 3) rfl lc rfl) (pss_cons (ps_iv (k := 2) (i := 0) rfl vr (by decide) (by decide) rfl rfl) (pss_cons (ps_if (pt_ge rfl) (pss_one (ps_iv (k := 3) (i := 0) rfl vr (by decide) (by decide) rfl rfl)) pss_nil) (pss_one ps_ivr)))))), ?_⟩
  obtain ⟨F0, ds, ws, Qd, Xd, f1, g1, rfl, d1, ⟨m, rfl, hm, hm2, hq⟩, h4, _⟩ := h
  have ew : ws = [V.int m] := by
    cases d1 with
    | cons a1 a2 => cases a1; cases a2; rfl
  subst ew
  obtain ⟨⟨⟨i, sd, g, e, hi, hs1, hs2, hg1, hg2⟩, ns, hns, hl, hbits⟩, ht⟩ := id g1
  have mret : ∀ (x : Int) (F' : Hp) (H' : Hp), Ext W F0 H F' H' → Q (.int (x % m)) H' := fun x F' H' ex => h4 (.int (x % m)) _ F' H' ex (.int _) (hq _ (Int.emod_nonneg _ (by omega)) (Int.emod_lt_of_pos _ hm))
  have m64 : m < 2 ^ 64 := by omega
  have big : ∀ x : Int, 0 ≤ x % 2147483647 ∧ x % 2147483647 < 2147483647 := fun x => ⟨Int.emod_nonneg _ (by decide), Int.emod_lt_of_pos _ (by decide)⟩
  have T : TkX (cxOf (L2.CX P w) P w K mg base ["row", "many", "found", "cell"] "_law_taken" (defScope st) f cdv A outer s H E) := ⟨rfl, vr, vm, .inl lf, .inl lc, gi, gl, mi, ml⟩
  have z0 : (0 : Int) ≤ 0 := by decide
  refine ⟨g, 0, T.row 3 rfl e rfl, iv_c, ?_⟩
  dsimp only
  by_cases c : 0 < g
  · rw [if_pos (decide_eq_true c)]
    refine ⟨g % m, iv_mod (T.int rfl (T.row 3 rfl e rfl)) (T.many rfl) hm, g / m, iv_div (T.row 3 rfl e rfl) (T.many rfl) hm m64, _, _, rfl, e, by show 3 < 4; decide, g % m, T.found rfl, ?_⟩
    exact mret g _ _ (row_step f1 g1 e hi hs1 hs2 (Int.ediv_nonneg hg1 (by omega)) (Int.lt_of_le_of_lt (Int.ediv_le_self _ hg1) hg2))
  · rw [if_neg (show ¬ decide (0 < g) = true by simpa using c)]
    refine ⟨i + 1, iv_add (T.row 1 rfl e rfl) iv_c, _, _, rfl, e, by show 1 < 4; decide, ?_⟩
    have x1 := row_step f1 g1 e (i' := i + 1) (s' := sd) (g' := g) (by omega) hs1 hs2 hg1 hg2
    have e1 : (upd H W.R (.lst [.ref W.S, .int (i + 1), .int sd, .int g])) W.R = some (.lst [.ref W.S, .int (i + 1), .int sd, .int g]) := upd_same
    have hns1 : SqL K (upd H W.R (.lst [.ref W.S, .int (i + 1), .int sd, .int g])) W.S (ns.map V.int) := by
      rw [hK]; exact (hns.imp fun o q _ n => by rw [upd_ne n]; exact q).sq
    refine ⟨i + 1, (ns.length : Int), T.row 1 rfl e1 rfl, by rw [← List.length_map (f := V.int)]; exact T.len (k := 0) rfl e1 rfl hns1, ?_⟩
    dsimp only
    by_cases c2 : (ns.length : Int) < i + 1
    · rw [if_pos (decide_eq_true c2)]
      refine ⟨_, iv_mod (T.int rfl (iv_add (iv_mul (T.row 2 rfl e1 rfl) iv_c (by decide)) iv_c)) iv_c (by decide), _, _, rfl, e1, by show 2 < 4; decide, ?_⟩
      have x2 := row_step x1.ok x1.gd e1 (i' := i + 1) (s' := (sd * 48271 + 11) % 2147483647) (g' := g) (by omega) (big _).1 (big _).2 hg1 hg2
      exact ⟨_, iv_mod (T.int rfl (iv_div (T.row 2 rfl upd_same rfl) iv_c (by decide) (by decide))) (T.many rfl) hm, mret _ _ _ (x1.trans x2)⟩
    · rw [if_neg (show ¬ decide ((ns.length : Int) < i + 1) = true by simpa using c2)]
      have hj : i.toNat < ns.length := by omega
      have hz : ns[i.toNat]? = some (ns[i.toNat]) := List.getElem?_eq_getElem hj
      generalize ns[i.toNat] = z at hz
      have hat : atI (ns.map V.int) (i + 1 - 1) = some (.int z) := by
        unfold atI ixN
        rw [if_pos (by omega), List.length_map, if_pos (by omega), show (i + 1 - 1).toNat = i.toNat by omega]
        show (ns.map V.int)[i.toNat]? = _
        rw [List.getElem?_map, hz]; rfl
      refine ⟨z, T.at2 (k := 0) rfl e1 rfl hns1 rfl (iv_sub (T.row 1 rfl e1 rfl) iv_c) hat, ?_⟩
      refine ⟨_, iv_mod (T.int rfl (iv_add (iv_add (iv_mul (T.row 2 rfl e1 rfl) iv_c (by decide)) (T.int rfl (T.cell rfl))) iv_c)) iv_c (by decide), _, _, rfl, e1, by show 2 < 4; decide, ?_⟩
      have x2 := row_step x1.ok x1.gd e1 (i' := i + 1) (s' := (sd * 48271 + z + 11) % 2147483647) (g' := g) (by omega) (big _).1 (big _).2 hg1 hg2
      have e2 : (upd (upd H W.R (.lst [.ref W.S, .int (i + 1), .int sd, .int g])) W.R (.lst [.ref W.S, .int (i + 1), .int ((sd * 48271 + z + 11) % 2147483647), .int g])) W.R = some (.lst [.ref W.S, .int (i + 1), .int ((sd * 48271 + z + 11) % 2147483647), .int g]) := upd_same
      refine ⟨z, _, T.cell rfl, iv_pow iv_c iv_c (by decide) (by decide) (by decide), ?_⟩
      dsimp only
      by_cases c3 : (10 : Int) ^ (18 : Int).toNat ≤ z
      · rw [if_pos (decide_eq_true c3)]
        refine ⟨_, iv_div (T.int rfl (iv_mod (T.int rfl (T.cell rfl)) (iv_pow iv_c iv_c (by decide) (by decide) (by decide)) (by decide))) (T.many rfl) hm m64, _, _, rfl, e2, by show 3 < 4; decide, ?_⟩
        have b1 : 0 ≤ z % (10 : Int) ^ (90 : Int).toNat := Int.emod_nonneg _ (by decide)
        have b2 : z % (10 : Int) ^ (90 : Int).toNat < 10 ^ 90 := Int.emod_lt_of_pos _ (by decide)
        have x3 := row_step x2.ok x2.gd e2 (i' := i + 1) (s' := (sd * 48271 + z + 11) % 2147483647) (g' := z % (10 : Int) ^ (90 : Int).toNat / m) (by omega) (big _).1 (big _).2 (Int.ediv_nonneg b1 (by omega)) (Int.lt_of_le_of_lt (Int.ediv_le_self _ b1) b2)
        exact ⟨_, iv_mod (T.int rfl (T.cell rfl)) (T.many rfl) hm, mret _ _ _ ((x1.trans x2).trans x3)⟩
      · rw [if_neg (show ¬ decide ((10 : Int) ^ (18 : Int).toNat ≤ z) = true by simpa using c3)]
        exact ⟨_, iv_mod (T.int rfl (T.cell rfl)) (T.many rfl) hm, mret _ _ _ (x1.trans x2)⟩
end
end Dl

set_option Elab.async false
set_option linter.all false
set_option maxRecDepth 100000
set_option maxHeartbeats 8000000
/-! the data layer, part 27: whether two values are alike; one of some things; the law's own loop -/
namespace Dl
open PySem PySem.Spec PyProof.Rows L2
def b__law_pick : SL := (.cons (.ret (.idx (.var 1) (.call "_law_taken" (some 0) (.cons (.blt .len (.cons (.var 1) .nil)) .nil) [] .nil))) .nil)
def b__law_alike : SL := (.cons (.ife (.isi (.var 1) "tuple") (.cons (.ife (.ors (.cons (.not (.isi (.var 0) "tuple")) (.cons (.cmp .NotEq (.blt .len (.cons (.var 0) .nil)) (.blt .len (.cons (.var 1) .nil))) .nil))) (.cons (.ret (.cst (.bl false))) .nil) .nil) (.cons (.ret (.cmp .Eq (.lc (.var 2) [("at", 2)] (.name 2 "at") (.rng1 (.blt .len (.cons (.var 1) .nil))) (.cons (.not (.call "_law_alike" none (.cons (.idx (.var 0) (.var 2)) (.cons (.idx (.var 1) (.var 2)) .nil)) [] .nil)) .nil)) (.lst .nil))) .nil)) .nil) (.cons (.ife (.ors (.cons (.cmp .Is (.var 1) (.cst .non)) (.cons (.isi (.var 1) "str") .nil))) (.cons (.ret (.ands (.cons (.cmp .Eq (.var 0) (.var 1)) (.cons (.cmp .Eq (.isi (.var 0) "str") (.isi (.var 1) "str")) .nil)))) .nil) .nil) (.cons (.ret (.ands (.cons (.isi (.var 0) "int") (.cons (.cmp .Eq (.isi (.var 0) "bool") (.isi (.var 1) "bool")) (.cons (.cmp .Eq (.var 0) (.var 1)) .nil))))) .nil)))
/-! ### reading what is wanted -/
theorem opt_get {α : Type} {o : Option α} {r : α} {Q : α → Prop} (h : o = some r) (q : Q r) : opt o Q := ⟨r, h, q⟩
@[simp] theorem valAt_nil {i : Nat} : valAt [] i = none := by unfold valAt; rfl
@[simp] theorem valAt_val {d : PyData} {r : Env1} : valAt (.val d :: r) 0 = some d := rfl
@[simp] theorem valAt_own {d : List PyData} {r : Env1} : valAt (.own d :: r) 0 = none := rfl
@[simp] theorem valAt_bad {r : Env1} : valAt (.bad :: r) 0 = none := rfl
@[simp] theorem valAt_row {r : Env1} : valAt (.row :: r) 0 = none := rfl
@[simp] theorem valAt_succ {b : B} {r : Env1} {i : Nat} : valAt (b :: r) (i + 1) = valAt r i := rfl
@[simp] theorem ownAt_own {d : List PyData} {r : Env1} : ownAt (.own d :: r) 0 = some d := rfl
@[simp] theorem ownAt_succ {b : B} {r : Env1} {i : Nat} : ownAt (b :: r) (i + 1) = ownAt r i := rfl
def sgPick : Sig where
  ps := ["row", "some"]
  row := true
  kws := []
  sp := fun ds Q X => ∃ xs, ds = [.list xs] ∧ 0 < xs.length ∧ xs.length ≤ 1000000 ∧ ∀ d ∈ xs, Q d
theorem mem_at {xs : List PyData} {r : Int} (h : 0 ≤ r) (h2 : r < xs.length) : ∃ d, atI xs r = some d ∧ d ∈ xs := by
  have h3 : r.toNat < xs.length := by omega
  refine ⟨xs[r.toNat], ?_, List.getElem_mem h3⟩
  unfold atI ixN
  rw [if_pos h, if_pos h2]
  exact List.getElem?_eq_getElem h3
theorem pick_wp {Γ : Gam} (ht : Γ.funs "_law_taken" = some sgTaken) (ds : List PyData) (Q : PyData → Prop) (X : Str → Prop) (h : sgPick.sp ds Q X) : wpSs Γ b__law_pick (rho0 2 true ds) (postOf Q X) := by
  obtain ⟨xs, rfl, h1, h2, h3⟩ := h
  refine ⟨_, rfl, sgTaken, ht, ⟨rfl, rfl⟩, _, rfl, _, rfl, _, rfl, by omega, by omega, fun r hr hr2 => ?_⟩
  obtain ⟨d, e, hd⟩ := mem_at hr hr2
  exact ⟨d, e, h3 d hd⟩
/-- a walk of which each turn gives what g tells -/
theorem wpL_map {f : PyData → (Option PyData → Prop) → Prop} {g : PyData → Option PyData} : ∀ {xs : List PyData} {Q : List PyData → Prop}, (∀ x ∈ xs, ∀ k, k (g x) → f x k) → Q (xs.filterMap g) → wpL f xs Q
  | [], Q, _, q => q
  | x :: xs, Q, h, q => by
    refine h x List.mem_cons_self _ (wpL_map (fun y hy => h y (List.mem_cons_of_mem _ hy)) ?_)
    rw [List.filterMap_cons] at q
    cases hg : g x with
    | none => rw [hg] at q; exact q
    | some y => rw [hg] at q; exact q
/-- a walk of which each turn gives something of a kind -/
theorem wpL_rel {f : PyData → (Option PyData → Prop) → Prop} {R : PyData → Prop} : ∀ {xs : List PyData} {Q : List PyData → Prop}, (∀ x ∈ xs, ∀ k, (∀ y, R y → k (some y)) → f x k) → (∀ ys, ys.length = xs.length → (∀ y ∈ ys, R y) → Q ys) → wpL f xs Q
  | [], Q, _, q => q [] rfl (fun y hy => by cases hy)
  | x :: xs, Q, h, q => by
    refine h x List.mem_cons_self _ fun y hy => wpL_rel (R := R) (fun z hz => h z (List.mem_cons_of_mem _ hz)) fun ys hl hr => q (y :: ys) (by simp [hl]) fun z hz => ?_
    rcases List.mem_cons.mp hz with rfl | hz
    · exact hy
    · exact hr z hz
/-! ### alike -/
mutual
def alike : PyData → PyData → Bool
  | f, .tuple es => match f with
    | .tuple fs => alikes fs es
    | _ => false
  | f, .none => match f with | .none => true | _ => false
  | f, .str s => match f with | .str t => t == s | _ => false
  | f, .bool b => match f with | .bool c => c == b | _ => false
  | f, .int i => match f with | .int j => j == i | _ => false
  | _, _ => false
def alikes : List PyData → List PyData → Bool
  | [], [] => true
  | f :: fs, e :: es => alike f e && alikes fs es
  | _, _ => false
end
mutual
/-- depth and widths within bounds -/
def okD : Nat → PyData → Bool
  | n, .tuple es => match n with
    | 0 => false
    | n + 1 => decide (es.length ≤ 1000000) && okDs n es
  | _, .none => true | _, .bool _ => true | _, .int _ => true | _, .str _ => true
  | _, _ => false
def okDs : Nat → List PyData → Bool
  | _, [] => true
  | n, e :: es => okD n e && okDs n es
end
theorem okDs_mem {n : Nat} : ∀ {es : List PyData}, okDs n es = true → ∀ e ∈ es, okD n e = true
  | [], _, e, he => by cases he
  | x :: r, h, e, he => by
    unfold okDs at h
    simp only [Bool.and_eq_true] at h
    rcases List.mem_cons.mp he with rfl | he
    · exact h.1
    · exact okDs_mem h.2 e he
def sgAlike (n : Nat) : Sig where
  ps := ["found", "due"]
  row := false
  kws := []
  sp := fun ds Q X => ∃ f d, ds = [f, d] ∧ okD n d = true ∧ Q (.bool (alike f d))
def gamAlike : Nat → Gam
  | 0 => ⟨fun _ => none, fun _ => none⟩
  | n + 1 => ⟨fun x => if x = "_law_alike" then some (sgAlike n) else none, fun _ => none⟩
theorem alikes_iff : ∀ {fs es : List PyData}, fs.length = es.length → (alikes fs es = true ↔ ∀ (i : Nat) f e, fs[i]? = some f → es[i]? = some e → alike f e = true)
  | [], [], _ => by simp [alikes]
  | f :: fs, e :: es, h => by
    unfold alikes
    rw [Bool.and_eq_true, alikes_iff (by simpa using h)]
    constructor
    · rintro ⟨h1, h2⟩ i a b ha hb
      cases i with
      | zero => simp at ha hb; subst ha hb; exact h1
      | succ i => exact h2 i a b (by simpa using ha) (by simpa using hb)
    · intro h3
      exact ⟨h3 0 f e rfl rfl, fun i a b ha hb => h3 (i + 1) a b (by simpa using ha) (by simpa using hb)⟩
  | [], _ :: _, h => by cases h
  | _ :: _, [], h => by cases h
theorem alikes_len : ∀ {fs es : List PyData}, alikes fs es = true → fs.length = es.length
  | [], [], _ => rfl
  | f :: fs, e :: es, h => by unfold alikes at h; rw [Bool.and_eq_true] at h; simp [alikes_len h.2]
  | [], _ :: _, h => by simp [alikes] at h
  | _ :: _, [], h => by simp [alikes] at h
theorem atI_nat {xs : List PyData} {i : Nat} : atI xs (i : Int) = xs[i]? := by
  unfold atI ixN
  rw [if_pos (by omega)]
  by_cases h : (i : Int) < xs.length
  · rw [if_pos h]; simp
  · rw [if_neg h]
    rw [List.getElem?_eq_none (by omega)]; rfl
@[simp] theorem eqv_nil {xs : List PyData} : PyData.eqv (.list xs) (.list []) = xs.isEmpty := by
  cases xs with
  | nil => rfl
  | cons a r => rfl
/-! ### evaluation -/
section
variable {Γ : Gam} {ρ : Env1} {X : Str → Prop} {P : Post}
@[simp] theorem w_var {i : Nat} {Q : PyData → Prop} : wpE Γ (.var i) ρ Q X = opt (valAt ρ i) Q := rfl
@[simp] theorem w_rd {i : Nat} {Q : PyData → Prop} : wpE Γ (.rd i) ρ Q X = opt (ownAt ρ i) fun xs => xs.length ≤ 16777216 → Q (.list xs) := rfl
@[simp] theorem w_cst {c : Cst} {Q : PyData → Prop} : wpE Γ (.cst c) ρ Q X = Q c.d := rfl
@[simp] theorem w_glob {x : Str} {Q : PyData → Prop} : wpE Γ (.glob x) ρ Q X = opt (Γ.cons x) Q := rfl
@[simp] theorem w_bin {op : Operator} {a b : E} {Q : PyData → Prop} : wpE Γ (.bin op a b) ρ Q X = wpE Γ a ρ (fun d => wpE Γ b ρ (fun e => opt (binSem op d e) Q) X) X := rfl
@[simp] theorem w_un {op : UnaryOp} {a : E} {Q : PyData → Prop} : wpE Γ (.un op a) ρ Q X = wpE Γ a ρ (fun d => opt (unSem op d) Q) X := rfl
@[simp] theorem w_cmp {op : CmpOp} {a b : E} {Q : PyData → Prop} : wpE Γ (.cmp op a b) ρ Q X = wpE Γ a ρ (fun d => wpE Γ b ρ (fun e => opt (cmpSem op d e) fun b => Q (.bool b)) X) X := rfl
@[simp] theorem w_chn {o p : CmpOp} {a b c : E} {Q : PyData → Prop} : wpE Γ (.chn o p a b c) ρ Q X = wpE Γ a ρ (fun d => wpE Γ b ρ (fun e => opt (cmpSem o d e) fun k => if k = true then wpE Γ c ρ (fun e' => opt (cmpSem p e e') fun b => Q (.bool b)) X else Q (.bool false)) X) X := rfl
@[simp] theorem w_ands {as : EL} {Q : PyData → Prop} : wpE Γ (.ands as) ρ Q X = wpAnds Γ as ρ Q X := rfl
@[simp] theorem w_ors {as : EL} {Q : PyData → Prop} : wpE Γ (.ors as) ρ Q X = wpOrs Γ as ρ Q X := rfl
@[simp] theorem w_not {a : E} {Q : PyData → Prop} : wpE Γ (.not a) ρ Q X = wpE Γ a ρ (fun d => opt (truth d) fun b => Q (.bool (!b))) X := rfl
@[simp] theorem w_ite {c a b : E} {Q : PyData → Prop} : wpE Γ (.ite c a b) ρ Q X = wpT Γ c ρ (fun k => if k = true then wpE Γ a ρ Q X else wpE Γ b ρ Q X) X := rfl
@[simp] theorem w_isi {a : E} {T : String} {Q : PyData → Prop} : wpE Γ (.isi a T) ρ Q X = wpE Γ a ρ (fun d => Q (.bool (isInst d T))) X := rfl
@[simp] theorem w_call {f : Str} {r : Option Nat} {as : EL} {ks : List Str} {kws : EL} {Q : PyData → Prop} : wpE Γ (.call f r as ks kws) ρ Q X = opt (Γ.funs f) fun sg => (rowAt ρ r = true ∧ sgOk sg r ks = true) ∧ wpEs Γ as ρ (fun ds => wpEs Γ kws ρ (fun es => sg.sp (ds ++ es) Q X) X) X := rfl
@[simp] theorem w_blt {f : Blt} {as : EL} {Q : PyData → Prop} : wpE Γ (.blt f as) ρ Q X = wpEs Γ as ρ (fun ds => opt (bltSem f ds) Q) X := rfl
@[simp] theorem w_idx {a i : E} {Q : PyData → Prop} : wpE Γ (.idx a i) ρ Q X = wpE Γ a ρ (fun d => wpE Γ i ρ (fun e => opt (ixSem d e) Q) X) X := rfl
@[simp] theorem w_sp {k : SpF} {a : E} {Q : PyData → Prop} : wpE Γ (.sp k a) ρ Q X = wpE Γ a ρ (fun d => opt (spSem k d) Q) X := rfl
@[simp] theorem w_slc {a : E} {lo hi : EO} {Q : PyData → Prop} : wpE Γ (.slc a lo hi) ρ Q X = wpE Γ a ρ (fun d => wpO Γ lo ρ (fun l => wpO Γ hi ρ (fun h => opt (slSem l h d) Q) X) X) X := rfl
@[simp] theorem w_tup {as : EL} {Q : PyData → Prop} : wpE Γ (.tup as) ρ Q X = wpEs Γ as ρ (fun ds => Q (.tuple ds)) X := rfl
@[simp] theorem w_lst {as : EL} {Q : PyData → Prop} : wpE Γ (.lst as) ρ Q X = wpEs Γ as ρ (fun ds => Q (.list ds)) X := rfl
@[simp] theorem w_lc {elt : E} {own : List (Str × Nat)} {tg : Pat} {it : It1} {cs : EL} {Q : PyData → Prop} : wpE Γ (.lc elt own tg it cs) ρ Q X = wpI Γ it ρ (fun items => wpL (fun x k => opt (bindP tg x (wipeB ρ (own.map (·.2)))) fun ρ' =>
      wpTAnds Γ cs ρ' (fun b => if b = true then wpE Γ elt ρ' (fun y => k (some y)) (fun _ => False) else k none) (fun _ => False)) items fun ys => Q (.list ys)) X := rfl
@[simp] theorem w_lrg {tu : Bool} {a b : E} {Q : PyData → Prop} : wpE Γ (.lrg tu a b) ρ Q X = wpE Γ a ρ (fun d => wpE Γ b ρ (fun e => match d, e with
      | .int i, .int j => (-(2 ^ 60) ≤ i ∧ i ≤ 2 ^ 60 ∧ -(2 ^ 60) ≤ j ∧ j ≤ 2 ^ 60 ∧ j - i ≤ 16777216) ∧ Q (seqOf tu (rangeL i 1 (j - i).toNat)) | _, _ => False) X) X := rfl
@[simp] theorem w_lrg1 {tu : Bool} {a : E} {Q : PyData → Prop} : wpE Γ (.lrg1 tu a) ρ Q X = wpE Γ a ρ (fun d => match d with | .int j => (j ≤ 16777216 ∧ -(2 ^ 60) ≤ j) ∧ Q (seqOf tu (rangeL 0 1 j.toNat)) | _ => False) X := rfl
@[simp] theorem w_lrg3 {a b c : E} {Q : PyData → Prop} : wpE Γ (.lrg3 a b c) ρ Q X = wpE Γ a ρ (fun d => wpE Γ b ρ (fun e => wpE Γ c ρ (fun g => match d, e, g with
      | .int i, .int j, .int k => RgC i j k (rngN i j k) ∧ rngN i j k ≤ 16777216 ∧ Q (.list (rangeL i k (rngN i j k))) | _, _, _ => False) X) X) X := rfl
@[simp] theorem seqOf_t {xs : List PyData} : seqOf true xs = .tuple xs := rfl
@[simp] theorem seqOf_l {xs : List PyData} : seqOf false xs = .list xs := rfl
@[simp] theorem w_told {e : E} {Q : PyData → Prop} : wpE Γ (.told e) ρ Q X = wpE Γ e ρ (fun _ => Q (.str "")) fun n => Q (.str n) := rfl
@[simp] theorem w_nil {Q : List PyData → Prop} : wpEs Γ .nil ρ Q X = Q [] := rfl
@[simp] theorem w_cons {e : E} {r : EL} {Q : List PyData → Prop} : wpEs Γ (.cons e r) ρ Q X = wpE Γ e ρ (fun d => wpEs Γ r ρ (fun ds => Q (d :: ds)) X) X := rfl
@[simp] theorem w_and1 {e : E} {Q : PyData → Prop} : wpAnds Γ (.cons e .nil) ρ Q X = wpE Γ e ρ Q X := rfl
@[simp] theorem w_and2 {e e2 : E} {r : EL} {Q : PyData → Prop} : wpAnds Γ (.cons e (.cons e2 r)) ρ Q X = wpE Γ e ρ (fun d => opt (truth d) fun b => if b = true then wpAnds Γ (.cons e2 r) ρ Q X else Q d) X := rfl
@[simp] theorem w_or1 {e : E} {Q : PyData → Prop} : wpOrs Γ (.cons e .nil) ρ Q X = wpE Γ e ρ Q X := rfl
@[simp] theorem w_or2 {e e2 : E} {r : EL} {Q : PyData → Prop} : wpOrs Γ (.cons e (.cons e2 r)) ρ Q X = wpE Γ e ρ (fun d => opt (truth d) fun b => if b = true then Q d else wpOrs Γ (.cons e2 r) ρ Q X) X := rfl
@[simp] theorem w_onone {Q : Option Int → Prop} : wpO Γ .none ρ Q X = Q none := rfl
@[simp] theorem w_osome {e : E} {Q : Option Int → Prop} : wpO Γ (.some e) ρ Q X = wpE Γ e ρ (fun d => match d with | .int i => Q (some i) | _ => False) X := rfl
@[simp] theorem w_of {e : E} {Q : List PyData → Prop} : wpI Γ (.of e) ρ Q X = wpE Γ e ρ (fun d => opt (seqD d) fun xs => xs.length ≤ 16777216 → Q xs) X := rfl
@[simp] theorem w_rng1 {a : E} {Q : List PyData → Prop} : wpI Γ (.rng1 a) ρ Q X = wpE Γ a ρ (fun d => match d with | .int j => j ≤ 16777216 ∧ (-(2 ^ 60) ≤ j) ∧ Q (rangeL 0 1 j.toNat) | _ => False) X := rfl
@[simp] theorem w_rng2 {a b : E} {Q : List PyData → Prop} : wpI Γ (.rng2 a b) ρ Q X = wpE Γ a ρ (fun d => wpE Γ b ρ (fun e => match d, e with | .int i, .int j => (-(2 ^ 60) ≤ i ∧ i ≤ 2 ^ 60 ∧ -(2 ^ 60) ≤ j ∧ j ≤ 2 ^ 60 ∧ j - i ≤ 16777216) ∧ Q (rangeL i 1 (j - i).toNat) | _, _ => False) X) X := rfl
@[simp] theorem w_enum {a : E} {Q : List PyData → Prop} : wpI Γ (.enum a) ρ Q X = wpE Γ a ρ (fun d => opt (seqD d) fun xs => xs.length ≤ 16777216 → Q (enumL xs)) X := rfl
@[simp] theorem w_zip {a b : E} {Q : List PyData → Prop} : wpI Γ (.zip a b) ρ Q X = wpE Γ a ρ (fun d => wpE Γ b ρ (fun e => opt (zipD d e) fun p => p.1.length ≤ 16777216 → p.2.length ≤ 16777216 → Q (zipL p.1 p.2)) X) X := rfl
@[simp] theorem w_txt {e : E} {Q : List PyData → Prop} : wpI Γ (.txt e) ρ Q X = wpE Γ e ρ (fun d => match d with | .str x => x.length ≤ 16777216 ∧ Q (signsD x) | _ => False) X := rfl
@[simp] theorem t_ands {as : EL} {Q : Bool → Prop} : wpT Γ (.ands as) ρ Q X = wpTAnds Γ as ρ Q X := rfl
@[simp] theorem t_ors {as : EL} {Q : Bool → Prop} : wpT Γ (.ors as) ρ Q X = wpTOrs Γ as ρ Q X := rfl
@[simp] theorem t_not' {a : E} {Q : Bool → Prop} : wpT Γ (.not a) ρ Q X = wpT Γ a ρ (fun b => Q (!b)) X := rfl
@[simp] theorem t_cmp {op : CmpOp} {a b : E} {Q : Bool → Prop} : wpT Γ (.cmp op a b) ρ Q X = wpE Γ a ρ (fun d => wpE Γ b ρ (fun e => opt (cmpSem op d e) Q) X) X := rfl
@[simp] theorem t_chn {o p : CmpOp} {a b c : E} {Q : Bool → Prop} : wpT Γ (.chn o p a b c) ρ Q X = wpE Γ a ρ (fun d => wpE Γ b ρ (fun e => opt (cmpSem o d e) fun k => if k = true then wpE Γ c ρ (fun e' => opt (cmpSem p e e') Q) X else Q false) X) X := rfl
@[simp] theorem t_var {i : Nat} {Q : Bool → Prop} : wpT Γ (.var i) ρ Q X = opt (valAt ρ i) fun d => opt (truth d) Q := rfl
@[simp] theorem t_rd {i : Nat} {Q : Bool → Prop} : wpT Γ (.rd i) ρ Q X = opt (ownAt ρ i) fun xs => Q (!xs.isEmpty) := rfl
@[simp] theorem t_cst {c : Cst} {Q : Bool → Prop} : wpT Γ (.cst c) ρ Q X = opt (truth c.d) Q := rfl
@[simp] theorem t_isi {a : E} {T : String} {Q : Bool → Prop} : wpT Γ (.isi a T) ρ Q X = wpE Γ a ρ (fun d => Q (isInst d T)) X := rfl
@[simp] theorem t_call {f : Str} {r : Option Nat} {as : EL} {ks : List Str} {kws : EL} {Q : Bool → Prop} : wpT Γ (.call f r as ks kws) ρ Q X = opt (Γ.funs f) fun sg => (rowAt ρ r = true ∧ sgOk sg r ks = true) ∧ wpEs Γ as ρ (fun ds => wpEs Γ kws ρ (fun es => sg.sp (ds ++ es) (fun d => opt (truth d) Q) X) X) X := rfl
@[simp] theorem t_blt {f : Blt} {as : EL} {Q : Bool → Prop} : wpT Γ (.blt f as) ρ Q X = wpEs Γ as ρ (fun ds => opt (bltSem f ds) fun d => opt (truth d) Q) X := rfl
@[simp] theorem t_idx {a i : E} {Q : Bool → Prop} : wpT Γ (.idx a i) ρ Q X = wpE Γ a ρ (fun d => wpE Γ i ρ (fun e => opt (ixSem d e) fun d => opt (truth d) Q) X) X := rfl
@[simp] theorem t_nil {Q : Bool → Prop} : wpTAnds Γ .nil ρ Q X = Q true := rfl
@[simp] theorem t_cons {e : E} {r : EL} {Q : Bool → Prop} : wpTAnds Γ (.cons e r) ρ Q X = wpT Γ e ρ (fun b => if b = true then wpTAnds Γ r ρ Q X else Q false) X := rfl
@[simp] theorem t_onil {Q : Bool → Prop} : wpTOrs Γ .nil ρ Q X = Q false := rfl
@[simp] theorem t_ocons {e : E} {r : EL} {Q : Bool → Prop} : wpTOrs Γ (.cons e r) ρ Q X = wpT Γ e ρ (fun b => if b = true then Q true else wpTOrs Γ r ρ Q X) X := rfl
@[simp] theorem s_skip : wpS Γ .skip ρ P = P.nx ρ := rfl
@[simp] theorem s_ret {e : E} : wpS Γ (.ret e) ρ P = wpE Γ e ρ P.rt P.xc := rfl
@[simp] theorem s_retN : wpS Γ .retN ρ P = P.rt .none := rfl
@[simp] theorem s_brk : wpS Γ .brk ρ P = P.bk ρ := rfl
@[simp] theorem s_cnt : wpS Γ .cnt ρ P = P.ct ρ := rfl
@[simp] theorem s_setv {i : Nat} {e : E} : wpS Γ (.set false i e) ρ P = wpE Γ e ρ (fun d => P.nx (ρ.set i (.val d))) P.xc := rfl
@[simp] theorem s_seto {i : Nat} {e : E} : wpS Γ (.set true i e) ρ P = wpE Γ e ρ (fun d => ∃ xs, d = .list xs ∧ P.nx (ρ.set i (.own xs))) P.xc := rfl
@[simp] theorem s_asg {p : Pat} {e : E} : wpS Γ (.asg p e) ρ P = wpE Γ e ρ (fun d => opt (bindP p d ρ) P.nx) P.xc := rfl
@[simp] theorem m_v {e : E} {K : B → Prop} : wpM Γ false e ρ K X = wpE Γ e ρ (fun d => K (.val d)) X := rfl
@[simp] theorem m_o {e : E} {K : B → Prop} : wpM Γ true e ρ K X = wpE Γ e ρ (fun d => ∃ xs, d = .list xs ∧ K (.own xs)) X := rfl
@[simp] theorem s_par2 {o1 o2 : Bool} {i1 i2 : Nat} {e1 e2 : E} : wpS Γ (.par2 o1 i1 e1 o2 i2 e2) ρ P = wpM Γ o1 e1 ρ (fun b1 => wpM Γ o2 e2 ρ (fun b2 => P.nx ((ρ.set i1 b1).set i2 b2)) P.xc) P.xc := rfl
@[simp] theorem s_par3 {o1 o2 o3 : Bool} {i1 i2 i3 : Nat} {e1 e2 e3 : E} : wpS Γ (.par3 o1 i1 e1 o2 i2 e2 o3 i3 e3) ρ P = wpM Γ o1 e1 ρ (fun b1 => wpM Γ o2 e2 ρ (fun b2 => wpM Γ o3 e3 ρ (fun b3 => P.nx (((ρ.set i1 b1).set i2 b2).set i3 b3)) P.xc) P.xc) P.xc := rfl
@[simp] theorem s_aug {op : Operator} {i : Nat} {e : E} : wpS Γ (.aug op i e) ρ P = opt (valAt ρ i) fun d => wpE Γ e ρ (fun d' => opt (augSem op d d') fun r => P.nx (ρ.set i (.val r))) P.xc := rfl
@[simp] theorem s_augp {op : Operator} {i : Nat} {j e : E} : wpS Γ (.augp op i j e) ρ P = opt (ownAt ρ i) fun xs => wpE Γ j ρ (fun k => ∃ k' n d, k = .int k' ∧ ixN xs.length k' = some n ∧ xs[n]? = some d ∧ wpE Γ e ρ (fun d' => opt (augSem op d d') fun r => P.nx (ρ.set i (.own (xs.set n r)))) P.xc) P.xc := rfl
@[simp] theorem s_app {i : Nat} {e : E} : wpS Γ (.app i e) ρ P = opt (ownAt ρ i) fun xs => wpE Γ e ρ (fun d => xs.length < 16777216 ∧ P.nx (ρ.set i (.own (xs ++ [d])))) P.xc := rfl
@[simp] theorem s_ext {i : Nat} {e : E} : wpS Γ (.ext i e) ρ P = opt (ownAt ρ i) fun xs => wpE Γ e ρ (fun d => ∃ ys, d = .list ys ∧ xs.length + ys.length ≤ 16777216 ∧ P.nx (ρ.set i (.own (xs ++ ys)))) P.xc := rfl
@[simp] theorem s_put {i : Nat} {j e : E} : wpS Γ (.put i j e) ρ P = opt (ownAt ρ i) fun xs => wpE Γ e ρ (fun d => wpE Γ j ρ (fun k => ∃ k' n, k = .int k' ∧ ixN xs.length k' = some n ∧ P.nx (ρ.set i (.own (xs.set n d)))) P.xc) P.xc := rfl
@[simp] theorem s_dnew {i : Nat} : wpS Γ (.dnew i) ρ P = P.nx (ρ.set i (.dct [])) := rfl
@[simp] theorem s_popT {p : Pat} {i : Nat} : wpS Γ (.mut i (.popT p)) ρ P = opt (ownAt ρ i) fun xs => opt xs.getLast? fun d => opt (bindP p d (ρ.set i (.own xs.dropLast))) P.nx := rfl
@[simp] theorem s_popAt {i : Nat} {a : E} : wpS Γ (.mut i (.popAt a)) ρ P = opt (ownAt ρ i) fun xs => wpE Γ a ρ (fun k => ∃ k' n, k = .int k' ∧ ixN xs.length k' = some n ∧ P.nx (ρ.set i (.own (xs.eraseIdx n)))) P.xc := rfl
@[simp] theorem s_ins {i : Nat} {a e : E} : wpS Γ (.mut i (.ins a e)) ρ P = opt (ownAt ρ i) fun xs => wpE Γ a ρ (fun k => wpE Γ e ρ (fun d => ∃ n : Nat, k = .int (n : Nat) ∧ n ≤ xs.length ∧ xs.length < 16777216 ∧ P.nx (ρ.set i (.own (xs.take n ++ d :: xs.drop n)))) P.xc) P.xc := rfl
@[simp] theorem s_slcp {i : Nat} {a b e : E} : wpS Γ (.mut i (.slcp a b e)) ρ P = opt (ownAt ρ i) fun xs => wpE Γ e ρ (fun d => wpE Γ a ρ (fun ka => ∃ m : Nat, ka = .int (m : Nat) ∧ wpE Γ b ρ (fun kb => ∃ (ys : List PyData) (n : Nat), d = .list ys ∧ kb = .int (n : Nat) ∧ m ≤ n ∧ n ≤ xs.length ∧ xs.length + ys.length ≤ 16777216 ∧ P.nx (ρ.set i (.own (xs.take m ++ ys ++ xs.drop n)))) P.xc) P.xc) P.xc := rfl
@[simp] theorem s_popA {p : Pat} {i : Nat} {a : E} : wpS Γ (.mut i (.popA p a)) ρ P = opt (ownAt ρ i) fun xs => wpE Γ a ρ (fun k => ∃ k' n d, k = .int k' ∧ ixN xs.length k' = some n ∧ xs[n]? = some d ∧ opt (bindP p d (ρ.set i (.own (xs.eraseIdx n)))) P.nx) P.xc := rfl
@[simp] theorem s_put2 {i i2 : Nat} {j1 j2 e : E} : wpS Γ (.mut i (.put2 i2 j1 j2 e)) ρ P = opt (ownAt ρ i) fun xs => opt (ownAt ρ i2) fun ys => wpE Γ e ρ (fun d => ∃ d1 d2, d = .tuple [d1, d2] ∧ wpE Γ j1 ρ (fun k1 => ∃ k n, k1 = .int k ∧ ixN xs.length k = some n ∧ wpE Γ j2 (ρ.set i (.own (xs.set n d1))) (fun k2 => ∃ k' n', k2 = .int k' ∧ ixN ys.length k' = some n' ∧ P.nx ((ρ.set i (.own (xs.set n d1))).set i2 (.own (ys.set n' d2)))) P.xc) P.xc) P.xc := rfl
@[simp] theorem s_dput {i : Nat} {j e : E} : wpS Γ (.dput i j e) ρ P = opt (dctAt ρ i) fun kvs => wpE Γ e ρ (fun d => wpE Γ j ρ (fun k => ∃ k', k = .int k' ∧ kvs.length < 16777216 ∧ P.nx (ρ.set i (.dct (dPut kvs k' d)))) P.xc) P.xc := rfl
@[simp] theorem w_dsrt {i : Nat} {a : E} {Q : PyData → Prop} : wpE Γ (.dx .srt i a) ρ Q X = opt (dctAt ρ i) fun kvs => kvs.length < 64 ∧ Q (.list ((sortI (kvs.map (·.1))).map .int)) := rfl
@[simp] theorem w_din {neg : Bool} {i : Nat} {a : E} {Q : PyData → Prop} : wpE Γ (.dx (.isin neg) i a) ρ Q X = wpE Γ a ρ (fun d => match d with | .int j => opt (dctAt ρ i) fun kvs => Q (.bool ((dVal kvs j).isSome != neg)) | _ => False) X := rfl
@[simp] theorem t_din {neg : Bool} {i : Nat} {a : E} {Q : Bool → Prop} : wpT Γ (.dx (.isin neg) i a) ρ Q X = wpE Γ a ρ (fun d => match d with | .int j => opt (dctAt ρ i) fun kvs => Q ((dVal kvs j).isSome != neg) | _ => False) X := rfl
@[simp] theorem w_dget {i : Nat} {a : E} {Q : PyData → Prop} : wpE Γ (.dx .get i a) ρ Q X = opt (dctAt ρ i) fun kvs => wpE Γ a ρ (fun d => match d with | .int j => opt (dVal kvs j) Q | _ => False) X := rfl
@[simp] theorem s_ex {e : E} : wpS Γ (.ex e) ρ P = wpE Γ e ρ (fun _ => P.nx ρ) P.xc := rfl
@[simp] theorem s_ife {c : E} {a b : SL} : wpS Γ (.ife c a b) ρ P = wpT Γ c ρ (fun t => if t = true then wpSs Γ a ρ P else wpSs Γ b ρ P) P.xc := rfl
theorem s_for {tg : Pat} {it : It1} {b : SL} : wpS Γ (.for_ tg it b) ρ P = wpI Γ it ρ (fun items => forL (fun x ρ1 k => opt (bindP tg x ρ1) fun ρ2 => wpSs Γ b ρ2 { nx := k, ct := k, bk := P.nx, rt := P.rt, xc := P.xc }) items ρ P.nx) P.xc := rfl
@[simp] theorem ss_nil : wpSs Γ .nil ρ P = P.nx ρ := rfl
@[simp] theorem ss_cons {s : S} {r : SL} : wpSs Γ (.cons s r) ρ P = wpS Γ s ρ { nx := fun ρ' => wpSs Γ r ρ' P, ct := P.ct, bk := P.bk, rt := P.rt, xc := P.xc } := rfl
@[simp] theorem ss_frz {i : Nat} {r : SL} : wpSs Γ (.frz i r) ρ P = opt (ownAt ρ i) fun xs => wpSs Γ r (ρ.set i (.val (.list xs))) P := rfl
@[simp] theorem d_non : Cst.d .non = .none := rfl
@[simp] theorem d_bl {b : Bool} : Cst.d (.bl b) = .bool b := rfl
@[simp] theorem d_int {b : Int} : Cst.d (.int b) = .int b := rfl
@[simp] theorem d_str {b : Str} : Cst.d (.str b) = .str b := rfl
end
@[simp] theorem opt_ite {α : Type} {c : Prop} [Decidable c] {a : α} {Q : α → Prop} : opt (if c then some a else none) Q ↔ c ∧ Q a := by
  by_cases h : c <;> simp [h]
@[simp] theorem rho0_false {n : Nat} {ds : List PyData} : rho0 n false ds = ds.map B.val ++ List.replicate (n - ds.length) B.bad := by simp [rho0]
@[simp] theorem rho0_true {n : Nat} {ds : List PyData} : rho0 n true ds = B.row :: (ds.map B.val ++ List.replicate (n - (1 + ds.length)) B.bad) := by simp [rho0]
@[simp] theorem postOf_nx {Q : PyData → Prop} {X : Str → Prop} {ρ : Env1} : (postOf Q X).nx ρ = Q .none := rfl
@[simp] theorem postOf_rt {Q : PyData → Prop} {X : Str → Prop} : (postOf Q X).rt = Q := rfl
@[simp] theorem postOf_xc {Q : PyData → Prop} {X : Str → Prop} : (postOf Q X).xc = X := rfl
@[simp] theorem cmp_is_none {d : PyData} : cmpSem .Is d .none = some (isNone d) := by cases d <;> rfl
@[simp] theorem cmp_isnot_none {d : PyData} : cmpSem .IsNot d .none = some (!isNone d) := by cases d <;> rfl
@[simp] theorem cmp_is_bool {a b : Bool} : cmpSem .Is (.bool a) (.bool b) = some (decide (a = b)) := rfl
@[simp] theorem cmp_isnot_bool {a b : Bool} : cmpSem .IsNot (.bool a) (.bool b) = some (!decide (a = b)) := rfl
@[simp] theorem cmp_lt {a b : Int} : cmpSem .Lt (.int a) (.int b) = some (decide (a < b)) := rfl
@[simp] theorem cmp_le {a b : Int} : cmpSem .LtE (.int a) (.int b) = some (decide (a ≤ b)) := rfl
@[simp] theorem cmp_gt {a b : Int} : cmpSem .Gt (.int a) (.int b) = some (decide (b < a)) := rfl
@[simp] theorem cmp_ge {a b : Int} : cmpSem .GtE (.int a) (.int b) = some (decide (b ≤ a)) := rfl
theorem dep_min {d e : PyData} (h : e.depth ≤ 60) : min d.depth e.depth ≤ 60 := Nat.le_trans (Nat.min_le_right _ _) h
@[simp] theorem cmp_eq_int {d : PyData} {i : Int} : cmpSem .Eq d (.int i) = some (d.eqv (.int i)) := if_pos (dep_min (e := .int i) (Nat.zero_le _))
@[simp] theorem cmp_eq_bool {d : PyData} {i : Bool} : cmpSem .Eq d (.bool i) = some (d.eqv (.bool i)) := if_pos (dep_min (e := .bool i) (Nat.zero_le _))
@[simp] theorem cmp_eq_str {d : PyData} {i : Str} : cmpSem .Eq d (.str i) = some (d.eqv (.str i)) := if_pos (dep_min (e := .str i) (Nat.zero_le _))
@[simp] theorem cmp_eq_none {d : PyData} : cmpSem .Eq d .none = some (d.eqv .none) := if_pos (dep_min (e := .none) (Nat.zero_le _))
@[simp] theorem cmp_eq_nil {d : PyData} : cmpSem .Eq d (.list []) = some (d.eqv (.list [])) := if_pos (dep_min (e := .list []) (by decide))
@[simp] theorem cmp_eq_unit {d : PyData} : cmpSem .Eq d (.tuple []) = some (d.eqv (.tuple [])) := if_pos (dep_min (e := .tuple []) (by decide))
@[simp] theorem cmp_ne_int {d : PyData} {i : Int} : cmpSem .NotEq d (.int i) = some (!d.eqv (.int i)) := if_pos (dep_min (e := .int i) (Nat.zero_le _))
@[simp] theorem cmp_ne_bool {d : PyData} {i : Bool} : cmpSem .NotEq d (.bool i) = some (!d.eqv (.bool i)) := if_pos (dep_min (e := .bool i) (Nat.zero_le _))
@[simp] theorem cmp_ne_nil {d : PyData} : cmpSem .NotEq d (.list []) = some (!d.eqv (.list [])) := if_pos (dep_min (e := .list []) (by decide))
@[simp] theorem eqv_bool {a b : Bool} : PyData.eqv (.bool a) (.bool b) = (a == b) := by cases a <;> cases b <;> rfl
@[simp] theorem eqv_int {a b : Int} : PyData.eqv (.int a) (.int b) = (a == b) := rfl
@[simp] theorem eqv_str {a b : Str} : PyData.eqv (.str a) (.str b) = (a == b) := rfl
@[simp] theorem truth_bool {b : Bool} : truth (.bool b) = some b := rfl
@[simp] theorem truth_int {b : Int} : truth (.int b) = some (b != 0) := rfl
@[simp] theorem truth_none : truth .none = some false := rfl
@[simp] theorem truth_list {b : List PyData} : truth (.list b) = some (!b.isEmpty) := rfl
@[simp] theorem truth_tuple {b : List PyData} : truth (.tuple b) = some (!b.isEmpty) := rfl
@[simp] theorem isNone_none : isNone .none = true := rfl
@[simp] theorem isNone_int {i : Int} : isNone (.int i) = false := rfl
@[simp] theorem isNone_bool {i : Bool} : isNone (.bool i) = false := rfl
@[simp] theorem isNone_str {i : Str} : isNone (.str i) = false := rfl
@[simp] theorem isNone_tuple {i : List PyData} : isNone (.tuple i) = false := rfl
@[simp] theorem isNone_list {i : List PyData} : isNone (.list i) = false := rfl
@[simp] theorem isInst_int {i : Int} {T : String} : isInst (.int i) T = ("int" == T || ("int" == "bool" && T == "int")) := rfl
@[simp] theorem isInst_bool {i : Bool} {T : String} : isInst (.bool i) T = ("bool" == T || ("bool" == "bool" && T == "int")) := rfl
@[simp] theorem isInst_str {i : Str} {T : String} : isInst (.str i) T = ("str" == T || ("str" == "bool" && T == "int")) := rfl
@[simp] theorem isInst_none {T : String} : isInst .none T = ("NoneType" == T || ("NoneType" == "bool" && T == "int")) := rfl
@[simp] theorem isInst_tuple {i : List PyData} {T : String} : isInst (.tuple i) T = ("tuple" == T || ("tuple" == "bool" && T == "int")) := rfl
@[simp] theorem isInst_list {i : List PyData} {T : String} : isInst (.list i) T = ("list" == T || ("list" == "bool" && T == "int")) := rfl
@[simp] theorem isInst_dict {i : List (PyData × PyData)} {T : String} : isInst (.dict i) T = ("dict" == T || ("dict" == "bool" && T == "int")) := rfl
@[simp] theorem len_list {xs : List PyData} : bltSem .len [.list xs] = some (.int xs.length) := rfl
@[simp] theorem len_tuple {xs : List PyData} : bltSem .len [.tuple xs] = some (.int xs.length) := rfl
@[simp] theorem ix_tuple {xs : List PyData} {i : Int} : ixSem (.tuple xs) (.int i) = atI xs i := rfl
@[simp] theorem ix_list {xs : List PyData} {i : Int} : ixSem (.list xs) (.int i) = atI xs i := rfl
@[simp] theorem seqD_list {xs : List PyData} : seqD (.list xs) = some xs := rfl
@[simp] theorem seqD_tuple {xs : List PyData} : seqD (.tuple xs) = some xs := rfl
@[simp] theorem bind_name {i : Nat} {x : Str} {d : PyData} {ρ : Env1} : bindP (.name i x) d ρ = some (ρ.set i (.val d)) := rfl
@[simp] theorem bind_tup {ps : Pats} {ds : List PyData} {ρ : Env1} : bindP (.tup ps) (.tuple ds) ρ = bindPs ps ds ρ := rfl
@[simp] theorem bind_nil {ρ : Env1} : bindPs .nil [] ρ = some ρ := rfl
@[simp] theorem bind_cons {p : Pat} {r : Pats} {d : PyData} {ds : List PyData} {ρ : Env1} : bindPs (.cons p r) (d :: ds) ρ = (bindP p d ρ).bind fun ρ' => bindPs r ds ρ' := rfl
@[simp] theorem wipe_nil {ρ : Env1} : wipeB ρ [] = ρ := rfl
@[simp] theorem wipe_cons {ρ : Env1} {v : Nat} {vs : List Nat} : wipeB ρ (v :: vs) = (wipeB ρ vs).set v .bad := rfl
@[simp] theorem dctAt_dct {d : List (Int × PyData)} {r : Env1} : dctAt (.dct d :: r) 0 = some d := rfl
@[simp] theorem dctAt_succ {b : B} {r : Env1} {i : Nat} : dctAt (b :: r) (i + 1) = dctAt r i := rfl
@[simp] theorem rowAt_none {ρ : Env1} : rowAt ρ none = true := rfl
@[simp] theorem rowAt_row {r : Env1} : rowAt (.row :: r) (some 0) = true := rfl
@[simp] theorem sgOk_nil {sg : Sig} {r : Option Nat} : sgOk sg r [] = (sg.row == r.isSome) := by simp [sgOk]
@[simp] theorem atI_nat' {xs : List PyData} {i : Nat} : atI xs (i : Int) = xs[i]? := atI_nat
@[simp] theorem gamAlike_f {n : Nat} : (gamAlike (n + 1)).funs "_law_alike" = some (sgAlike n) := rfl
theorem range_mem {n : Nat} {x : PyData} (h : x ∈ rangeL 0 1 n) : ∃ i : Nat, i < n ∧ x = .int (i : Int) := by
  unfold rangeL at h
  obtain ⟨i, h1, rfl⟩ := List.mem_map.mp h
  exact ⟨i, List.mem_range.mp h1, by simp⟩
def notAlike (fs es : List PyData) (x : PyData) : Option PyData := match x with
  | .int i => (match fs[i.toNat]?, es[i.toNat]? with | some a, some b => if alike a b = true then none else some x | _, _ => none)
  | _ => none
theorem alike_wp (n : Nat) (ds : List PyData) (Q : PyData → Prop) (X : Str → Prop) (h : (sgAlike n).sp ds Q X) : wpSs (gamAlike n) b__law_alike (rho0 3 false ds) (postOf Q X) := by
  obtain ⟨f, d, rfl, hd, hq⟩ := h
  cases d with
  | tuple es =>
    cases n with
    | zero => unfold okD at hd; cases hd
    | succ n =>
      unfold okD at hd
      simp only [Bool.and_eq_true, decide_eq_true_eq] at hd
      cases f <;> try (simpa [b__law_alike, alike] using hq)
      rename_i fs
      simp [b__law_alike]
      by_cases hl : (fs.length : Int) = es.length
      · rw [if_pos hl]
        have hl : fs.length = es.length := by omega
        refine ⟨by omega, wpL_map (g := notAlike fs es) ?_ ?_⟩
        · intro x hx k hk
          obtain ⟨i, hi, rfl⟩ := range_mem hx
          obtain ⟨a, ha⟩ : ∃ a, fs[i]? = some a := ⟨_, List.getElem?_eq_getElem (by omega)⟩
          obtain ⟨b, hb⟩ : ∃ b, es[i]? = some b := ⟨_, List.getElem?_eq_getElem hi⟩
          have hbo : okD n b = true := okDs_mem hd.2 b (List.mem_of_getElem? hb)
          simp [ha, hb, notAlike] at hk ⊢
          refine ⟨rfl, a, b, rfl, hbo, ?_⟩
          by_cases h : alike a b = true
          · simpa [h] using hk
          · simpa [h] using hk
        · have key : ((rangeL 0 1 es.length).filterMap (notAlike fs es)).isEmpty = alike (.tuple fs) (.tuple es) := by
            rw [Bool.eq_iff_iff, List.isEmpty_iff, List.filterMap_eq_nil_iff]
            show _ ↔ alikes fs es = true
            rw [alikes_iff hl]
            constructor
            · intro h i a b ha hb
              have hi : i < es.length := (List.getElem?_eq_some_iff.mp hb).1
              have := h (.int (i : Int)) (by
                unfold rangeL
                exact List.mem_map.mpr ⟨i, List.mem_range.mpr hi, by simp⟩)
              simpa [ha, hb, notAlike] using this
            · intro h x hx
              obtain ⟨i, hi, rfl⟩ := range_mem hx
              obtain ⟨a, ha⟩ : ∃ a, fs[i]? = some a := ⟨_, List.getElem?_eq_getElem (by omega)⟩
              obtain ⟨b, hb⟩ : ∃ b, es[i]? = some b := ⟨_, List.getElem?_eq_getElem hi⟩
              simp [ha, hb, h i a b ha hb, notAlike]
          rw [key]; exact hq
      · rw [if_neg hl]
        have : alike (.tuple fs) (.tuple es) = false := by
          show alikes fs es = false
          cases h : alikes fs es with
          | false => rfl
          | true => exact absurd (by rw [alikes_len h]) hl
        rw [← this]; exact hq
  | none => cases f <;> simpa [b__law_alike, alike, PyData.eqv] using hq
  | bool b => cases f <;> simpa [b__law_alike, alike] using hq
  | int i => cases f <;> simpa [b__law_alike, alike] using hq
  | str s =>
    cases f <;> try (simpa [b__law_alike, alike, PyData.eqv] using hq)
    rename_i t
    by_cases h : t = s
    · simpa [b__law_alike, alike, PyData.eqv, h] using hq
    · simpa [b__law_alike, alike, PyData.eqv, h] using hq
  | list es => unfold okD at hd; cases hd
  | dict es => unfold okD at hd; cases hd
end Dl

set_option Elab.async false
set_option linter.all false
set_option maxRecDepth 100000
set_option maxHeartbeats 8000000
/-! the data layer, part 28: alike is kept; the law's loop; the end -/
namespace Dl
open PySem PySem.Spec PyProof.Rows L2
section
variable {P : Program} {w : World} {K : PySem.W.Frag} {mg : Str → Option Value} {base : Heap} {W : Wd} {Γ : Gam} {k : Nat}
/-- a def that is there under its name -/
theorem fnAt {x : Str} {f : Addr} {fd : FuncData} {sg : Sig} (F : FnOk P w K mg base (L2.CX P w) k f fd sg.ps (spV W sg)) (hm : mg x = some (.ref f)) (hk : PySem.W.keepIn K (.ref f) = true) (hb : Binds K fd sg.ps [])
    (hkw : ∀ ks ∈ sg.kws, KBinds K fd sg.ps ks (kwG ks.length) (kwG ks.length)) : FnAt P w K mg base k W x sg := ⟨f, fd, hm, hk, F, hb, hkw⟩
theorem gamAlike_at {n : Nat} {x : Str} {sg : Sig} (h : (gamAlike (n + 1)).funs x = some sg) : x = "_law_alike" ∧ sg = sgAlike n := by
  unfold gamAlike at h
  simp only at h
  split at h
  · cases h; exact ⟨by assumption, rfl⟩
  · cases h
theorem ok_alike {st : Stmt} {f : Addr} {fd : FuncData} (hK : K = W.K) (hmg : mg = W.mg) (blt : ∀ x ∈ bltNames, mg x = none) (F : Fun K "_law_alike" "_law_alike" st f fd) (S : FnScope ["found", "due", "at"] ["found", "due"] (defScope st))
    (hb : chkSs ["found", "due", "at"] (defScope st) false b__law_alike (defBody st) = true) (hm : mg "_law_alike" = some (.ref f)) (hk : PySem.W.keepIn K (.ref f) = true) (bd : Binds K fd ["found", "due"] []) : ∀ n, FnAt P w K mg base (n + 1) W "_law_alike" (sgAlike n)
  | 0 => fnAt (def_ok (Γ := gamAlike 0) (k := 0) ⟨hK, hmg, fun _ _ h => (by cases h), fun _ _ h => (by cases h), blt⟩ F S hb (fun ds Q X ⟨a, b, h, _⟩ => (by rw [h]; rfl)) (alike_wp 0) (Nat.le_refl _) (fun z => (by cases z))) hm hk bd (fun ks h => (by cases h))
  | n + 1 => fnAt (def_ok (Γ := gamAlike (n + 1)) (k := n + 1) ⟨hK, hmg, fun x sg h => (by
      obtain ⟨rfl, rfl⟩ := gamAlike_at h
      exact ok_alike hK hmg blt F S hb hm hk bd n), fun _ _ h => (by cases h), blt⟩ F S hb (fun ds Q X ⟨a, b, h, _⟩ => (by rw [h]; rfl)) (alike_wp (n + 1)) (Nat.le_refl _) (fun z => (by cases z))) hm hk bd (fun ks h => (by cases h))
/-! ### the law's loop -/
def sgCase : Sig where
  ps := ["row"]
  row := true
  kws := []
  sp := fun ds Q X => ds = [] ∧ Q (.bool true)
def b_law (n : Int) : SL := .cons (.for_ (.name 2 "turn") (.rng1 (.cst (.int n))) (.cons (.ife (.not (.call "_law_case" (some 1) .nil [] .nil)) (.cons (.ret (.cst (.bl false))) .nil) .nil) .nil)) (.cons (.ret (.cst (.bl true))) .nil)
/-- the script: a list of few numbers, none of them too great; the tables are empty -/
def spLaw (K : PySem.W.Frag) (T : List (Addr × Str)) : Sp := fun vs H Q _ => ∃ (a : Addr) (ns : List Int), vs = [.ref a] ∧ ns.length ≤ 63 ∧ (∀ z ∈ ns, Builtin.Int.intBits z ≤ 1048576) ∧ SqL K H a (ns.map V.int) ∧ LamX.Tabs T H ∧ ∀ H', Q (.bl true) H'
def gamLaw : Gam := ⟨fun x => if x = "_law_case" then some sgCase else none, fun _ => none⟩
theorem gamLaw_at {x : Str} {sg : Sig} (h : gamLaw.funs x = some sg) : x = "_law_case" ∧ sg = sgCase := by
  unfold gamLaw at h
  simp only at h
  split at h
  · cases h; exact ⟨by assumption, rfl⟩
  · cases h
theorem PSs.ofW {X : Cx} {b : List Stmt} {Z : Type} {t : Z → TS} {G : Z → Prop} (h : ∀ z, G z → PSs X b (t z)) : PSs X b (fun D σ H => ∃ z, G z ∧ t z D σ H) := ⟨fun pins s σ H D I ⟨z, g, q⟩ => (h z g).run pins s σ H D I q⟩
theorem forL_all {f : PyData → Env1 → (Env1 → Prop) → Prop} {I : Env1 → Prop} : ∀ {xs : List PyData} {ρ : Env1} {Q : Env1 → Prop}, I ρ → (∀ x ∈ xs, ∀ ρ k, I ρ → (∀ ρ', I ρ' → k ρ') → f x ρ k) → (∀ ρ, I ρ → Q ρ) → forL f xs ρ Q
  | [], ρ, Q, i, _, q => q ρ i
  | x :: xs, ρ, Q, i, h, q => h x List.mem_cons_self ρ _ i fun ρ' i' => forL_all i' (fun y hy => h y (List.mem_cons_of_mem _ hy)) q
theorem law_wp (n : Int) (h0 : 0 ≤ n) (h1 : n ≤ 100) (Q : PyData → Prop) (h : Q (.bool true)) : wpSs gamLaw (b_law n) [.bad, .row, .bad] (postOf Q fun _ => False) := by
  show wpS _ _ _ _
  rw [s_for]
  simp
  refine ⟨by omega, by omega, forL_all (I := fun ρ => ∃ b, ρ = [.bad, .row, b]) ⟨_, rfl⟩ ?_ ?_⟩
  · rintro x hx ρ k ⟨b, rfl⟩ hk
    simp
    refine ⟨sgCase, rfl, ⟨rfl, rfl⟩, rfl, ?_⟩
    simp
    exact hk _ ⟨_, rfl⟩
  · rintro ρ ⟨b, rfl⟩
    simpa using h
theorem ok_law {st : Stmt} {f : Addr} {fd : FuncData} {T : List (Addr × Str)} {m : Nat} {n c : Int} {b : List Stmt} {p1 p2 p3 p4 p5 p6 p7 : Pos} (h0 : 0 ≤ n) (h1 : n ≤ 100) (blt : ∀ x ∈ bltNames, mg x = none) (F : Fun K "law" "law" st f fd) (S : FnScope ["script", "row", "turn"] ["script"] (defScope st))
    (lr : (defScope st).names.lookup ("row" : Str) = some .local) (hd : defBody st = .Assign [.Name "row" p1] (.List [.Name "script" p2, .Constant (.int 0) 0 p3, .Constant (.int c) 0 p4, .Constant (.int 0) 0 p5] p6) p7 :: b) (hb : chkSs ["script", "row", "turn"] (defScope st) false (b_law n) b = true)
    (hc0 : 0 ≤ c) (hc1 : c < 2147483647) (hcase : ∀ W : Wd, W.K = K → W.mg = mg → W.T = T → FnAt P w K mg base k W "_law_case" sgCase) (hm : k ≤ m) : FnOk P w K mg base (L2.CX P w) (m + 1) f fd ["script"] (spLaw K T) := by
  refine F.okX S (fun vs H Q E h => by obtain ⟨a, ns, rfl, _⟩ := h; rfl) fun cdv A outer s H vs Q E hr h => ?_
  rw [hd]
  have vs0 : Vis (defScope st) "script" := (S.par _ List.mem_cons_self).elim .inl fun z => .inr (.inl z)
  have hrest : ∀ W : Wd, (W.K = K ∧ W.mg = mg ∧ W.T = T) → PSs (cxOf (L2.CX P w) P w K mg base ["script", "row", "turn"] "law" (defScope st) f cdv A outer s H E) b (tBs W gamLaw E (b_law n)) := fun W hW => by
    have G : Glb P w K mg base W gamLaw k := ⟨hW.1.symm, hW.2.1.symm, fun x sg h => (by
      obtain ⟨rfl, rfl⟩ := gamLaw_at h
      exact hcase W hW.1 hW.2.1 hW.2.2), fun _ _ h => (by cases h), blt⟩
    exact sndSs _ (ctx_of G S hm hr) b hb
  refine ⟨_, pss_cons (ps_set (i := 1) S.nd rfl (.inl lr) (pe_lst (pa_cons (pe_var (i := 0) rfl vs0 (by decide) (by decide)) (pa_cons pe_int (pa_cons pe_int (pa_cons pe_int pa_nil)))))) (PSs.ofW (Z := Wd) (G := fun W => W.K = K ∧ W.mg = mg ∧ W.T = T) hrest), ?_⟩
  obtain ⟨a, ns, rfl, hl, hbits, hs, ht, hq⟩ := h
  refine ⟨_, rfl, by show 4 ≤ sizeLine; decide, fun p hp => ?_⟩
  have hsS : SqS K (upd H p (.lst [.ref a, .int 0, .int c, .int 0])) a p (ns.map V.int) := by
    rcases hs with hs | hs
    · have ne : a ≠ p := fun z => by
        subst z
        rcases hs with z | ⟨o, z⟩ <;> (rw [hp] at z; cases z)
      refine .inl ⟨?_, ne⟩
      rcases hs with z | ⟨o, z⟩
      · exact .inl (by rw [upd_ne ne]; exact z)
      · exact .inr ⟨o, by rw [upd_ne ne]; exact z⟩
    · exact .inr hs
  have gd : Good ⟨K, mg, p, a, T⟩ (upd H p (.lst [.ref a, .int 0, .int c, .int 0])) :=
    ⟨⟨⟨0, c, 0, upd_same, by decide, hc0, hc1, by decide, by decide⟩, ns, hsS, hl, hbits⟩, ht.ext (same_new hp)⟩
  have f0 : FOk ⟨K, mg, p, a, T⟩ (fun _ => none) (upd H p (.lst [.ref a, .int 0, .int c, .int 0])) := ⟨fun _ _ z => (by cases z), fun _ _ z => (by cases z), rfl⟩
  refine ⟨⟨K, mg, p, a, T⟩, ⟨rfl, rfl, rfl⟩, fun _ => none, _, fun _ => none, fun _ => none, [.bad, .row, .bad], postOf (fun d => d = .bool true) (fun _ => False), ⟨⟨f0, gd, rfl, fun i b v q1 q2 => ?_, fun i j a xs ys q1 _ lv _ _ _ => ?_⟩, gd, .refl _, .refl f0 gd, fun i xs a q1 lv _ => ?_⟩, law_wp n h0 h1 _ rfl, ?_⟩
  · match i with
    | 0 => cases q1; trivial
    | 1 => cases q1; cases q2; rfl
    | 2 => cases q1; trivial
    | i + 3 => cases q1
  · match i with
    | 0 => cases q1; cases lv
    | 1 => cases q1; cases lv
    | 2 => cases q1; cases lv
    | i + 3 => cases q1
  · match i with
    | 0 => cases q1; cases lv
    | 1 => cases q1; cases lv
    | 2 => cases q1; cases lv
    | i + 3 => cases q1
  · exact ⟨fun _ _ _ _ _ q => (by cases q), fun F' d v H' e r q => by subst q; cases r; exact hq H', fun _ _ _ _ _ z => z.elim, fun _ _ _ _ _ z => z.elim, fun _ _ _ _ _ _ _ z => z.elim⟩
end
end Dl

set_option Elab.async false
set_option linter.all false
set_option maxRecDepth 100000
set_option maxHeartbeats 8000000
/-! the data layer, part 29: what a law's own text uses to put its defs together -/
namespace Dl
open PySem PySem.Spec PyProof.Rows L2
def gm (l : List (Str × Sig)) (c : List (Str × PyData)) : Gam := ⟨fun x => l.lookup x, fun x => c.lookup x⟩
section
variable (P : Program) (w : World) (K : PySem.W.Frag) (mg : Str → Option Value) (base : Heap) (W : Wd)
def AllFn (k : Nat) : List (Str × Sig) → Prop
  | [] => True
  | p :: r => FnAt P w K mg base k W p.1 p.2 ∧ AllFn k r
def ConAt (mg : Str → Option Value) (W : Wd) (x : Str) (d : PyData) : Prop := ∃ u v, mg x = some u ∧ RelV v u ∧ ∀ F, Dat W.K F v d
def AllCon (mg : Str → Option Value) (W : Wd) : List (Str × PyData) → Prop
  | [] => True
  | p :: r => ConAt mg W p.1 p.2 ∧ AllCon mg W r
structure Bas : Prop where
  hK : K = W.K
  hmg : mg = W.mg
  blt : ∀ x ∈ bltNames, mg x = none
end
section
variable {P : Program} {w : World} {K : PySem.W.Frag} {mg : Str → Option Value} {base : Heap} {W : Wd} {k : Nat}
theorem con_int {x : Str} {n : Int} {t : Tok} (h : mg x = some (.int n t)) : ConAt mg W x (.int n) := ⟨_, .int n, h, ⟨t, rfl⟩, fun _ => .int n⟩
theorem AllFn.at : ∀ {l : List (Str × Sig)}, AllFn P w K mg base W k l → ∀ f sg, l.lookup f = some sg → FnAt P w K mg base k W f sg
  | [], _, _, _, h => by cases h
  | (x, s) :: r, h, f, sg, e => by
    cases hx : f == x with
    | true =>
      simp only [List.lookup_cons, hx] at e
      cases e
      rw [eq_of_beq hx]
      exact h.1
    | false =>
      simp only [List.lookup_cons, hx] at e
      exact AllFn.at h.2 f sg e
theorem AllCon.at : ∀ {l : List (Str × PyData)}, AllCon mg W l → ∀ f d, l.lookup f = some d → ConAt mg W f d
  | [], _, _, _, h => by cases h
  | (x, s) :: r, h, f, sg, e => by
    cases hx : f == x with
    | true =>
      simp only [List.lookup_cons, hx] at e
      cases e
      rw [eq_of_beq hx]
      exact h.1
    | false =>
      simp only [List.lookup_cons, hx] at e
      exact AllCon.at h.2 f sg e
theorem Bas.glb (B : Bas K mg W) {l : List (Str × Sig)} {c : List (Str × PyData)} (h : AllFn P w K mg base W k l) (hc : AllCon mg W c) : Glb P w K mg base W (gm l c) k := ⟨B.hK, B.hmg, h.at, hc.at, B.blt⟩
/-- a def with lambdas: its code object is known -/
theorem def_okL {x qual : Str} {st : Stmt} {f c : Addr} {N : List Str} {sg : Sig} {b : SL} {m : Nat} {Γ : Gam} {oc kV doc pm ct : Value} {od an : Option Addr} {osl : Array (Option Value)} (G : Glb P w K mg base W Γ k)
    (lk : K.lookup f = some ⟨oc, od, .func (PySem.W.fnOf x qual (defArgs st) (defBody st) (defScope st) .none kV doc pm an (.ref c) ct), osl⟩) (hcd : PySem.W.codeIn K (.ref c) qual = true) (S : FnScope N sg.ps (defScope st)) (hb : chkSs N (defScope st) true b (defBody st) = true)
    (hlen : ∀ ds Q X, sg.sp ds Q X → (if sg.row then 1 else 0) + ds.length = sg.ps.length) (hsp : ∀ ds Q X, sg.sp ds Q X → wpSs Γ b (rho0 N.length sg.row ds) (postOf Q X))
    (hm : k + 2 ≤ m) (hl : ∀ (A : Around) (outer : List Env) (s : Shared) (H : Hp) (E : XK), LamAt W (cxOf (L2.CX P w) P w K mg base N qual (defScope st) f (.ref c) A outer s H E)) :
    FnOk P w K mg base (L2.CX P w) (m + 1) f (PySem.W.fnOf x qual (defArgs st) (defBody st) (defScope st) .none kV doc pm an (.ref c) ct) sg.ps (spV W sg) := by
  refine fn_of lk hcd S (fun vs H Q E h => ?_) fun A outer s H vs Q E hr h => ⟨tBs W Γ E b, ?_, ?_⟩
  · obtain ⟨F0, ds, ws, Qd, Xd, f1, g1, rfl, d1, h1, _⟩ := h
    rw [← hlen ds Qd Xd h1, List.length_append, d1.length]
    cases sg.row <;> rfl
  · have C : CtxS W Γ k E N (defScope st) true (cxOf (L2.CX P w) P w K mg base N qual (defScope st) f (.ref c) A outer s H E) := by
      refine ⟨⟨G.hK, G.hmg, rfl, S.nd, rfl, rfl, hr.mono (by omega), fun z => hr.mono hm, passes_call (W := fun cls d _ H => E cls d H) (takes_of rfl rfl rfl rfl) (fun _ _ _ _ h => h), G.funs, G.cons, G.blt, fun z => hl A outer s H E⟩, fun _ => rfl, S.kind, passes_of rfl⟩
    exact sndSs b C _ hb
  · obtain ⟨F0, ds, ws, Qd, Xd, f1, g1, rfl, d1, h1, h2, h3⟩ := h
    exact ⟨F0, H, F0, F0, _, _, ⟨St.start f1 g1 d1, g1, .refl _, .refl f1 g1, fun i b a q1 lv q2 => (rho0_no lv q1).elim⟩, hsp ds Qd Xd h1, ⟨fun F' ρ σ H' s' q => h2 .none .non F' H' s'.ex .non q, fun F' d v H' e r q => h2 d v F' H' e r q, fun _ _ _ _ _ z => z.elim, fun _ _ _ _ _ z => z.elim, fun n cls dd F' H' e i q => h3 n cls dd F' H' e i q⟩⟩
end
theorem len0 {α : Type} {l : List α} (h : l.length = 0) : l = [] := List.length_eq_zero_iff.mp h
theorem len1 {α : Type} {l : List α} (h : l.length = 1) : ∃ a, l = [a] := by
  match l, h with
  | [a], _ => exact ⟨a, rfl⟩
theorem len2 {α : Type} {l : List α} (h : l.length = 2) : ∃ a b, l = [a, b] := by
  match l, h with
  | [a, b], _ => exact ⟨a, b, rfl⟩
theorem len3 {α : Type} {l : List α} (h : l.length = 3) : ∃ a b c, l = [a, b, c] := by
  match l, h with
  | [a, b, c], _ => exact ⟨a, b, c, rfl⟩
theorem len4 {α : Type} {l : List α} (h : l.length = 4) : ∃ a b c d, l = [a, b, c, d] := by
  match l, h with
  | [a, b, c, d], _ => exact ⟨a, b, c, d, rfl⟩
theorem kb_of {K : PySem.W.Frag} {fd : FuncData} {ps ks : List Str} {n m : Nat} (hp : ps.length = m + n) (hn : 0 < m + n) (h : ∀ (us ws : List Value), us.length = m → ws.length = n → bindArgs fd ⟨us, ks.zip ws⟩ = pure (ps.zip (us ++ ws))) : KBinds K fd ps ks (kwG n) (kwG n) := by
  refine ⟨fun s us ws _ hl => ?_, fun {vs us zs ws} r r' => ?_⟩
  · unfold kwG at hl ⊢
    by_cases hw : ws.length = n
    · rw [if_pos hw] at hl ⊢
      exact .of_eq (h us ws (by rw [List.length_append] at hl; omega) hw)
    · rw [if_neg hw] at hl
      simp at hl; omega
  · unfold kwG
    have e : zs.length = ws.length := r'.length
    by_cases hw : zs.length = n
    · rw [if_pos hw, if_pos (by omega)]; exact r.append r'
    · rw [if_neg hw, if_neg (by omega)]; exact .nil
theorem no_exc {P : Program} {w : World} {H : Hp} {s : Shared} {e : Value} {s' : Shared} (h : L2.CX P w [] H s (fun _ _ _ => False) e s') : False := by
  obtain ⟨_, _, _, _, _, _, _, _, _, _, _, _, z⟩ := h
  exact z.elim
/-- an error of the class at S is what its except clause takes -/
theorem exm_own {K : PySem.W.Frag} {S : Addr} (h1 : PySem.W.subIn K (.ref S) (.type "BaseException") = some true) (h2 : PySem.W.isClsIn K S = true) (h3 : PySem.W.typeIn K (.ref S) = some (.type "type")) (h4 : PySem.W.subIn K (.ref S) (.ref S) = some true) :
    PySem.W.exmOne K (.ref S) (.ref S) = some true := by
  have h2' : (PySem.W.clsIn K S).isSome = true := h2
  unfold PySem.W.exmOne
  simp [h1, h2', h3]
  show PySem.W.kitCls K (.ref S) (.ref S) = some true
  unfold PySem.W.kitCls
  simp [h1, h2', h3, h4]
end Dl

set_option Elab.async false
set_option linter.all false
set_option maxRecDepth 100000
set_option maxHeartbeats 8000000
/-! the data layer, part 30: plain facts that laws share -/
namespace Dl
open PySem PySem.Spec PyProof.Rows L2
@[simp] theorem rw_taken : sgTaken.row = true := rfl
@[simp] theorem rw_pick : sgPick.row = true := rfl
@[simp] theorem rw_demand : sgDemand.row = false := rfl
@[simp] theorem rw_alike {n : Nat} : (sgAlike n).row = false := rfl
@[simp] theorem rw_case : sgCase.row = true := rfl
theorem wpL_mapS {f : PyData → (Option PyData → Prop) → Prop} {h : PyData → PyData} {xs : List PyData} {Q : List PyData → Prop} (hf : ∀ x ∈ xs, ∀ k, k (some (h x)) → f x k) (q : Q (xs.map h)) : wpL f xs Q := by
  refine wpL_map (g := fun x => some (h x)) hf ?_
  rw [List.filterMap_eq_map']
  exact q
/-- over ints, to bools, ints, .. -/
theorem wpL_of {α : Type} {f : PyData → (Option PyData → Prop) → Prop} {c : α → PyData} {g : α → Option PyData} {ns : List α} {Q : List PyData → Prop} (hf : ∀ n ∈ ns, ∀ k, k (g n) → f (c n) k) (q : Q (ns.filterMap g)) : wpL f (ns.map c) Q := by
  induction ns generalizing Q with
  | nil => exact q
  | cons n r ih =>
    refine hf n List.mem_cons_self _ (ih (fun m hm => hf m (List.mem_cons_of_mem _ hm)) ?_)
    rw [List.filterMap_cons] at q
    cases hg : g n with
    | none => rw [hg] at q; exact q
    | some y => rw [hg] at q; exact q
theorem wpL_ofS {α : Type} {f : PyData → (Option PyData → Prop) → Prop} {c : α → PyData} {h : α → PyData} {ns : List α} {Q : List PyData → Prop} (hf : ∀ n ∈ ns, ∀ k, k (some (h n)) → f (c n) k) (q : Q (ns.map h)) : wpL f (ns.map c) Q := by
  refine wpL_of (g := fun x => some (h x)) hf ?_
  rw [List.filterMap_eq_map']
  exact q
theorem rangeL_eq {lo : Int} {n : Nat} : rangeL lo 1 n = (List.range n).map fun (i : Nat) => PyData.int (lo + i) := by unfold rangeL; simp
theorem rangeL0 {n : Nat} : rangeL 0 1 n = (List.range n).map fun (i : Nat) => PyData.int (i : Int) := by unfold rangeL; simp
@[simp] theorem ints_map {ns : List Int} : intsOf (ns.map .int) = some ns := intsOf_map ns
@[simp] theorem bools_map {ns : List Bool} : boolsOf (ns.map .bool) = some ns := boolsOf_map ns
@[simp] theorem all_bools {bs : List Bool} : bltSem .all [.list (bs.map .bool)] = some (.bool (bs.all id)) := by simp [bltSem]
theorem all_map {α : Type} {p : α → Bool} {xs : List α} : bltSem .all [.list (xs.map fun x => .bool (p x))] = some (.bool (xs.all p)) := by
  have : (xs.map fun x => PyData.bool (p x)) = (xs.map p).map .bool := by simp
  rw [this, all_bools]; simp
theorem any_map {α : Type} {p : α → Bool} {xs : List α} : bltSem .any [.list (xs.map fun x => .bool (p x))] = some (.bool (xs.any p)) := by
  have : (xs.map fun x => PyData.bool (p x)) = (xs.map p).map .bool := by simp
  rw [this]
  show (boolsOf (List.map PyData.bool (List.map p xs))).map _ = _
  rw [boolsOf_map]; simp
@[simp] theorem sum_list {ns : List Int} : bltSem .sum [.list (ns.map .int)] = some (.int ns.sum) := by simp [bltSem]
@[simp] theorem sum_tuple {ns : List Int} : bltSem .sum [.tuple (ns.map .int)] = some (.int ns.sum) := by simp [bltSem]
theorem sum_map {α : Type} {p : α → Int} {xs : List α} : bltSem .sum [.list (xs.map fun x => .int (p x))] = some (.int (xs.map p).sum) := by
  have : (xs.map fun x => PyData.int (p x)) = (xs.map p).map .int := by simp
  rw [this, sum_list]
@[simp] theorem min_list {n : Int} {r : List Int} : bltSem .min [.list (.int n :: r.map .int)] = some (.int (minI n r)) := by
  have e : intsOf (PyData.int n :: r.map .int) = some (n :: r) := intsOf_map (n :: r)
  simp only [bltSem, bestSem, seqD, Option.bind_some, e]
@[simp] theorem max_list {n : Int} {r : List Int} : bltSem .max [.list (.int n :: r.map .int)] = some (.int (maxI n r)) := by
  have e : intsOf (PyData.int n :: r.map .int) = some (n :: r) := intsOf_map (n :: r)
  simp only [bltSem, bestSem, seqD, Option.bind_some, e]
@[simp] theorem min2 {a b : Int} : bltSem .min [.int a, .int b] = some (.int (min a b)) := by
  show some (PyData.int (if b < a then b else a)) = _
  congr 2
  by_cases h : b < a
  · rw [if_pos h]; omega
  · rw [if_neg h]; omega
@[simp] theorem max2 {a b : Int} : bltSem .max [.int a, .int b] = some (.int (max a b)) := by
  show some (PyData.int (if b > a then b else a)) = _
  congr 2
  by_cases h : b > a
  · rw [if_pos h]; omega
  · rw [if_neg h]; omega
@[simp] theorem tup_list {ns : List PyData} : bltSem .tuple [.list ns] = some (.tuple ns) := rfl
@[simp] theorem ite_bool {a : Prop} [Decidable a] {b : Bool} {Q : PyData → Prop} : (if a then Q (.bool b) else Q (.bool false)) ↔ Q (.bool (decide a && b)) := by
  by_cases h : a <;> simp [h]
@[simp] theorem bin_add {a b : Int} : binSem .Add (.int a) (.int b) = some (.int (a + b)) := rfl
@[simp] theorem bin_sub {a b : Int} : binSem .Sub (.int a) (.int b) = some (.int (a - b)) := rfl
theorem bin_mul {a b : Int} (h : mulOk a b) : binSem .Mult (.int a) (.int b) = some (.int (a * b)) := by unfold binSem; simp [h]
theorem bin_div {a b : Int} (h : divOk b) : binSem .FloorDiv (.int a) (.int b) = some (.int (a / b)) := by unfold binSem; simp [h]
@[simp] theorem bin_cat {a b : List PyData} : binSem .Add (.list a) (.list b) = if a.length + b.length ≤ 16777216 then some (.list (a ++ b)) else none := rfl
@[simp] theorem bin_catT {a b : List PyData} : binSem .Add (.tuple a) (.tuple b) = if a.length + b.length ≤ 16777216 then some (.tuple (a ++ b)) else none := rfl
theorem bin_mod {a b : Int} (h : 0 < b) : binSem .Mod (.int a) (.int b) = some (.int (a % b)) := by unfold binSem; simp [h]
theorem at_ints {ns : List Int} {i : Nat} (h : i < ns.length) : atI (ns.map PyData.int) (i : Int) = some (.int (ns.getD i 0)) := by
  rw [atI_nat, List.getElem?_map, List.getElem?_eq_getElem h]
  simp [List.getD, h]
theorem at_map {α : Type} {c : α → PyData} {ns : List α} {i : Nat} {a : α} (h : ns[i]? = some a) : atI (ns.map c) (i : Int) = some (c a) := by
  rw [atI_nat, List.getElem?_map, h]; rfl
theorem demand_b {b : Bool} {n : Str} {Q : PyData → Prop} {X : Str → Prop} (h : b = true → Q .none) (h' : b = false → X n) : sgDemand.sp [.bool b, .str n] Q X := ⟨_, _, b, rfl, rfl, h, h'⟩
theorem flat_ints {fs : List Int} : (fs.map PyData.int).all flatD = true := by simp [flatD]
theorem any_ints {fs : List Int} {i : Int} : ((fs.map PyData.int).any fun z => PyData.eqv z (.int i)) = decide (i ∈ fs) := by
  rw [Bool.eq_iff_iff]
  simp only [List.any_map, List.any_eq_true, decide_eq_true_eq]
  constructor
  · rintro ⟨x, hx, e⟩
    have : x = i := by simpa using e
    exact this ▸ hx
  · intro h
    exact ⟨i, h, by simp⟩
theorem inSem_tuple {d : PyData} {es : List PyData} (h : d.depth ≤ 60) : inSem d (.tuple es) = some (es.any fun z => PyData.eqv z d) := if_pos (Nat.le_trans (Nat.min_le_right _ _) h)
theorem inSem_list {d : PyData} {es : List PyData} (h : d.depth ≤ 60) : inSem d (.list es) = some (es.any fun z => PyData.eqv z d) := if_pos (Nat.le_trans (Nat.min_le_right _ _) h)
theorem in_tuple {d : PyData} {es : List PyData} (h : d.depth ≤ 60) : cmpSem .In d (.tuple es) = some (es.any fun z => PyData.eqv z d) := inSem_tuple h
theorem in_list {d : PyData} {es : List PyData} (h : d.depth ≤ 60) : cmpSem .In d (.list es) = some (es.any fun z => PyData.eqv z d) := inSem_list h
theorem notin_tuple {d : PyData} {es : List PyData} (h : d.depth ≤ 60) : cmpSem .NotIn d (.tuple es) = some (!es.any fun z => PyData.eqv z d) := by
  show (inSem d (.tuple es)).map (!·) = _
  rw [inSem_tuple h]; rfl
theorem notin_list {d : PyData} {es : List PyData} (h : d.depth ≤ 60) : cmpSem .NotIn d (.list es) = some (!es.any fun z => PyData.eqv z d) := by
  show (inSem d (.list es)).map (!·) = _
  rw [inSem_list h]; rfl
theorem in_ints {fs : List Int} {i : Int} : cmpSem .In (.int i) (.tuple (fs.map .int)) = some (decide (i ∈ fs)) := by
  rw [in_tuple (Nat.zero_le _), any_ints]
theorem notin_ints {fs : List Int} {i : Int} : cmpSem .NotIn (.int i) (.tuple (fs.map .int)) = some (!decide (i ∈ fs)) := by
  rw [notin_tuple (Nat.zero_le _), any_ints]
theorem filterMap_if {α β : Type} {p : α → Prop} [DecidablePred p] {h : α → β} {xs : List α} : (xs.filterMap fun x => if p x then some (h x) else none) = (xs.filter fun x => decide (p x)).map h := by
  induction xs with
  | nil => rfl
  | cons x r ih =>
    rw [List.filterMap_cons, List.filter_cons, ih]
    by_cases hx : p x <;> simp [hx]
theorem enum_ints {ns : List Int} {d : Int} : enumL (ns.map .int) = (List.range ns.length).map fun (i : Nat) => PyData.tuple [.int (i : Int), .int (ns.getD i d)] := by
  apply List.ext_getElem?
  intro i
  by_cases h : i < ns.length
  · rw [enumL_get (d := .int ns[i]) (by rw [List.getElem?_map, List.getElem?_eq_getElem h]; rfl), List.getElem?_map, List.getElem?_range h]
    simp [List.getD, h]
  · rw [List.getElem?_eq_none (by rw [enumL_len, List.length_map]; omega), List.getElem?_eq_none (by simp; omega)]
theorem div_ok {b : Int} (h : 0 < b) (h2 : b < 1000000000000) : divOk b := ⟨h, Big.of64 (by omega)⟩
theorem mul_ok {a b : Int} (h : -1000000000000 < a ∧ a < 1000000000000) (h2 : -1000000000000 < b ∧ b < 1000000000000) : mulOk a b := ⟨Big.of64 (by omega), Big.of64 (by omega)⟩
theorem minI_eq {n : Int} {r : List Int} : minI n r = r.foldl min n := by
  unfold minI
  congr 1
  funext a b
  by_cases h : b < a
  · rw [if_pos h]; omega
  · rw [if_neg h]; omega
theorem maxI_eq {n : Int} {r : List Int} : maxI n r = r.foldl max n := by
  unfold maxI
  congr 1
  funext a b
  by_cases h : a < b
  · rw [if_pos h]; omega
  · rw [if_neg h]; omega
theorem foldl_min_le {n : Int} {r : List Int} : r.foldl min n ≤ n ∧ (∀ x ∈ r, r.foldl min n ≤ x) ∧ (r.foldl min n = n ∨ r.foldl min n ∈ r) := by
  induction r generalizing n with
  | nil => simp
  | cons a r ih =>
    obtain ⟨h1, h2, h3⟩ := ih (n := min n a)
    simp only [List.foldl_cons]
    refine ⟨by omega, fun x hx => ?_, ?_⟩
    · rcases List.mem_cons.mp hx with rfl | hx
      · omega
      · exact h2 x hx
    · rcases h3 with h3 | h3
      · rw [h3]
        by_cases h : n ≤ a
        · left; omega
        · right; rw [show min n a = a by omega]; exact List.mem_cons_self
      · exact .inr (List.mem_cons_of_mem _ h3)
/-- what stands at a place, or d -/
def at0 {α : Type} (l : List α) (i : Nat) (d : α) : α := (l[i]?).getD d
theorem at0_of {α : Type} {l : List α} {i : Nat} {d : α} (h : i < l.length) : at0 l i d = l[i] := by unfold at0; rw [List.getElem?_eq_getElem h]; rfl
theorem at0_mem {α : Type} {l : List α} {i : Nat} {d : α} (h : i < l.length) : at0 l i d ∈ l := by rw [at0_of h]; exact List.getElem_mem h
theorem at_int {ns : List Int} {i : Nat} {d : Int} (h : i < ns.length) : atI (ns.map PyData.int) (i : Int) = some (.int (at0 ns i d)) := by
  rw [atI_nat, List.getElem?_map, List.getElem?_eq_getElem h, at0_of h]; rfl
theorem enum_int {ns : List Int} {d : Int} : enumL (ns.map .int) = (List.range ns.length).map fun (i : Nat) => PyData.tuple [.int (i : Int), .int (at0 ns i d)] := enum_ints
/-! ### tuples and lists of ints -/
def tI (ns : List Int) : PyData := .tuple (ns.map .int)
def tII (ss : List (List Int)) : PyData := .tuple (ss.map tI)
def lI (ns : List Int) : PyData := .list (ns.map .int)
@[simp] theorem len_tI {ns : List Int} : bltSem .len [tI ns] = some (.int ns.length) := by simp [tI]
@[simp] theorem len_tII {ns : List (List Int)} : bltSem .len [tII ns] = some (.int ns.length) := by simp [tII]
@[simp] theorem len_lI {ns : List Int} : bltSem .len [lI ns] = some (.int ns.length) := by simp [lI]
@[simp] theorem seqD_tI {ns : List Int} : seqD (tI ns) = some (ns.map .int) := rfl
@[simp] theorem seqD_tII {ns : List (List Int)} : seqD (tII ns) = some (ns.map tI) := rfl
@[simp] theorem seqD_lI {ns : List Int} : seqD (lI ns) = some (ns.map .int) := rfl
@[simp] theorem sum_tI {ns : List Int} : bltSem .sum [tI ns] = some (.int ns.sum) := sum_tuple
@[simp] theorem sum_lI {ns : List Int} : bltSem .sum [lI ns] = some (.int ns.sum) := sum_list
theorem ix_tI {ns : List Int} {i : Nat} {d : Int} (h : i < ns.length) : ixSem (tI ns) (.int (i : Int)) = some (.int (at0 ns i d)) := at_int h
theorem ix_lI {ns : List Int} {i : Nat} {d : Int} (h : i < ns.length) : ixSem (lI ns) (.int (i : Int)) = some (.int (at0 ns i d)) := at_int h
theorem ix_tII {ns : List (List Int)} {i : Nat} (h : i < ns.length) : ixSem (tII ns) (.int (i : Int)) = some (tI (at0 ns i [])) := by
  show atI (ns.map tI) (i : Int) = _
  rw [atI_nat, List.getElem?_map, List.getElem?_eq_getElem h, at0_of h]; rfl
@[simp] theorem in_tI {fs : List Int} {i : Int} : cmpSem .In (.int i) (tI fs) = some (decide (i ∈ fs)) := in_ints
@[simp] theorem notin_tI {fs : List Int} {i : Int} : cmpSem .NotIn (.int i) (tI fs) = some (!decide (i ∈ fs)) := notin_ints
@[simp] theorem inst_tI {ns : List Int} {T : String} : isInst (tI ns) T = ("tuple" == T || ("tuple" == "bool" && T == "int")) := rfl
@[simp] theorem tuple_lI {ns : List Int} : bltSem .tuple [lI ns] = some (tI ns) := rfl
theorem list_ints {ns : List Int} : PyData.list (ns.map .int) = lI ns := rfl
theorem tuple_ints {ns : List Int} : PyData.tuple (ns.map .int) = tI ns := rfl
/-- a for over things, by what has been walked -/
theorem forL_pre {α : Type} {c : α → PyData} {f : PyData → Env1 → (Env1 → Prop) → Prop} {xs : List α} {ρ0 : Env1} {Q : Env1 → Prop} (I : List α → Env1 → Prop) (h0 : I [] ρ0)
    (hs : ∀ pre a post, xs = pre ++ a :: post → ∀ ρ k, I pre ρ → (∀ ρ', I (pre ++ [a]) ρ' → k ρ') → f (c a) ρ k) (hd : ∀ ρ, I xs ρ → Q ρ) : forL f (xs.map c) ρ0 Q := by
  have key : ∀ (post pre : List α) ρ, xs = pre ++ post → I pre ρ → forL f (post.map c) ρ Q := by
    intro post
    induction post with
    | nil => intro pre ρ e i; rw [List.append_nil] at e; exact hd ρ (e ▸ i)
    | cons a post ih => intro pre ρ e i; exact hs pre a post e ρ _ i fun ρ' i' => ih (pre ++ [a]) ρ' (by rw [e]; simp) i'
  exact key xs [] ρ0 rfl h0
@[simp] theorem un_sub {a : Int} : unSem .USub (.int a) = some (.int (-a)) := rfl
@[simp] theorem aug_sub {a b : Int} : augSem .Sub (.int a) (.int b) = some (.int (a - b)) := rfl
@[simp] theorem aug_add {a b : Int} : augSem .Add (.int a) (.int b) = some (.int (a + b)) := rfl
@[simp] theorem ix_last {xs : List PyData} {d : PyData} : atI (xs ++ [d]) (-1) = some d := by
  unfold atI ixN
  rw [if_neg (by decide), List.length_append, List.length_singleton, if_pos (by omega)]
  show (xs ++ [d])[((-1 : Int) + ((xs.length + 1 : Nat) : Int)).toNat]? = some d
  rw [show ((-1 : Int) + ((xs.length + 1 : Nat) : Int)).toNat = xs.length by omega]
  simp
@[simp] theorem zipD_tt {a b : List PyData} : zipD (.tuple a) (.tuple b) = some (a, b) := rfl
@[simp] theorem zipD_ll {a b : List PyData} : zipD (.list a) (.list b) = some (a, b) := rfl
@[simp] theorem zipD_III {a : List (List Int)} {b : List Int} : zipD (tII a) (tI b) = some (a.map tI, b.map .int) := rfl
@[simp] theorem zipD_II {a : List Int} {b : List Int} : zipD (tI a) (tI b) = some (a.map .int, b.map .int) := rfl
theorem zipL_map {α β : Type} {c : α → PyData} {d : β → PyData} {xs : List α} {ys : List β} : zipL (xs.map c) (ys.map d) = (xs.zip ys).map fun p => .tuple [c p.1, d p.2] := by
  unfold zipL
  rw [List.zipWith_map, ← List.map_uncurry_zip_eq_zipWith]
  rfl
theorem s_whl {Γ : Gam} {c : E} {b : SL} {ρ : Env1} {P : Post} : wpS Γ (.whl c b) ρ P = ∃ I : Nat → Env1 → Prop, (∃ n, I n ρ) ∧ ∀ n ρ1, I n ρ1 → wpT Γ c ρ1 (fun t => if t = true then wpSs Γ b ρ1 { nx := fun ρ2 => ∃ m, m < n ∧ I m ρ2, ct := fun ρ2 => ∃ m, m < n ∧ I m ρ2, bk := P.nx, rt := P.rt, xc := P.xc } else P.nx ρ1) P.xc := rfl
theorem cut_to {xs : List PyData} {i : Nat} : slSem none (some (i : Int)) (.list xs) = some (.list (xs.take i)) := by
  show some (PyData.list (cutD xs none (some (i : Int)))) = _
  unfold cutD
  rw [HT.sIx_none, HT.sIx_nat, List.drop_zero, Nat.sub_zero]
  congr 2
  by_cases h : i ≤ xs.length
  · rw [Nat.min_eq_left h]
  · rw [Nat.min_eq_right (by omega), List.take_of_length_le (Nat.le_refl _), List.take_of_length_le (by omega)]
theorem cut_from {xs : List PyData} {i : Nat} : slSem (some (i : Int)) none (.list xs) = some (.list (xs.drop i)) := by
  show some (PyData.list (cutD xs (some (i : Int)) none)) = _
  unfold cutD
  rw [HT.sIx_none, HT.sIx_nat]
  congr 2
  by_cases h : i ≤ xs.length
  · rw [Nat.min_eq_left h, List.take_of_length_le (by rw [List.length_drop]; exact Nat.le_refl _)]
  · rw [Nat.min_eq_right (by omega), List.drop_eq_nil_of_le (Nat.le_refl _), List.drop_eq_nil_of_le (by omega)]
    simp
theorem rep_list {d : PyData} {n : Nat} (h : n ≤ 10000) : binSem .Mult (.list [d]) (.int (n : Int)) = some (.list (List.replicate n d)) := by
  show (if _ then _ else _) = _
  rw [if_pos ⟨by simp, by omega, by omega⟩]
  congr 2
  rw [Int.toNat_natCast]
  induction n with
  | zero => rfl
  | succ n ih => rw [List.replicate_succ, List.flatten_cons, ih (by omega), List.replicate_succ]; rfl
theorem range_pre {n : Nat} {pre post : List Nat} {a : Nat} (h : List.range n = pre ++ a :: post) : a = pre.length ∧ pre.length < n := by
  have h1 : (List.range n)[pre.length]? = some a := by rw [h]; simp
  have h2 : pre.length < n := by
    have := congrArg List.length h
    simp at this; omega
  rw [List.getElem?_range h2] at h1
  exact ⟨(Option.some.inj h1).symm, h2⟩
end Dl

set_option Elab.async false
set_option linter.all false
set_option maxRecDepth 100000
set_option maxHeartbeats 8000000
/-! the data layer, part 31: the defs of values.py that all laws share; draws; more plain facts -/
namespace Dl
open PySem PySem.Spec PyProof.Rows L2
def b_is_integer : SL := (.cons (.ret (.ands (.cons (.isi (.var 0) "int") (.cons (.not (.isi (.var 0) "bool")) (.cons (.chn .LtE .LtE (.var 1) (.var 0) (.var 2)) .nil))))) .nil)
def b_is_integers : SL := (.cons (.ife (.ors (.cons (.not (.isi (.var 0) "tuple")) (.cons (.cmp .NotEq (.blt .len (.cons (.var 0) .nil)) (.var 1)) .nil))) (.cons (.ret (.cst (.bl false))) .nil) .nil) (.cons (.ret (.blt .all (.cons (.lc (.call "is_integer" none (.cons (.var 4) (.cons (.var 2) (.cons (.var 3) .nil))) [] .nil) [("one", 4)] (.name 4 "one") (.of (.var 0)) .nil) .nil))) .nil))
def b_is_tuple : SL := (.cons (.ret (.ands (.cons (.isi (.var 0) "tuple") (.cons (.chn .LtE .LtE (.var 1) (.blt .len (.cons (.var 0) .nil)) (.var 2)) .nil)))) .nil)
def b_is_rising : SL := (.cons (.ret (.blt .all (.cons (.lc (.cmp .Lt (.idx (.var 0) (.bin .Sub (.var 1) (.cst (.int 1)))) (.idx (.var 0) (.var 1))) [("at", 1)] (.name 1 "at") (.rng2 (.cst (.int 1)) (.blt .len (.cons (.var 0) .nil))) .nil) .nil))) .nil)
def b_common : SL := (.cons (.whl (.cmp .Gt (.var 1) (.cst (.int 0))) (.cons (.par2 false 0 (.var 1) false 1 (.bin .Mod (.var 0) (.var 1))) .nil)) (.cons (.ret (.var 0)) .nil))
def b_fraction : SL := (.cons (.set false 2 (.call "common" none (.cons (.blt .abs (.cons (.var 0) .nil)) (.cons (.var 1) .nil)) [] .nil)) (.cons (.ret (.tup (.cons (.bin .FloorDiv (.var 0) (.var 2)) (.cons (.bin .FloorDiv (.var 1) (.var 2)) .nil)))) .nil))
def b_power : SL := (.cons (.set false 2 (.cst (.int 1))) (.cons (.for_ (.name 3 "turn") (.rng1 (.var 1)) (.cons (.set false 2 (.bin .Mult (.var 2) (.var 0))) .nil)) (.cons (.ret (.var 2)) .nil)))
def b_is_fraction : SL := (.cons (.ife (.ors (.cons (.not (.call "is_integers" none (.cons (.var 0) (.cons (.cst (.int 2)) (.cons (.un .USub (.bin .Pow (.cst (.int 10)) (.cst (.int 12)))) (.cons (.bin .Pow (.cst (.int 10)) (.cst (.int 12))) .nil)))) [] .nil)) (.cons (.cmp .Lt (.idx (.var 0) (.cst (.int 1))) (.cst (.int 1))) .nil))) (.cons (.ret (.cst (.bl false))) .nil) .nil) (.cons (.ret (.cmp .Eq (.call "common" none (.cons (.blt .abs (.cons (.idx (.var 0) (.cst (.int 0))) .nil)) (.cons (.idx (.var 0) (.cst (.int 1))) .nil)) [] .nil) (.cst (.int 1)))) .nil))
def b_plus : SL := (.cons (.ret (.call "fraction" none (.cons (.bin .Add (.bin .Mult (.idx (.var 0) (.cst (.int 0))) (.idx (.var 1) (.cst (.int 1)))) (.bin .Mult (.idx (.var 1) (.cst (.int 0))) (.idx (.var 0) (.cst (.int 1))))) (.cons (.bin .Mult (.idx (.var 0) (.cst (.int 1))) (.idx (.var 1) (.cst (.int 1)))) .nil)) [] .nil)) .nil)
def b_times : SL := (.cons (.ret (.call "fraction" none (.cons (.bin .Mult (.idx (.var 0) (.cst (.int 0))) (.idx (.var 1) (.cst (.int 0)))) (.cons (.bin .Mult (.idx (.var 0) (.cst (.int 1))) (.idx (.var 1) (.cst (.int 1)))) .nil)) [] .nil)) .nil)
def b_minus : SL := (.cons (.ret (.call "fraction" none (.cons (.bin .Sub (.bin .Mult (.idx (.var 0) (.cst (.int 0))) (.idx (.var 1) (.cst (.int 1)))) (.bin .Mult (.idx (.var 1) (.cst (.int 0))) (.idx (.var 0) (.cst (.int 1))))) (.cons (.bin .Mult (.idx (.var 0) (.cst (.int 1))) (.idx (.var 1) (.cst (.int 1)))) .nil)) [] .nil)) .nil)
def b_is_less : SL := (.cons (.ret (.cmp .Lt (.bin .Mult (.idx (.var 0) (.cst (.int 0))) (.idx (.var 1) (.cst (.int 1)))) (.bin .Mult (.idx (.var 1) (.cst (.int 0))) (.idx (.var 0) (.cst (.int 1)))))) .nil)
/-! ### what they promise -/
def isIntB (v : PyData) (a b : Int) : Bool := match v with
  | .int i => decide (a ≤ i) && decide (i ≤ b)
  | _ => false
def isIntsB (v : PyData) (n a b : Int) : Bool := match v with
  | .tuple es => decide ((es.length : Int) = n) && es.all fun e => isIntB e a b
  | _ => false
def isTupB (v : PyData) (a b : Int) : Bool := match v with
  | .tuple es => decide (a ≤ (es.length : Int)) && decide ((es.length : Int) ≤ b)
  | _ => false
def intD : PyData → Int
  | .int i => i
  | _ => 0
def lenD : PyData → Int
  | .tuple es => es.length
  | .list es => es.length
  | _ => 0
def intsD (v : PyData) : List Int := match v with
  | .tuple es => (intsOf es).getD []
  | .list es => (intsOf es).getD []
  | _ => []
def risingB : List Int → Bool
  | a :: b :: r => decide (a < b) && risingB (b :: r)
  | _ => true
/-- whether each thing is less than the next, by a reading of less -/
def risingBy {α : Type} (c : α → α → Bool) : List α → Bool
  | a :: b :: r => c a b && risingBy c (b :: r)
  | _ => true
def sg_is_integer : Sig where
  ps := ["value", "least", "most"]
  row := false
  kws := []
  sp := fun ds Q X => ∃ v a b, ds = [v, .int a, .int b] ∧ Q (.bool (isIntB v a b))
def sg_is_integers : Sig where
  ps := ["value", "many", "least", "most"]
  row := false
  kws := []
  sp := fun ds Q X => ∃ v n a b, ds = [v, .int n, .int a, .int b] ∧ Q (.bool (isIntsB v n a b))
def sg_is_tuple : Sig where
  ps := ["value", "least", "most"]
  row := false
  kws := []
  sp := fun ds Q X => ∃ v a b, ds = [v, .int a, .int b] ∧ Q (.bool (isTupB v a b))
def sg_is_rising : Sig where
  ps := ["things"]
  row := false
  kws := []
  sp := fun ds Q X => ∃ (xs : List PyData) (c : PyData → PyData → Bool), (ds = [.tuple xs] ∨ ds = [.list xs]) ∧ xs.length ≤ 1000000 ∧ (∀ x ∈ xs, ∀ y ∈ xs, cmpSem .Lt x y = some (c x y)) ∧ Q (.bool (risingBy c xs))
def sg_common : Sig where
  ps := ["one", "other"]
  row := false
  kws := []
  sp := fun ds Q X => ∃ a b : Nat, ds = [.int a, .int b] ∧ Q (.int (Nat.gcd a b))
/-- a fraction in lowest terms -/
def lowP (a b : Int) : Int := a / (Nat.gcd a.natAbs b.natAbs : Nat)
def lowW (a b : Int) : Int := b / (Nat.gcd a.natAbs b.natAbs : Nat)
def fr (a b : Int) : PyData := tI [a, b]
def low (a b : Int) : PyData := fr (lowP a b) (lowW a b)
def sg_fraction : Sig where
  ps := ["part", "whole"]
  row := false
  kws := []
  sp := fun ds Q X => ∃ a b : Int, ds = [.int a, .int b] ∧ 0 < b ∧ b.natAbs < Big ∧ Q (low a b)
def sg_power : Sig where
  ps := ["number", "many"]
  row := false
  kws := []
  sp := fun ds Q X => ∃ a : Int, ∃ k : Nat, ds = [.int a, .int k] ∧ a.natAbs ≤ 1000000 ∧ k ≤ 100 ∧ Q (.int (a ^ k))
def isFracB (v : PyData) : Bool := match v with
  | .tuple [.int a, .int b] => decide (-(10 ^ 12) ≤ a) && decide (a ≤ 10 ^ 12) && decide (1 ≤ b) && decide (b ≤ 10 ^ 12) && decide (Nat.gcd a.natAbs b.natAbs = 1)
  | _ => false
def sg_is_fraction : Sig where
  ps := ["value"]
  row := false
  kws := []
  sp := fun ds Q X => ∃ v, ds = [v] ∧ Q (.bool (isFracB v))
/-- numbers that may be multiplied, divided -/
def Sm (a : Int) : Prop := a.natAbs < 2 ^ 1900
def sg_plus : Sig where
  ps := ["one", "other"]
  row := false
  kws := []
  sp := fun ds Q X => ∃ a b c d : Int, ds = [fr a b, fr c d] ∧ 0 < b ∧ 0 < d ∧ Sm a ∧ Sm b ∧ Sm c ∧ Sm d ∧ Q (low (a * d + c * b) (b * d))
def sg_times : Sig where
  ps := ["one", "other"]
  row := false
  kws := []
  sp := fun ds Q X => ∃ a b c d : Int, ds = [fr a b, fr c d] ∧ 0 < b ∧ 0 < d ∧ Sm a ∧ Sm b ∧ Sm c ∧ Sm d ∧ Q (low (a * c) (b * d))
def sg_minus : Sig where
  ps := ["one", "other"]
  row := false
  kws := []
  sp := fun ds Q X => ∃ a b c d : Int, ds = [fr a b, fr c d] ∧ 0 < b ∧ 0 < d ∧ Sm a ∧ Sm b ∧ Sm c ∧ Sm d ∧ Q (low (a * d - c * b) (b * d))
def sg_is_less : Sig where
  ps := ["one", "other"]
  row := false
  kws := []
  sp := fun ds Q X => ∃ a b c d : Int, ds = [fr a b, fr c d] ∧ Sm a ∧ Sm b ∧ Sm c ∧ Sm d ∧ Q (.bool (decide (a * d < c * b)))
def gam__law_pick : Gam := gm [("_law_taken", sgTaken)] []
@[simp] theorem gf__law_pick__law_taken : gam__law_pick.funs "_law_taken" = some sgTaken := rfl
def gam_is_integer : Gam := gm [] []
def gam_is_integers : Gam := gm [("is_integer", sg_is_integer)] []
@[simp] theorem gf_is_integers_is_integer : gam_is_integers.funs "is_integer" = some sg_is_integer := rfl
def gam_is_tuple : Gam := gm [] []
def gam_is_rising : Gam := gm [] []
def gam_common : Gam := gm [] []
def gam_fraction : Gam := gm [("common", sg_common)] []
@[simp] theorem gf_fraction_common : gam_fraction.funs "common" = some sg_common := rfl
def gam_power : Gam := gm [] []
def gam_is_fraction : Gam := gm [("is_integers", sg_is_integers), ("common", sg_common)] []
@[simp] theorem gf_is_fraction_is_integers : gam_is_fraction.funs "is_integers" = some sg_is_integers := rfl
@[simp] theorem gf_is_fraction_common : gam_is_fraction.funs "common" = some sg_common := rfl
def gam_plus : Gam := gm [("fraction", sg_fraction)] []
@[simp] theorem gf_plus_fraction : gam_plus.funs "fraction" = some sg_fraction := rfl
def gam_times : Gam := gm [("fraction", sg_fraction)] []
@[simp] theorem gf_times_fraction : gam_times.funs "fraction" = some sg_fraction := rfl
def gam_minus : Gam := gm [("fraction", sg_fraction)] []
@[simp] theorem gf_minus_fraction : gam_minus.funs "fraction" = some sg_fraction := rfl
def gam_is_less : Gam := gm [] []
@[simp] theorem rw_is_integer : sg_is_integer.row = false := rfl
@[simp] theorem rw_is_integers : sg_is_integers.row = false := rfl
@[simp] theorem rw_is_tuple : sg_is_tuple.row = false := rfl
@[simp] theorem rw_is_rising : sg_is_rising.row = false := rfl
@[simp] theorem rw_common : sg_common.row = false := rfl
@[simp] theorem rw_fraction : sg_fraction.row = false := rfl
@[simp] theorem rw_power : sg_power.row = false := rfl
@[simp] theorem rw_is_fraction : sg_is_fraction.row = false := rfl
@[simp] theorem rw_plus : sg_plus.row = false := rfl
@[simp] theorem rw_times : sg_times.row = false := rfl
@[simp] theorem rw_minus : sg_minus.row = false := rfl
@[simp] theorem rw_is_less : sg_is_less.row = false := rfl
/-! ### they keep it -/
theorem ln__law_pick : ∀ ds Q X, sgPick.sp ds Q X → (if sgPick.row then 1 else 0) + ds.length = sgPick.ps.length := by
  rintro ds Q X ⟨xs, rfl, _⟩; rfl
theorem wp__law_pick : ∀ ds Q X, sgPick.sp ds Q X → wpSs gam__law_pick b__law_pick (rho0 2 sgPick.row ds) (postOf Q X) := fun ds Q X h => pick_wp rfl ds Q X h
theorem ln_is_integer : ∀ ds Q X, sg_is_integer.sp ds Q X → (if sg_is_integer.row then 1 else 0) + ds.length = sg_is_integer.ps.length := by
  rintro ds Q X ⟨v, a, b, rfl, _⟩; rfl
theorem wp_is_integer : ∀ ds Q X, sg_is_integer.sp ds Q X → wpSs gam_is_integer b_is_integer (rho0 3 sg_is_integer.row ds) (postOf Q X) := by
  rintro ds Q X ⟨v, a, b, rfl, hq⟩
  cases v <;> simpa [b_is_integer, isIntB] using hq
theorem ln_is_integers : ∀ ds Q X, sg_is_integers.sp ds Q X → (if sg_is_integers.row then 1 else 0) + ds.length = sg_is_integers.ps.length := by
  rintro ds Q X ⟨v, n, a, b, rfl, _⟩; rfl
theorem wp_is_integers : ∀ ds Q X, sg_is_integers.sp ds Q X → wpSs gam_is_integers b_is_integers (rho0 5 sg_is_integers.row ds) (postOf Q X) := by
  rintro ds Q X ⟨v, n, a, b, rfl, hq⟩
  cases v <;> try (simpa [b_is_integers, isIntsB] using hq)
  rename_i es
  simp [b_is_integers, isIntsB] at hq ⊢
  by_cases h : (es.length : Int) = n
  · rw [if_pos h]
    intro _
    refine wpL_mapS (h := fun e => .bool (isIntB e a b)) (fun e _ k hk => ⟨_, _, _, rfl, hk⟩) ?_
    rw [all_map]
    simpa [h] using hq
  · rw [if_neg h]
    simpa [h] using hq
theorem ln_is_tuple : ∀ ds Q X, sg_is_tuple.sp ds Q X → (if sg_is_tuple.row then 1 else 0) + ds.length = sg_is_tuple.ps.length := by
  rintro ds Q X ⟨v, a, b, rfl, _⟩; rfl
theorem wp_is_tuple : ∀ ds Q X, sg_is_tuple.sp ds Q X → wpSs gam_is_tuple b_is_tuple (rho0 3 sg_is_tuple.row ds) (postOf Q X) := by
  rintro ds Q X ⟨v, a, b, rfl, hq⟩
  cases v <;> simpa [b_is_tuple, isTupB] using hq
theorem risingBy_iff {α : Type} {c : α → α → Bool} (d : α) : ∀ {ns : List α}, risingBy c ns = (List.range (ns.length - 1)).all fun i => c (at0 ns i d) (at0 ns (i + 1) d)
  | [] => rfl
  | [_] => rfl
  | a :: b :: r => by
    unfold risingBy
    rw [risingBy_iff d (ns := b :: r)]
    have e1 : (a :: b :: r).length - 1 = (b :: r).length - 1 + 1 := by simp
    rw [e1, List.range_succ_eq_map, List.all_cons, List.all_map]
    rfl
theorem rising_by : ∀ {ns : List Int}, risingB ns = risingBy (fun a b => decide (a < b)) ns
  | [] => rfl
  | [_] => rfl
  | a :: b :: r => by unfold risingB risingBy; rw [rising_by]
theorem rising_iff {ns : List Int} : risingB ns = (List.range (ns.length - 1)).all fun i => decide (at0 ns i 0 < at0 ns (i + 1) 0) := by rw [rising_by, risingBy_iff 0]
theorem ln_is_rising : ∀ ds Q X, sg_is_rising.sp ds Q X → (if sg_is_rising.row then 1 else 0) + ds.length = sg_is_rising.ps.length := by
  rintro ds Q X ⟨v, c, rfl | rfl, _⟩ <;> rfl
theorem at_D {xs : List PyData} {i : Nat} (h : i < xs.length) : atI xs (i : Int) = some (at0 xs i .none) := by
  rw [atI_nat, List.getElem?_eq_getElem h, at0_of h]
theorem wp_is_rising : ∀ ds Q X, sg_is_rising.sp ds Q X → wpSs gam_is_rising b_is_rising (rho0 2 sg_is_rising.row ds) (postOf Q X) := by
  rintro ds Q X ⟨xs, c, hd, hl, hc, hq⟩
  have key : ∀ v : PyData, (v = .tuple xs ∨ v = .list xs) → wpSs gam_is_rising b_is_rising (rho0 2 false [v]) (postOf Q X) := by
    intro v hv
    have e0 : bltSem .len [v] = some (.int xs.length) := by rcases hv with rfl | rfl <;> rfl
    have e9 : ∀ i : Int, ixSem v (.int i) = atI xs i := by intro i; rcases hv with rfl | rfl <;> rfl
    simp [b_is_rising, e0]
    refine ⟨by omega, ?_⟩
    rw [rangeL_eq]
    refine wpL_ofS (h := fun i => .bool (c (at0 xs i .none) (at0 xs (i + 1) .none))) (fun i hi k hk => ?_) ?_
    · have hi := List.mem_range.mp hi
      have e1 : (1 + (i : Int) - 1) = (i : Nat) := by omega
      have e2 : (1 + (i : Int)) = ((i + 1 : Nat) : Int) := by omega
      simp only [bin_sub, opt_some, e1]
      rw [e9, at_D (by omega), opt_some, e9, e2, at_D (by omega), opt_some, hc _ (at0_mem (by omega)) _ (at0_mem (by omega)), opt_some]
      exact hk
    · rw [all_map, ← risingBy_iff]
      simpa using hq
  rcases hd with rfl | rfl
  · exact key _ (.inl rfl)
  · exact key _ (.inr rfl)
theorem rising_ints {ns : List Int} (hl : ns.length ≤ 1000000) {Q : PyData → Prop} {X : Str → Prop} (hq : Q (.bool (risingB ns))) : sg_is_rising.sp [tI ns] Q X ∧ sg_is_rising.sp [lI ns] Q X := by
  have key : risingB ns = risingBy (fun x y => decide (intD x < intD y)) (ns.map PyData.int) := by
    rw [rising_by]
    clear hl hq
    induction ns with
    | nil => rfl
    | cons a r ih =>
      cases r with
      | nil => rfl
      | cons b r =>
        simp only [List.map_cons, risingBy, intD] at ih ⊢
        rw [ih]; rfl
  have hc : ∀ x ∈ ns.map PyData.int, ∀ y ∈ ns.map PyData.int, cmpSem .Lt x y = some (decide (intD x < intD y)) := by
    intro x hx y hy
    obtain ⟨i, _, rfl⟩ := List.mem_map.mp hx
    obtain ⟨j, _, rfl⟩ := List.mem_map.mp hy
    rfl
  rw [key] at hq
  exact ⟨⟨_, _, .inl rfl, by simpa using hl, hc, hq⟩, ⟨_, _, .inr rfl, by simpa using hl, hc, hq⟩⟩
theorem ln_common : ∀ ds Q X, sg_common.sp ds Q X → (if sg_common.row then 1 else 0) + ds.length = sg_common.ps.length := by
  rintro ds Q X ⟨a, b, rfl, _⟩; rfl
theorem wp_common : ∀ ds Q X, sg_common.sp ds Q X → wpSs gam_common b_common (rho0 2 sg_common.row ds) (postOf Q X) := by
  rintro ds Q X ⟨a, b, rfl, hq⟩
  unfold b_common
  rw [ss_cons, s_whl]
  refine ⟨fun n ρ => ∃ c : Nat, ρ = [.val (.int c), .val (.int n)] ∧ Nat.gcd c n = Nat.gcd a b, ⟨b, a, by simp, rfl⟩, ?_⟩
  rintro n ρ ⟨c, rfl, hg⟩
  simp
  by_cases h : 0 < n
  · rw [if_pos (by omega)]
    rw [bin_mod (by omega), opt_some]
    refine ⟨c % n, Nat.mod_lt _ h, n, by simp, ?_⟩
    rw [← hg, Nat.gcd_comm c n, Nat.gcd_rec n c, Nat.gcd_comm]
  · rw [if_neg (by omega)]
    have : n = 0 := by omega
    subst this
    rw [Nat.gcd_zero_right] at hg
    rw [hg]; exact hq
theorem ln_fraction : ∀ ds Q X, sg_fraction.sp ds Q X → (if sg_fraction.row then 1 else 0) + ds.length = sg_fraction.ps.length := by
  rintro ds Q X ⟨a, b, rfl, _⟩; rfl
@[simp] theorem abs_int {a : Int} : bltSem .abs [.int a] = some (.int a.natAbs) := by
  simp [bltSem]; omega
theorem gcd_pos' {a b : Int} (h : 0 < b) : 0 < Nat.gcd a.natAbs b.natAbs := Nat.gcd_pos_of_pos_right _ (by omega)
theorem gcd_le' {a b : Int} (h : 0 < b) : Nat.gcd a.natAbs b.natAbs ≤ b.natAbs := Nat.gcd_le_right _ (by omega)
theorem wp_fraction : ∀ ds Q X, sg_fraction.sp ds Q X → wpSs gam_fraction b_fraction (rho0 3 sg_fraction.row ds) (postOf Q X) := by
  rintro ds Q X ⟨a, b, rfl, h0, hb, hq⟩
  simp [b_fraction]
  refine ⟨a.natAbs, b.natAbs, by simp; omega, ?_⟩
  have hd : divOk (Nat.gcd a.natAbs b.natAbs : Nat) := by
    have h1 := gcd_pos' (a := a) h0
    have h2 := gcd_le' (a := a) h0
    exact ⟨by omega, by omega⟩
  dsimp only
  rw [bin_div hd, opt_some, bin_div hd, opt_some]
  exact hq
theorem ln_power : ∀ ds Q X, sg_power.sp ds Q X → (if sg_power.row then 1 else 0) + ds.length = sg_power.ps.length := by
  rintro ds Q X ⟨a, b, rfl, _⟩; rfl
theorem pow_big {a : Int} {k : Nat} (h : a.natAbs ≤ 1000000) (hk : k ≤ 100) : (a ^ k).natAbs < Big := by
  rw [Int.natAbs_pow]
  have h1 : a.natAbs ^ k ≤ 1000000 ^ k := Nat.pow_le_pow_left h k
  have h2 : 1000000 ^ k ≤ 1000000 ^ 100 := Nat.pow_le_pow_right (by decide) hk
  have h3 : 1000000 ^ 100 < Big := by unfold Big; decide +kernel
  omega
theorem wp_power : ∀ ds Q X, sg_power.sp ds Q X → wpSs gam_power b_power (rho0 4 sg_power.row ds) (postOf Q X) := by
  rintro ds Q X ⟨a, k, rfl, ha, hk, hq⟩
  simp [b_power]
  rw [s_for]
  simp
  refine ⟨by omega, ?_⟩
  rw [rangeL0]
  refine forL_pre (fun pre ρ => ∃ x, ρ = [.val (.int a), .val (.int k), .val (.int (a ^ pre.length)), x]) ⟨.bad, by simp⟩ ?_ ?_
  · rintro pre i post he ρ kk ⟨x, rfl⟩ hkk
    obtain ⟨rfl, hi⟩ := range_pre he
    simp
    rw [bin_mul ⟨pow_big ha (by omega), by have := Big.of64 (a := a) (by omega); exact this⟩, opt_some]
    exact hkk _ ⟨.val (.int pre.length), by simp [Int.pow_succ]⟩
  · rintro ρ ⟨x, rfl⟩
    simpa using hq
theorem ln_is_fraction : ∀ ds Q X, sg_is_fraction.sp ds Q X → (if sg_is_fraction.row then 1 else 0) + ds.length = sg_is_fraction.ps.length := by
  rintro ds Q X ⟨a, rfl, _⟩; rfl
theorem isIntB_int {v : PyData} {a b : Int} (h : isIntB v a b = true) : ∃ i, v = .int i ∧ a ≤ i ∧ i ≤ b := by
  unfold isIntB at h
  split at h
  · simp at h; exact ⟨_, rfl, h⟩
  · cases h
theorem ints_of_all {a b : Int} : ∀ {es : List PyData}, (es.all fun e => isIntB e a b) = true → ∃ ns : List Int, es = ns.map .int ∧ ∀ n ∈ ns, a ≤ n ∧ n ≤ b
  | [], _ => ⟨[], rfl, fun n h => by cases h⟩
  | e :: r, h => by
    simp only [List.all_cons, Bool.and_eq_true] at h
    obtain ⟨i, rfl, hi⟩ := isIntB_int h.1
    obtain ⟨ns, rfl, hn⟩ := ints_of_all h.2
    exact ⟨i :: ns, rfl, fun n hm => by rcases List.mem_cons.mp hm with rfl | hm; exact hi; exact hn n hm⟩
theorem isIntsB_ints {v : PyData} {n a b : Int} (h : isIntsB v n a b = true) : ∃ ns : List Int, v = tI ns ∧ (ns.length : Int) = n ∧ ∀ m ∈ ns, a ≤ m ∧ m ≤ b := by
  unfold isIntsB at h
  split at h
  · simp only [Bool.and_eq_true, decide_eq_true_eq] at h
    obtain ⟨ns, rfl, hn⟩ := ints_of_all h.2
    exact ⟨ns, rfl, by simpa using h.1, hn⟩
  · cases h
theorem isIntsB_tI {ns : List Int} {n a b : Int} : isIntsB (tI ns) n a b = true ↔ (ns.length : Int) = n ∧ ∀ m ∈ ns, a ≤ m ∧ m ≤ b := by
  simp [isIntsB, tI, isIntB]
@[simp] theorem isTupB_tI {ns : List Int} {a b : Int} : isTupB (tI ns) a b = (decide (a ≤ (ns.length : Int)) && decide ((ns.length : Int) ≤ b)) := by simp [isTupB, tI]
@[simp] theorem lenD_tI {ns : List Int} : lenD (tI ns) = ns.length := by simp [lenD, tI]
@[simp] theorem intsD_tI {ns : List Int} : intsD (tI ns) = ns := by simp [intsD, tI]
@[simp] theorem intsD_lI {ns : List Int} : intsD (lI ns) = ns := by simp [intsD, lI]
theorem isTupB_tup {v : PyData} {a b : Int} (h : isTupB v a b = true) : ∃ es, v = .tuple es ∧ a ≤ (es.length : Int) ∧ (es.length : Int) ≤ b := by
  unfold isTupB at h
  split at h
  · simp at h; exact ⟨_, rfl, h⟩
  · cases h
theorem bin_pow {a : Int} {k : Nat} (h : a.natAbs < 2 ^ 64) (hk : k ≤ 1000000) : binSem .Pow (.int a) (.int k) = some (.int (a ^ k)) := by
  show (if _ then _ else _) = _
  rw [if_pos ⟨h, by omega, by omega⟩, Int.toNat_natCast]
@[simp] theorem pow10_12 : binSem .Pow (.int 10) (.int 12) = some (.int 1000000000000) := bin_pow (a := 10) (k := 12) (by decide) (by decide)
theorem isFracB_iff {v : PyData} : isFracB v = true ↔ ∃ a b : Int, v = fr a b ∧ -(10 ^ 12) ≤ a ∧ a ≤ 10 ^ 12 ∧ 1 ≤ b ∧ b ≤ 10 ^ 12 ∧ Nat.gcd a.natAbs b.natAbs = 1 := by
  constructor
  · intro h
    unfold isFracB at h
    split at h
    · simp at h
      exact ⟨_, _, rfl, h.1.1.1.1, h.1.1.1.2, h.1.1.2, h.1.2, h.2⟩
    · cases h
  · rintro ⟨a, b, rfl, h1, h2, h3, h4, h5⟩
    simp [isFracB, fr, tI]
    exact ⟨⟨⟨⟨h1, h2⟩, h3⟩, h4⟩, h5⟩
theorem wp_is_fraction : ∀ ds Q X, sg_is_fraction.sp ds Q X → wpSs gam_is_fraction b_is_fraction (rho0 1 sg_is_fraction.row ds) (postOf Q X) := by
  rintro ds Q X ⟨v, rfl, hq⟩
  simp [b_is_fraction]
  refine ⟨_, _, _, _, rfl, ?_⟩
  cases h : isIntsB v 2 (-1000000000000) 1000000000000 with
  | false =>
    have : isFracB v = false := by
      cases h2 : isFracB v with
      | false => rfl
      | true =>
        obtain ⟨a, b, rfl, h1, h2, h3, h4, h5⟩ := isFracB_iff.mp h2
        exact absurd ((isIntsB_tI (ns := [a, b]) (n := 2) (a := -1000000000000) (b := 1000000000000)).mpr ⟨rfl, by simp; omega⟩) (by show ¬ isIntsB (fr a b) _ _ _ = true; rw [h]; decide)
    rw [this] at hq
    simpa using hq
  | true =>
    obtain ⟨ns, rfl, hl, hn⟩ := isIntsB_ints h
    obtain ⟨a, b, rfl⟩ := len2 (by omega : ns.length = 2)
    have e0 : ixSem (tI [a, b]) (.int 0) = some (.int a) := rfl
    have e1 : ixSem (tI [a, b]) (.int 1) = some (.int b) := rfl
    simp [e0, e1] at hn ⊢
    by_cases hb : b < 1
    · rw [if_pos hb]
      have : isFracB (tI [a, b]) = false := by
        cases h2 : isFracB (tI [a, b]) with
        | false => rfl
        | true =>
          obtain ⟨a', b', e, h1, h2, h3, h4, h5⟩ := isFracB_iff.mp h2
          have : [a, b] = [a', b'] := by
            have := congrArg intsD e
            simpa [fr] using this
          simp at this
          omega
      rw [this] at hq
      exact hq
    · rw [if_neg hb]
      refine ⟨a.natAbs, b.natAbs, by simp; omega, ?_⟩
      have : isFracB (tI [a, b]) = decide (Nat.gcd a.natAbs b.natAbs = 1) := by
        simp [isFracB, tI]
        intro _
        omega
      rw [this] at hq
      have e : (((Nat.gcd a.natAbs b.natAbs : Nat) : Int) == 1) = decide (Nat.gcd a.natAbs b.natAbs = 1) := by
        rw [Bool.eq_iff_iff]; simp; omega
      simp [e]
      exact hq
theorem Sm.mul {a b : Int} (h : Sm a) (k : Sm b) : mulOk a b := by
  have e : (2 : Nat) ^ 1900 ≤ Big := Nat.pow_le_pow_right (by decide) (by decide)
  exact ⟨Nat.lt_of_lt_of_le h e, Nat.lt_of_lt_of_le k e⟩
theorem Sm.big {a b : Int} (h : Sm a) (k : Sm b) : (a * b).natAbs < Big := by
  rw [Int.natAbs_mul]
  have h1 : a.natAbs * b.natAbs ≤ 2 ^ 1900 * 2 ^ 1900 := Nat.mul_le_mul (Nat.le_of_lt h) (Nat.le_of_lt k)
  have h2 : 2 ^ 1900 * 2 ^ 1900 < Big := by
    rw [← Nat.pow_add]; exact Nat.pow_lt_pow_right (by decide) (by decide)
  omega
theorem bin_mulS {a b : Int} (h : Sm a) (k : Sm b) : binSem .Mult (.int a) (.int b) = some (.int (a * b)) := bin_mul (h.mul k)
@[simp] theorem fr0 {a b : Int} : ixSem (fr a b) (.int 0) = some (.int a) := rfl
@[simp] theorem fr1 {a b : Int} : ixSem (fr a b) (.int 1) = some (.int b) := rfl
theorem ln_plus : ∀ ds Q X, sg_plus.sp ds Q X → (if sg_plus.row then 1 else 0) + ds.length = sg_plus.ps.length := by
  rintro ds Q X ⟨_, _, _, _, rfl, _⟩; rfl
theorem ln_times : ∀ ds Q X, sg_times.sp ds Q X → (if sg_times.row then 1 else 0) + ds.length = sg_times.ps.length := by
  rintro ds Q X ⟨_, _, _, _, rfl, _⟩; rfl
theorem ln_minus : ∀ ds Q X, sg_minus.sp ds Q X → (if sg_minus.row then 1 else 0) + ds.length = sg_minus.ps.length := by
  rintro ds Q X ⟨_, _, _, _, rfl, _⟩; rfl
theorem ln_is_less : ∀ ds Q X, sg_is_less.sp ds Q X → (if sg_is_less.row then 1 else 0) + ds.length = sg_is_less.ps.length := by
  rintro ds Q X ⟨_, _, _, _, rfl, _⟩; rfl
theorem wp_plus : ∀ ds Q X, sg_plus.sp ds Q X → wpSs gam_plus b_plus (rho0 2 sg_plus.row ds) (postOf Q X) := by
  rintro ds Q X ⟨a, b, c, d, rfl, h1, h2, h3, h4, h5, h6, hq⟩
  simp [b_plus]
  rw [bin_mulS h3 h6, opt_some, bin_mulS h5 h4, opt_some, bin_add, opt_some, bin_mulS h4 h6, opt_some]
  exact ⟨_, _, rfl, Int.mul_pos h1 h2, h4.big h6, hq⟩
theorem wp_times : ∀ ds Q X, sg_times.sp ds Q X → wpSs gam_times b_times (rho0 2 sg_times.row ds) (postOf Q X) := by
  rintro ds Q X ⟨a, b, c, d, rfl, h1, h2, h3, h4, h5, h6, hq⟩
  simp [b_times]
  rw [bin_mulS h3 h5, opt_some, bin_mulS h4 h6, opt_some]
  exact ⟨_, _, rfl, Int.mul_pos h1 h2, h4.big h6, hq⟩
theorem wp_minus : ∀ ds Q X, sg_minus.sp ds Q X → wpSs gam_minus b_minus (rho0 2 sg_minus.row ds) (postOf Q X) := by
  rintro ds Q X ⟨a, b, c, d, rfl, h1, h2, h3, h4, h5, h6, hq⟩
  simp [b_minus]
  rw [bin_mulS h3 h6, opt_some, bin_mulS h5 h4, opt_some, bin_sub, opt_some, bin_mulS h4 h6, opt_some]
  exact ⟨_, _, rfl, Int.mul_pos h1 h2, h4.big h6, hq⟩
theorem wp_is_less : ∀ ds Q X, sg_is_less.sp ds Q X → wpSs gam_is_less b_is_less (rho0 2 sg_is_less.row ds) (postOf Q X) := by
  rintro ds Q X ⟨a, b, c, d, rfl, h3, h4, h5, h6, hq⟩
  simp [b_is_less]
  rw [bin_mulS h3 h6, opt_some, bin_mulS h5 h4, opt_some, cmp_lt, opt_some]
  exact hq
theorem len5 {α : Type} {l : List α} (h : l.length = 5) : ∃ a b c d e, l = [a, b, c, d, e] := by
  match l, h with
  | [a, b, c, d, e], _ => exact ⟨a, b, c, d, e, rfl⟩
theorem len6 {α : Type} {l : List α} (h : l.length = 6) : ∃ a b c d e f, l = [a, b, c, d, e, f] := by
  match l, h with
  | [a, b, c, d, e, f], _ => exact ⟨a, b, c, d, e, f, rfl⟩
theorem len7 {α : Type} {l : List α} (h : l.length = 7) : ∃ a b c d e f g, l = [a, b, c, d, e, f, g] := by
  match l, h with
  | [a, b, c, d, e, f, g], _ => exact ⟨a, b, c, d, e, f, g, rfl⟩
theorem len8 {α : Type} {l : List α} (h : l.length = 8) : ∃ a b c d e f g h, l = [a, b, c, d, e, f, g, h] := by
  match l, h with
  | [a, b, c, d, e, f, g, h], _ => exact ⟨a, b, c, d, e, f, g, h, rfl⟩
/-! ### draws -/
theorem taken_all {m : Int} {Q : PyData → Prop} {X : Str → Prop} (h0 : 0 < m) (h1 : m ≤ 10000000) (h : ∀ r : Int, 0 ≤ r → r < m → Q (.int r)) : sgTaken.sp [.int m] Q X := ⟨m, rfl, h0, by omega, h⟩
theorem pick_all {xs : List PyData} {Q : PyData → Prop} {X : Str → Prop} (h0 : 0 < xs.length) (h1 : xs.length ≤ 1000) (h : ∀ d ∈ xs, Q d) : sgPick.sp [.list xs] Q X := ⟨xs, rfl, h0, by omega, h⟩
theorem rel_of {α : Type} {c : α → PyData} {R : α → Prop} : ∀ {ys : List PyData}, (∀ y ∈ ys, ∃ a : α, y = c a ∧ R a) → ∃ as : List α, ys = as.map c ∧ ∀ a ∈ as, R a
  | [], _ => ⟨[], rfl, fun n h => by cases h⟩
  | y :: ys, h => by
    obtain ⟨n, rfl, hn⟩ := h y List.mem_cons_self
    obtain ⟨ns, rfl, hs⟩ := rel_of (ys := ys) fun z hz => h z (List.mem_cons_of_mem _ hz)
    exact ⟨n :: ns, rfl, fun k hk => by rcases List.mem_cons.mp hk with rfl | hk; exact hn; exact hs k hk⟩
theorem rel_ints {a b : Int} {ys : List PyData} (h : ∀ y ∈ ys, ∃ n : Int, y = .int n ∧ a ≤ n ∧ n ≤ b) : ∃ ns : List Int, ys = ns.map .int ∧ ∀ n ∈ ns, a ≤ n ∧ n ≤ b := rel_of h
theorem wpL_sub {f : PyData → (Option PyData → Prop) → Prop} : ∀ {xs : List PyData} {Q : List PyData → Prop}, (∀ x ∈ xs, ∀ k, k (some x) → k none → f x k) → (∀ ys, ys.Sublist xs → Q ys) → wpL f xs Q
  | [], Q, _, q => q [] (.refl _)
  | x :: xs, Q, h, q => by
    refine h x List.mem_cons_self _ ?_ ?_
    · exact wpL_sub (fun y hy => h y (List.mem_cons_of_mem _ hy)) fun ys hs => q _ (hs.cons₂ x)
    · exact wpL_sub (fun y hy => h y (List.mem_cons_of_mem _ hy)) fun ys hs => q _ (hs.cons x)
/-! ### alike -/
@[simp] theorem alike_int {a b : Int} : alike (.int a) (.int b) = (a == b) := rfl
@[simp] theorem alike_bool {a b : Bool} : alike (.bool a) (.bool b) = (a == b) := rfl
@[simp] theorem alike_none {a : PyData} : alike a .none = (match a with | .none => true | _ => false) := by cases a <;> rfl
theorem alikes_ints : ∀ {ns : List Int}, alikes (ns.map .int) (ns.map .int) = true
  | [] => rfl
  | n :: r => by
    simp only [List.map_cons, alikes, alike_int, beq_self_eq_true, Bool.true_and]
    exact alikes_ints
@[simp] theorem alike_tI {ns : List Int} : alike (tI ns) (tI ns) = true := alikes_ints
theorem okDs_ints {n : Nat} : ∀ {ns : List Int}, okDs n (ns.map .int) = true
  | [] => rfl
  | a :: r => by simp only [List.map_cons, okDs, okDs_ints, Bool.and_true]; cases n <;> rfl
theorem okD_tI {n : Nat} {ns : List Int} (h : ns.length ≤ 1000000) : okD (n + 1) (tI ns) = true := by
  simp [tI, okD, h, okDs_ints]
@[simp] theorem okD_int {n : Nat} {i : Int} : okD n (.int i) = true := by cases n <;> rfl
@[simp] theorem okD_bool {n : Nat} {i : Bool} : okD n (.bool i) = true := by cases n <;> rfl
@[simp] theorem okD_none {n : Nat} : okD n .none = true := by cases n <;> rfl
theorem alike_t {n : Nat} {f d : PyData} {Q : PyData → Prop} {X : Str → Prop} (ho : okD n d = true) (ha : alike f d = true) (h : Q (.bool true)) : (sgAlike n).sp [f, d] Q X := ⟨f, d, rfl, ho, by rw [ha]; exact h⟩
/-- what is within bounds is like itself -/
theorem alike_self_all : (∀ n d, okD n d = true → alike d d = true) := by
  have key : ∀ (k : Nat) (d : PyData), sizeOf d < k → ∀ n, okD n d = true → alike d d = true := by
    intro k
    induction k with
    | zero => intro d h; omega
    | succ k ih =>
      intro d h n ho
      cases d with
      | none => rfl
      | bool b => simp
      | int i => simp
      | str s => simp [alike]
      | list es => cases n <;> (unfold okD at ho; cases ho)
      | dict es => cases n <;> (unfold okD at ho; cases ho)
      | tuple es =>
        cases n with
        | zero => unfold okD at ho; cases ho
        | succ n =>
          unfold okD at ho
          simp only [Bool.and_eq_true] at ho
          show alikes es es = true
          have : ∀ l : List PyData, sizeOf l < k → okDs n l = true → alikes l l = true := by
            intro l
            induction l with
            | nil => intro _ _; rfl
            | cons a r ih2 =>
              intro hl hr
              unfold okDs at hr
              simp only [Bool.and_eq_true] at hr
              unfold alikes
              simp at hl
              rw [ih a (by omega) n hr.1, ih2 (by omega) hr.2]; rfl
          exact this es (by simp at h; omega) ho.2
  intro n d h
  exact key _ d (Nat.lt_succ_self _) n h
theorem alike_same {n : Nat} {d : PyData} {Q : PyData → Prop} {X : Str → Prop} (ho : okD n d = true) (h : Q (.bool true)) : (sgAlike n).sp [d, d] Q X := alike_t ho (alike_self_all n d ho) h
theorem alike_eq {n : Nat} {f d : PyData} {Q : PyData → Prop} {X : Str → Prop} (e : f = d) (ho : okD n d = true) (h : Q (.bool true)) : (sgAlike n).sp [f, d] Q X := by subst e; exact alike_same ho h
/-! ### more of tuples and lists -/
theorem rep_flat {d : PyData} : ∀ {n : Nat}, (List.replicate n [d]).flatten = List.replicate n d
  | 0 => rfl
  | n + 1 => by rw [List.replicate_succ, List.flatten_cons, rep_flat, List.replicate_succ]; rfl
theorem rep_tup {d : PyData} {n : Nat} (h1 : 1 ≤ n) (h : n ≤ 1000) : binSem .Mult (.tuple [d]) (.int (n : Int)) = some (.tuple (List.replicate n d)) := by
  show (if _ then _ else _) = _
  rw [if_pos ⟨by simp, by simp, by omega, by omega⟩, Int.toNat_natCast, rep_flat]
theorem ints_no {x : PyData} {n : Nat} {m a b : Int} (h1 : 1 ≤ n) (h : isIntB x a b = false) : isIntsB (.tuple (List.replicate n x)) m a b = false := by
  cases n with
  | zero => omega
  | succ n => rw [List.replicate_succ]; simp [isIntsB, h]
theorem ints_long {es : List PyData} {m a b : Int} (h : (es.length : Int) ≠ m) : isIntsB (.tuple es) m a b = false := by simp [isIntsB, h]
@[simp] theorem truth_lI {ns : List Int} : truth (lI ns) = some (!ns.isEmpty) := by
  cases ns <;> simp [truth, lI]
@[simp] theorem truth_tI {ns : List Int} : truth (tI ns) = some (!ns.isEmpty) := by
  cases ns <;> simp [truth, tI]
@[simp] theorem lI_nil {ns : List Int} : (lI ns).eqv (.list []) = ns.isEmpty := by
  cases ns <;> rfl
theorem tI_inj {a b : List Int} (h : tI a = tI b) : a = b := by
  have := congrArg intsD h
  simpa [intsD, tI] using this
theorem range_ints {n : Nat} : rangeL 0 1 n = ((List.range n).map fun i : Nat => (i : Int)).map .int := by rw [rangeL0]; simp
theorem eqv_ints : ∀ {a b : List Int}, PyData.eqv (tI a) (tI b) = decide (a = b) ∧ PyData.eqv (lI a) (lI b) = decide (a = b) := by
  have key : ∀ a b : List Int, PyData.eqvAll (a.map .int) (b.map .int) = decide (a = b) := by
    intro a
    induction a with
    | nil => intro b; cases b <;> simp [PyData.eqvAll]
    | cons x a ih =>
      intro b
      cases b with
      | nil => simp [PyData.eqvAll]
      | cons y b =>
        simp only [List.map_cons, PyData.eqvAll, eqv_int, ih]
        by_cases h1 : x = y <;> by_cases h2 : a = b <;> simp [h1, h2]
  intro a b
  exact ⟨key a b, key a b⟩
end Dl

set_option Elab.async false
set_option linter.all false
set_option maxRecDepth 100000
set_option maxHeartbeats 8000000
namespace Dl
open PySem PySem.Spec PyProof.Rows L2
/-! the data layer, part 32: fractions in lowest terms -/
theorem gcd_dvdP {a b : Int} : ((Nat.gcd a.natAbs b.natAbs : Nat) : Int) ∣ a := Int.ofNat_dvd_left.mpr (Nat.gcd_dvd_left _ _)
theorem gcd_dvdW {a b : Int} : ((Nat.gcd a.natAbs b.natAbs : Nat) : Int) ∣ b := Int.ofNat_dvd_left.mpr (Nat.gcd_dvd_right _ _)
theorem lowP_mul {a b : Int} : lowP a b * (Nat.gcd a.natAbs b.natAbs : Nat) = a := Int.ediv_mul_cancel gcd_dvdP
theorem lowW_mul {a b : Int} : lowW a b * (Nat.gcd a.natAbs b.natAbs : Nat) = b := Int.ediv_mul_cancel gcd_dvdW
theorem low_pos {a b : Int} (h : 0 < b) : 0 < lowW a b := by
  have h1 := lowW_mul (a := a) (b := b)
  have h2 := gcd_pos' (a := a) h
  refine Decidable.byContradiction fun z => ?_
  have : lowW a b * (Nat.gcd a.natAbs b.natAbs : Nat) ≤ 0 := Int.mul_nonpos_of_nonpos_of_nonneg (by omega) (by omega)
  omega
theorem low_cross {a b : Int} : lowP a b * b = a * lowW a b := by
  have h1 := lowP_mul (a := a) (b := b)
  have h2 := lowW_mul (a := a) (b := b)
  generalize ((Nat.gcd a.natAbs b.natAbs : Nat) : Int) = g at h1 h2
  generalize lowP a b = p at *
  generalize lowW a b = q at *
  rw [← h1, ← h2, Int.mul_comm q g, Int.mul_assoc]
theorem low_coprime {a b : Int} (h : 0 < b) : Nat.gcd (lowP a b).natAbs (lowW a b).natAbs = 1 := by
  have h1 := congrArg Int.natAbs (lowP_mul (a := a) (b := b))
  have h2 := congrArg Int.natAbs (lowW_mul (a := a) (b := b))
  have h3 := gcd_pos' (a := a) h
  rw [Int.natAbs_mul, Int.natAbs_natCast] at h1 h2
  have : Nat.gcd ((lowP a b).natAbs * Nat.gcd a.natAbs b.natAbs) ((lowW a b).natAbs * Nat.gcd a.natAbs b.natAbs) = Nat.gcd a.natAbs b.natAbs := by rw [h1, h2]
  rw [Nat.gcd_mul_right] at this
  exact Nat.eq_of_mul_eq_mul_right h3 (by omega)
/-- fractions in lowest terms are one if they have one value -/
theorem frac_eq {a b c d : Int} (hb : 0 < b) (hd : 0 < d) (h1 : Nat.gcd a.natAbs b.natAbs = 1) (h2 : Nat.gcd c.natAbs d.natAbs = 1) (h : a * d = c * b) : a = c ∧ b = d := by
  have e := congrArg Int.natAbs h
  rw [Int.natAbs_mul, Int.natAbs_mul] at e
  have d1 : b.natAbs ∣ d.natAbs := by
    have : b.natAbs ∣ a.natAbs * d.natAbs := ⟨c.natAbs, by rw [e, Nat.mul_comm]⟩
    exact Nat.Coprime.dvd_of_dvd_mul_left (Nat.Coprime.symm h1) this
  have d2 : d.natAbs ∣ b.natAbs := by
    have : d.natAbs ∣ c.natAbs * b.natAbs := ⟨a.natAbs, by rw [← e, Nat.mul_comm]⟩
    exact Nat.Coprime.dvd_of_dvd_mul_left (Nat.Coprime.symm h2) this
  have e2 : b = d := by have := Nat.dvd_antisymm d1 d2; omega
  subst e2
  exact ⟨Int.eq_of_mul_eq_mul_right (by omega) h, rfl⟩
/-- .. and a lowest form is found by its value -/
theorem low_eq {a b c d : Int} (hb : 0 < b) (hd : 0 < d) (h2 : Nat.gcd c.natAbs d.natAbs = 1) (h : a * d = c * b) : low a b = fr c d := by
  have hp := low_pos (a := a) hb
  have hc := low_cross (a := a) (b := b)
  have key : lowP a b * d = c * lowW a b := by
    apply Int.eq_of_mul_eq_mul_right (show b ≠ 0 by omega)
    rw [Int.mul_right_comm, hc, Int.mul_right_comm, h, Int.mul_right_comm]
  obtain ⟨e1, e2⟩ := frac_eq hp hd (low_coprime hb) h2 key
  unfold low
  rw [e1, e2]
theorem low_same {a b c d : Int} (hb : 0 < b) (hd : 0 < d) (h : a * d = c * b) : low a b = low c d := by
  refine low_eq hb (low_pos hd) (low_coprime hd) ?_
  have hc := low_cross (a := c) (b := d)
  apply Int.eq_of_mul_eq_mul_right (show d ≠ 0 by omega)
  rw [Int.mul_right_comm a, h, Int.mul_right_comm (lowP c d), hc, Int.mul_right_comm c, Int.mul_right_comm c]
end Dl

set_option Elab.async false
set_option linter.all false
set_option maxRecDepth 100000
set_option maxHeartbeats 8000000
/-! the data layer, part 36: cloths: rows that come again -/
namespace Dl
open PySem PySem.Spec PyProof.Rows L2
/-- what stands at a place of the cloth of a repeat -/
def col (ns : List Int) (z : Int) : Int := at0 ns (z % (ns.length : Int)).toNat 0
def Per (f : Int → Int) (p : Int) : Prop := ∀ z, f (z + p) = f z
/-- a piece of a cloth -/
def cl (f : Int → Int) (n : Nat) (s : Int) : List Int := (List.range n).map fun i : Nat => f (s + (i : Int))
theorem cl_len {f : Int → Int} {n : Nat} {s : Int} : (cl f n s).length = n := by simp [cl]
theorem cl_get {f : Int → Int} {n i : Nat} {s : Int} (h : i < n) : (cl f n s)[i]? = some (f (s + i)) := by
  unfold cl; rw [List.getElem?_map, List.getElem?_range h]; rfl
theorem cl_at {f : Int → Int} {n i : Nat} {s d : Int} (h : i < n) : at0 (cl f n s) i d = f (s + i) := by
  unfold at0; rw [cl_get h]; rfl
theorem cl_eq {f g : Int → Int} {n m : Nat} {s t : Int} : cl f n s = cl g m t ↔ n = m ∧ ∀ i : Nat, i < n → f (s + i) = g (t + i) := by
  constructor
  · intro h
    have hl : n = m := by have := congrArg List.length h; rwa [cl_len, cl_len] at this
    refine ⟨hl, fun i hi => ?_⟩
    have : (cl f n s)[i]? = (cl g m t)[i]? := by rw [h]
    rw [cl_get hi, cl_get (by omega)] at this
    exact Option.some.inj this
  · rintro ⟨rfl, h⟩
    unfold cl
    exact List.map_congr_left fun i hi => h i (List.mem_range.mp hi)
theorem cl_take {f : Int → Int} {n k : Nat} {s : Int} (h : k ≤ n) : (cl f n s).take k = cl f k s := by
  apply List.ext_getElem?
  intro i
  by_cases hi : i < k
  · rw [List.getElem?_take_of_lt hi, cl_get (by omega), cl_get hi]
  · rw [List.getElem?_eq_none (by rw [List.length_take, cl_len]; omega), List.getElem?_eq_none (by rw [cl_len]; omega)]
theorem cl_drop {f : Int → Int} {n k : Nat} {s : Int} : (cl f n s).drop k = cl f (n - k) (s + k) := by
  apply List.ext_getElem?
  intro i
  rw [List.getElem?_drop]
  by_cases hi : i < n - k
  · rw [cl_get (by omega), cl_get hi]
    congr 2
    omega
  · rw [List.getElem?_eq_none (by rw [cl_len]; omega), List.getElem?_eq_none (by rw [cl_len]; omega)]
theorem cl_app {f : Int → Int} {a b : Nat} {s : Int} : cl f a s ++ cl f b (s + a) = cl f (a + b) s := by
  apply List.ext_getElem?
  intro i
  rw [List.getElem?_append, cl_len]
  by_cases hi : i < a
  · rw [if_pos hi, cl_get hi, cl_get (by omega)]
  · rw [if_neg hi]
    by_cases hb : i - a < b
    · rw [cl_get hb, cl_get (by omega)]
      congr 2
      omega
    · rw [List.getElem?_eq_none (by rw [cl_len]; omega), List.getElem?_eq_none (by rw [cl_len]; omega)]
theorem cl_self {ns : List Int} : cl (col ns) ns.length 0 = ns := by
  apply List.ext_getElem?
  intro i
  by_cases hi : i < ns.length
  · rw [cl_get hi]
    unfold col
    have e : ((0 + (i : Int)) % (ns.length : Int)).toNat = i := by rw [Int.zero_add, Int.emod_eq_of_lt (by omega) (by omega)]; omega
    rw [e, at0_of hi, List.getElem?_eq_getElem hi]
  · rw [List.getElem?_eq_none (by rw [cl_len]; omega), List.getElem?_eq_none (by omega)]
theorem col_per {ns : List Int} : Per (col ns) ns.length := by
  intro z
  unfold col
  rw [Int.add_emod_right]
theorem Per.mulN {f : Int → Int} {p : Int} (h : Per f p) : ∀ (k : Nat) z, f (z + p * k) = f z
  | 0, z => by simp
  | k + 1, z => by
    have e : z + p * ((k + 1 : Nat) : Int) = (z + p * k) + p := by
      rw [show ((k + 1 : Nat) : Int) = (k : Int) + 1 by omega, Int.mul_add]; omega
    rw [e, h, h.mulN k z]
theorem Per.mul {f : Int → Int} {p : Int} (h : Per f p) (k z : Int) : f (z + p * k) = f z := by
  rcases Int.le_total 0 k with hk | hk
  · have := h.mulN k.toNat z
    rwa [Int.toNat_of_nonneg hk] at this
  · have := h.mulN (-k).toNat (z + p * k)
    rw [Int.toNat_of_nonneg (by omega)] at this
    rw [← this]
    congr 1
    rw [Int.mul_neg]
    omega
theorem Per.mod {f : Int → Int} {p : Int} (h : Per f p) (z : Int) : f (z % p) = f z := by
  have := h.mul (z / p) (z % p)
  rw [← this]
  congr 1
  have := Int.emod_add_mul_ediv z p
  omega
theorem Per.add {f : Int → Int} {p q : Int} (h : Per f p) (k : Per f q) : Per f (p + q) := fun z => by rw [← Int.add_assoc, k, h]
/-- equal on a period's length, equal everywhere -/
theorem per_eq {f g : Int → Int} {p : Int} (hp : 0 < p) (hf : Per f p) (hg : Per g p) (h : ∀ i : Nat, (i : Int) < p → f i = g i) (z : Int) : f z = g z := by
  rw [← hf.mod z, ← hg.mod z]
  have h1 := Int.emod_nonneg z (show p ≠ 0 by omega)
  have h2 := Int.emod_lt_of_pos z hp
  have := h (z % p).toNat (by omega)
  rwa [show (((z % p).toNat : Nat) : Int) = z % p by omega] at this
/-- a period from what is so on a period's length -/
theorem per_of {f : Int → Int} {p m : Int} (hp : 0 < p) (hf : Per f p) (h : ∀ i : Nat, (i : Int) < p → f (m + i) = f i) : Per f m := by
  intro z
  have := per_eq (f := fun z => f (m + z)) (g := f) hp (fun z => by show f (m + (z + p)) = f (m + z); rw [← Int.add_assoc]; exact hf _) hf h z
  rw [Int.add_comm]; exact this
/-- two rows that come again are one if they are so on both periods' length -/
theorem two_per {f g : Int → Int} {p q : Nat} (hp : 0 < p) (hq : 0 < q) (hf : Per f p) (hg : Per g q) (h : ∀ i : Nat, i < p + q → f i = g i) : ∀ z, f z = g z := by
  have hfq : Per f q := by
    refine per_of (p := p) (by omega) hf fun i hi => ?_
    have e1 := h (q + i) (by omega)
    have e2 := h i (by omega)
    rw [show (((q + i : Nat)) : Int) = (q : Int) + i by omega] at e1
    rw [e1, e2, Int.add_comm]
    exact hg _
  exact per_eq (by omega) hfq hg fun i hi => h i (by omega)
/-- whether a number is a period of the cloth -/
def isPerB (ns : List Int) (m : Nat) : Bool := (List.range ns.length).all fun i => decide (col ns ((m : Int) + i) = col ns i)
theorem isPerB_iff {ns : List Int} {m : Nat} (h : 0 < ns.length) : isPerB ns m = true ↔ Per (col ns) m := by
  unfold isPerB
  rw [List.all_eq_true]
  constructor
  · intro k
    exact per_of (p := ns.length) (by omega) col_per fun i hi => by simpa using k i (List.mem_range.mpr (by omega))
  · intro k i _
    rw [decide_eq_true_eq, Int.add_comm]
    exact k _
/-- the least period -/
def perN (ns : List Int) : Nat := ((List.range ns.length).find? fun i => isPerB ns (i + 1)).getD 0 + 1
theorem find_first {p : Nat → Bool} {n i : Nat} (h : i < n) (hi : p i = true) (hb : ∀ j, j < i → p j = false) : (List.range n).find? p = some i := by
  rw [List.find?_eq_some_iff_getElem]
  refine ⟨hi, i, by simpa using h, by simp, fun j hj => ?_⟩
  simp [hb j hj]
theorem least_of {P : Nat → Prop} [DecidablePred P] : ∀ n, P n → ∃ m, m ≤ n ∧ P m ∧ ∀ j, j < m → ¬ P j
  | 0, h => ⟨0, Nat.le_refl _, h, fun j hj => by omega⟩
  | n + 1, h => by
    by_cases hz : ∃ m, m ≤ n ∧ P m
    · obtain ⟨m, hm, pm⟩ := hz
      obtain ⟨k, h1, h2, h3⟩ := least_of m pm
      exact ⟨k, by omega, h2, h3⟩
    · exact ⟨n + 1, Nat.le_refl _, h, fun j hj pj => hz ⟨j, by omega, pj⟩⟩
theorem perN_spec {ns : List Int} (h : 0 < ns.length) : 1 ≤ perN ns ∧ perN ns ≤ ns.length ∧ Per (col ns) (perN ns) ∧ ∀ q : Nat, 1 ≤ q → Per (col ns) q → perN ns ≤ q := by
  obtain ⟨i, h1, h2, h3⟩ := least_of (P := fun i => isPerB ns (i + 1) = true) (ns.length - 1) ((isPerB_iff h).mpr (by rw [show ns.length - 1 + 1 = ns.length by omega]; exact col_per))
  have e : perN ns = i + 1 := by
    unfold perN
    rw [find_first (p := fun i => isPerB ns (i + 1)) (i := i) (by omega) h2 fun j hj => by simpa using h3 j hj]; rfl
  rw [e]
  refine ⟨by omega, by omega, (isPerB_iff h).mp h2, fun q hq pq => ?_⟩
  refine Decidable.byContradiction fun z => h3 (q - 1) (by omega) ?_
  rw [isPerB_iff h, show q - 1 + 1 = q by omega]
  exact pq
/-- the least period divides every other one -/
theorem perN_dvd {ns : List Int} (h : 0 < ns.length) {q : Nat} (hq : Per (col ns) q) : perN ns ∣ q := by
  obtain ⟨h1, h2, h3, h4⟩ := perN_spec h
  have hr : Per (col ns) ((q % perN ns : Nat) : Int) := by
    intro z
    have e := h3.mul ((q / perN ns : Nat) : Int) (z + ((q % perN ns : Nat) : Int))
    rw [← e]
    have e2 := Nat.mod_add_div q (perN ns)
    rw [show z + ((q % perN ns : Nat) : Int) + (perN ns : Int) * ((q / perN ns : Nat) : Int) = z + q by
      have : ((q % perN ns + perN ns * (q / perN ns) : Nat) : Int) = (q : Int) := by rw [e2]
      rw [Int.natCast_add, Int.natCast_mul] at this
      omega]
    exact hq z
  have lt := Nat.mod_lt q (show 0 < perN ns by omega)
  by_cases hz : q % perN ns = 0
  · exact Nat.dvd_of_mod_eq_zero hz
  · have := h4 _ (by omega) hr
    omega
/-- the least repeat -/
def rootL (ns : List Int) : List Int := ns.take (perN ns)
theorem root_cl {ns : List Int} (h : 0 < ns.length) : rootL ns = cl (col ns) (perN ns) 0 := by
  unfold rootL
  have e := cl_take (f := col ns) (s := 0) (perN_spec h).2.1
  rw [cl_self] at e
  exact e
theorem root_len {ns : List Int} (h : 0 < ns.length) : (rootL ns).length = perN ns := by rw [root_cl h, cl_len]
/-- a piece of a period's length makes the same cloth -/
theorem col_cl {f : Int → Int} {p : Nat} (hp : 0 < p) (h : Per f p) (z : Int) : col (cl f p 0) z = f z := by
  unfold col
  rw [cl_len]
  have h1 := Int.emod_nonneg z (show (p : Int) ≠ 0 by omega)
  have h2 := Int.emod_lt_of_pos z (show (0 : Int) < p by omega)
  rw [cl_at (by omega), show (0 : Int) + (((z % (p : Int)).toNat : Nat) : Int) = z % p by omega]
  exact h.mod z
theorem col_root {ns : List Int} (h : 0 < ns.length) (z : Int) : col (rootL ns) z = col ns z := by
  rw [root_cl h]
  exact col_cl (perN_spec h).1 (perN_spec h).2.2.1 z
/-- a row taken again and again -/
theorem rep_cl {f : Int → Int} {p : Nat} (h : Per f p) : ∀ k : Nat, (List.replicate k (cl f p 0)).flatten = cl f (k * p) 0
  | 0 => by simp [cl]
  | k + 1 => by
    rw [List.replicate_succ, List.flatten_cons, rep_cl h k]
    have e : cl f (k * p) 0 = cl f (k * p) (0 + (p : Int)) := cl_eq.mpr ⟨rfl, fun i _ => by
      rw [show 0 + (p : Int) + (i : Int) = (0 + (i : Int)) + p by omega]
      exact (h _).symm⟩
    rw [e, cl_app]
    congr 1
    rw [Nat.succ_mul, Nat.add_comm]
/-- the first places, taken so often, make the row exactly if their number is a period -/
theorem rep_iff {ns : List Int} {m k : Nat} (hm : 0 < m) (hk : m * k = ns.length) (h : 0 < ns.length) : (List.replicate k (ns.take m)).flatten = ns ↔ Per (col ns) m := by
  have hle : m ≤ ns.length := by
    rw [← hk]; exact Nat.le_mul_of_pos_right _ (by
      rcases Nat.eq_zero_or_pos k with z | z
      · subst z; omega
      · exact z)
  have e0 : ns.take m = cl (col ns) m 0 := by
    have e := cl_take (f := col ns) (s := 0) hle
    rw [cl_self] at e; exact e
  have e1 : ns.take m = cl (col (ns.take m)) m 0 := by
    have e := cl_self (ns := ns.take m)
    rw [List.length_take, Nat.min_eq_left hle] at e
    exact e.symm
  have hp : Per (col (ns.take m)) m := by
    have := col_per (ns := ns.take m)
    rwa [List.length_take, Nat.min_eq_left hle] at this
  rw [e1, rep_cl hp, Nat.mul_comm k m, hk]
  constructor
  · intro e
    have e2 : cl (col (ns.take m)) ns.length 0 = cl (col ns) ns.length 0 := by rw [cl_self]; exact e
    have h2 := (cl_eq.mp e2).2
    have hd : (m : Int) ∣ (ns.length : Int) := ⟨k, by rw [← hk, Int.natCast_mul]⟩
    have hq : Per (col (ns.take m)) ns.length := by
      intro z
      obtain ⟨c, hc⟩ := hd
      rw [hc]
      exact hp.mul c z
    have all := per_eq (p := (ns.length : Int)) (by omega) hq col_per fun i hi => by
      have := h2 i (by omega)
      rwa [Int.zero_add] at this
    intro z
    rw [← all, ← all]
    exact hp z
  · intro hf
    have e2 : cl (col (ns.take m)) ns.length 0 = cl (col ns) ns.length 0 := cl_eq.mpr ⟨rfl, fun i _ => by
      rw [e0]
      exact col_cl hm hf _⟩
    rw [e2, cl_self]
/-- turned by some threads -/
theorem turn_cl {f : Int → Int} {p b : Nat} (h : Per f p) (hb : b ≤ p) : (cl f p 0).drop b ++ (cl f p 0).take b = cl f p b := by
  rw [cl_drop, cl_take hb]
  have e : cl f b 0 = cl f b (0 + (b : Int) + ((p - b : Nat) : Int)) := cl_eq.mpr ⟨rfl, fun i _ => by
    rw [show 0 + (b : Int) + ((p - b : Nat) : Int) + (i : Int) = (0 + (i : Int)) + p by omega]
    exact (h _).symm⟩
  rw [e, cl_app]
  rw [show p - b + b = p by omega, show (0 : Int) + (b : Int) = b by omega]
theorem perN_congr {a b : List Int} (ha : 0 < a.length) (hb : 0 < b.length) {s : Int} (h : ∀ z, col a (s + z) = col b z) : perN a = perN b := by
  obtain ⟨a1, a2, a3, a4⟩ := perN_spec ha
  obtain ⟨b1, b2, b3, b4⟩ := perN_spec hb
  have e1 : Per (col b) (perN a) := fun z => by rw [← h, ← h, ← Int.add_assoc]; exact a3 _
  have e2 : Per (col a) (perN b) := fun z => by
    have := b3 (z - s)
    rw [← h, ← h] at this
    rw [show s + (z - s + (perN b : Int)) = z + perN b by omega, show s + (z - s) = z by omega] at this
    exact this
  have := a4 _ b1 e2
  have := b4 _ a1 e1
  omega
end Dl

set_option Elab.async false
set_option linter.all false
set_option maxRecDepth 100000
set_option maxHeartbeats 8000000
/-! the data layer, part 37: more of tuples and lists of ints; loops that look for something -/
namespace Dl
open PySem PySem.Spec PyProof.Rows L2
theorem depth_tI {ns : List Int} : (tI ns).depth ≤ 60 := by
  show PyData.depthAll (ns.map .int) + 1 ≤ 60
  rw [depth_ints]; decide
theorem depth_lI' {ns : List Int} : (lI ns).depth ≤ 60 := by
  show PyData.depthAll (ns.map .int) + 1 ≤ 60
  rw [depth_ints]; decide
@[simp] theorem cmp_eq_tI {a b : List Int} : cmpSem .Eq (tI a) (tI b) = some (decide (a = b)) := by
  show (if _ then _ else _) = _
  rw [if_pos (dep_min depth_tI), eqv_ints.1]
@[simp] theorem cmp_ne_tI {a b : List Int} : cmpSem .NotEq (tI a) (tI b) = some (!decide (a = b)) := by
  show (if _ then _ else _) = _
  rw [if_pos (dep_min depth_tI), eqv_ints.1]
@[simp] theorem cmp_eq_lI {a b : List Int} : cmpSem .Eq (lI a) (lI b) = some (decide (a = b)) := by
  show (if _ then _ else _) = _
  rw [if_pos (dep_min depth_lI'), eqv_ints.2]
@[simp] theorem cmp_ne_lI {a b : List Int} : cmpSem .NotEq (lI a) (lI b) = some (!decide (a = b)) := by
  show (if _ then _ else _) = _
  rw [if_pos (dep_min depth_lI'), eqv_ints.2]
theorem cmp_eq_ii {a b : Int} : cmpSem .Eq (.int a) (.int b) = some (decide (a = b)) := by
  rw [cmp_eq_int]; rfl
theorem cmp_ne_ii {a b : Int} : cmpSem .NotEq (.int a) (.int b) = some (!decide (a = b)) := by
  rw [cmp_ne_int]; rfl
theorem cutD_to {xs : List PyData} {k : Nat} : cutD xs none (some (k : Int)) = xs.take k := by
  unfold cutD
  rw [HT.sIx_none, HT.sIx_nat, List.drop_zero, Nat.sub_zero]
  by_cases h : k ≤ xs.length
  · rw [Nat.min_eq_left h]
  · rw [Nat.min_eq_right (by omega), List.take_of_length_le (Nat.le_refl _), List.take_of_length_le (by omega)]
theorem cutD_from {xs : List PyData} {k : Nat} : cutD xs (some (k : Int)) none = xs.drop k := by
  unfold cutD
  rw [HT.sIx_none, HT.sIx_nat]
  by_cases h : k ≤ xs.length
  · rw [Nat.min_eq_left h, List.take_of_length_le (by rw [List.length_drop]; exact Nat.le_refl _)]
  · rw [Nat.min_eq_right (by omega), List.drop_eq_nil_of_le (Nat.le_refl _), List.drop_eq_nil_of_le (by omega)]
    simp
theorem cutD_mid {xs : List PyData} {i j : Nat} : cutD xs (some (i : Int)) (some (j : Int)) = (xs.drop i).take (j - i) := by
  unfold cutD
  rw [HT.sIx_nat, HT.sIx_nat]
  by_cases h : i ≤ xs.length
  · rw [Nat.min_eq_left h]
    by_cases h2 : j ≤ xs.length
    · rw [Nat.min_eq_left h2]
    · rw [Nat.min_eq_right (by omega), List.take_of_length_le (by rw [List.length_drop]; exact Nat.le_refl _), List.take_of_length_le (by rw [List.length_drop]; omega)]
  · rw [show min i xs.length = xs.length from Nat.min_eq_right (by omega), List.drop_length, List.drop_eq_nil_of_le (show xs.length ≤ i by omega)]
    simp
theorem slT_to {ns : List Int} {k : Nat} : slSem none (some (k : Int)) (tI ns) = some (tI (ns.take k)) := by
  show some (PyData.tuple (cutD _ _ _)) = _
  rw [cutD_to, ← List.map_take]; rfl
theorem slT_from {ns : List Int} {k : Nat} : slSem (some (k : Int)) none (tI ns) = some (tI (ns.drop k)) := by
  show some (PyData.tuple (cutD _ _ _)) = _
  rw [cutD_from, ← List.map_drop]; rfl
theorem slT_mid {ns : List Int} {i j : Nat} : slSem (some (i : Int)) (some (j : Int)) (tI ns) = some (tI ((ns.drop i).take (j - i))) := by
  show some (PyData.tuple (cutD _ _ _)) = _
  rw [cutD_mid, ← List.map_drop, ← List.map_take]; rfl
theorem slL_to {ns : List Int} {k : Nat} : slSem none (some (k : Int)) (lI ns) = some (lI (ns.take k)) := by
  show some (PyData.list (cutD _ _ _)) = _
  rw [cutD_to, ← List.map_take]; rfl
theorem slL_from {ns : List Int} {k : Nat} : slSem (some (k : Int)) none (lI ns) = some (lI (ns.drop k)) := by
  show some (PyData.list (cutD _ _ _)) = _
  rw [cutD_from, ← List.map_drop]; rfl
@[simp] theorem rev_tI {ns : List Int} : spSem .rev (tI ns) = some (tI ns.reverse) := by
  show some (PyData.tuple _) = _
  rw [← List.map_reverse]; rfl
@[simp] theorem rev_lI {ns : List Int} : spSem .rev (lI ns) = some (lI ns.reverse) := by
  show some (PyData.list _) = _
  rw [← List.map_reverse]; rfl
theorem cat_tI {a b : List Int} (h : a.length + b.length ≤ 16777216) : binSem .Add (tI a) (tI b) = some (tI (a ++ b)) := by
  show (if _ then _ else _) = _
  rw [if_pos (by simpa using h), ← List.map_append]; rfl
theorem cat_lI {a b : List Int} (h : a.length + b.length ≤ 16777216) : binSem .Add (lI a) (lI b) = some (lI (a ++ b)) := by
  show (if _ then _ else _) = _
  rw [if_pos (by simpa using h), ← List.map_append]; rfl
theorem rep_tI {a : List Int} {k : Nat} (h0 : 0 < a.length) (h1 : a.length ≤ 1000) (h2 : 1 ≤ k) (h3 : k ≤ 1000) : binSem .Mult (tI a) (.int (k : Int)) = some (tI (List.replicate k a).flatten) := by
  show (if _ then _ else _) = _
  rw [if_pos ⟨by cases a <;> simp at h0 ⊢, by simpa using h1, by omega, by omega⟩, Int.toNat_natCast]
  unfold tI
  rw [List.map_flatten, List.map_replicate]
theorem ix_tI_mod {ns : List Int} {z : Int} (h : 0 < ns.length) : ixSem (tI ns) (.int (z % (ns.length : Int))) = some (.int (col ns z)) := by
  have h1 := Int.emod_nonneg z (show (ns.length : Int) ≠ 0 by omega)
  have h2 := Int.emod_lt_of_pos z (show (0 : Int) < ns.length by omega)
  rw [show z % (ns.length : Int) = (((z % (ns.length : Int)).toNat : Nat) : Int) by omega, ix_tI (d := 0) (by omega)]
  rfl
@[simp] theorem isNone_tI' {ns : List Int} : isNone (tI ns) = false := rfl
@[simp] theorem isNone_lI {ns : List Int} : isNone (lI ns) = false := rfl
@[simp] theorem int_int {i : Int} : bltSem .int [.int i] = some (.int i) := rfl
@[simp] theorem tuple_tI {ns : List Int} : bltSem .tuple [tI ns] = some (tI ns) := rfl
@[simp] theorem list_tI {ns : List Int} : bltSem .list [tI ns] = some (lI ns) := rfl
@[simp] theorem list_lI {ns : List Int} : bltSem .list [lI ns] = some (lI ns) := rfl
theorem tuple_map {α : Type} {g : α → Int} {xs : List α} : PyData.tuple (xs.map fun x => PyData.int (g x)) = tI (xs.map g) := by unfold tI; rw [List.map_map]; rfl
theorem list_map {α : Type} {g : α → Int} {xs : List α} : PyData.list (xs.map fun x => PyData.int (g x)) = lI (xs.map g) := by unfold lI; rw [List.map_map]; rfl
/-- a for that looks for the first thing that is so -/
theorem forL_find {α : Type} {c : α → PyData} {f : PyData → Env1 → (Env1 → Prop) → Prop} {xs : List α} {ρ0 : Env1} {Q : Env1 → Prop} (I : Env1 → Prop) (p : α → Bool) (h0 : I ρ0)
    (hit : ∀ a, a ∈ xs → p a = true → xs.find? p = some a → ∀ ρ k, I ρ → f (c a) ρ k) (miss : ∀ a, a ∈ xs → p a = false → ∀ ρ k, I ρ → (∀ ρ', I ρ' → k ρ') → f (c a) ρ k)
    (hd : xs.find? p = none → ∀ ρ, I ρ → Q ρ) : forL f (xs.map c) ρ0 Q := by
  refine forL_pre (fun pre ρ => I ρ ∧ ∀ b ∈ pre, p b = false) ⟨h0, fun b hb => by cases hb⟩ ?_ ?_
  · rintro pre a post he ρ k ⟨hi, hp⟩ hk
    have ha : a ∈ xs := by rw [he]; simp
    cases hpa : p a with
    | true =>
      refine hit a ha hpa ?_ ρ k hi
      rw [he, List.find?_append, List.find?_eq_none.mpr (fun b hb => by simp [hp b hb])]
      simp [hpa]
    | false =>
      refine miss a ha hpa ρ k hi fun ρ' h' => hk ρ' ⟨h', fun b hb => ?_⟩
      rcases List.mem_append.mp hb with hb | hb
      · exact hp b hb
      · rw [List.mem_singleton.mp hb]; exact hpa
  · rintro ρ ⟨hi, hp⟩
    exact hd (List.find?_eq_none.mpr fun b hb => by simp [hp b hb]) ρ hi
/-- the least of a rising row is its first -/
def minL : List Int → Option Int
  | [] => none
  | n :: r => some (minI n r)
theorem minI_head {n : Int} {r : List Int} (h : (n :: r).Pairwise (· < ·)) : minI n r = n := by
  rw [minI_eq]
  obtain ⟨h1, h2, h3⟩ := foldl_min_le (n := n) (r := r)
  rcases h3 with h3 | h3
  · exact h3
  · have := (List.pairwise_cons.mp h).1 _ h3
    omega
/-- the first of the numbers below n that is so -/
theorem filter_head {p : Nat → Bool} {n : Nat} : ((List.range n).filter p).head? = (List.range n).find? p := by rw [List.head?_filter]
theorem filter_pair {p : Nat → Bool} {n : Nat} : ((List.range n).filter p).Pairwise (· < ·) := List.pairwise_lt_range.filter _
end Dl

set_option Elab.async false
set_option linter.all false
set_option maxRecDepth 100000
set_option maxHeartbeats 8000000
/-! the data layer, part 41: a def that refuses by itself: if c: raise BadArgument(constant) -/
namespace Dl
open PySem PySem.Spec PyProof.Rows L2
section
variable {P : Program} {w : World} {K : PySem.W.Frag} {mg : Str → Option Value} {base : Heap} {W : Wd} {Γ : Gam} {k : Nat} {C fI : Addr} {fdI : FuncData}
/-- refused by the name n just if c is so -/
def sgRefuse (Γ : Gam) (N : List Str) (c : E) (n : Str) : Sig where
  ps := N
  row := false
  kws := []
  sp := fun ds Q X => ds.length = N.length ∧ wpT Γ c (rho0 N.length false ds) (fun b => if b = true then X n else Q .none) (fun _ => False)
theorem ok_refuse {st : Stmt} {f : Addr} {fd : FuncData} {m j : Nat} {p3 p5 p6 p7 : Pos} {nm : Str} {N : List Str} {c : E} {n : Str} {cx : Expr} {jn : Nat} {p4 : Pos} (hW : mg = W.mg) (hK : K = W.K) (G : Glb P w K mg base W Γ k) (F : Fun K nm nm st f fd) (S : FnScope N N (defScope st)) (T : ErrTxt K mg C fI)
    (FI : FnOk P w K mg base (L2.CX P w) j fI fdI ["self", "name"] (spInit C)) (bI : Binds K fdI ["self", "name"] []) (hg : (defScope st).names.lookup ("BadArgument" : Str) = some .globalImplicit)
    (hb : defBody st = [.If cx [.Raise (some (.Call (.Name "BadArgument" p3) [.Constant (.str n) jn p4] [] p5)) none p6] [] p7]) (hc : chkT N (defScope st) false c cx = true) (hn : chkE N (defScope st) false (.cst (.str n)) (.Constant (.str n) jn p4) = true) (hsn : PyData.strOk n = true) (hm : k ≤ m) (hj : j + 1 ≤ m) :
    FnOk P w K mg base (L2.CX P w) (m + 1) f fd N (spV W (sgRefuse Γ N c n)) := by
  refine F.okX S (fun vs H Q E h => ?_) fun cdv A outer s H vs Q E hr h => ⟨tIfS (tT W Γ E c) (fun _ σ H => tMkO C (spInit C) [] (tCons (tE W Γ E (.cst (.str n))) tNil) σ H fun cls d H' => E cls d H') tNext, ?_, ?_⟩
  · obtain ⟨F0, ds, ws, Qd, Xd, f1, g1, rfl, d1, ⟨hl, _⟩, _⟩ := h
    have := d1.length
    show vs.length = N.length
    omega
  · rw [hb]
    have C1 : CtxS W Γ k E N (defScope st) false (cxOf (L2.CX P w) P w K mg base N nm (defScope st) f cdv A outer s H E) := ctx_of G S hm hr
    have ht := sndT (W := W) (Γ := Γ) (k := k) c C1.ok cx hc
    have hn' := (snd (W := W) (Γ := Γ) (k := k) (.cst (.str n)) C1.ok (.Constant (.str n) jn p4) hn).e rfl
    have hr2 : Room (j + 1) (cxOf (L2.CX P w) P w K mg base N nm (defScope st) f cdv A outer s H E).A := hr.mono hj
    exact pss_one (ps_if ht (pss_one (ps_raise rfl (takes_of (E := E) rfl rfl rfl rfl) (pmk_oex (X := cxOf (L2.CX P w) P w K mg base N nm (defScope st) f cdv A outer s H E) (dvs := []) (ds := []) T.oex T.iC T.tI FI hr2 bI .nil passNo hg T.gC (pa_cons hn' pa_nil rfl)))) pss_nil)
  · obtain ⟨F0, ds, ws, Qd, Xd, f1, g1, rfl, d1, ⟨hl, hw⟩, h4, h5⟩ := h
    have s0 : St W F0 (rho0 N.length false ds) (L2.start N vs) H := St.start (N := N) (row := false) f1 g1 d1
    refine ⟨F0, rho0 N.length false ds, (fun b => if b = true then Xd n else Qd .none), fun _ => False, s0, hw, fun t F' H' e ht => ?_, fun _ _ _ _ _ _ _ z => z.elim⟩
    cases t with
    | false =>
      rw [if_neg Bool.false_ne_true] at ht ⊢
      exact h4 .none .non F' H' e .non ht
    | true =>
      rw [if_pos rfl] at ht ⊢
      refine ⟨F', rho0 N.length false ds, fun d' => d' = .str n, fun _ => False, s0.ext e, rfl, fun d' v F2 H2 e2 r hd' => ?_, fun _ _ _ _ _ _ _ z => z.elim⟩
      subst hd'
      cases r
      refine ⟨by simp, fun a n1 => ⟨a, _, rfl, upd_same, fun dx n2 ne => ⟨rfl, dx, _, upd_same, by rw [upd_ne ne, upd_same], ?_, ?_⟩⟩⟩
      · rwa [upd_ne ne] at n2
      · rw [upd_ne ne] at n2
        rw [del_put' n1 ne]
        refine h5 n _ _ F2 _ ((e.trans e2).trans (Ext.new e2.ok e2.gd n2)) ⟨C, dx, ?_, rfl, rfl, upd_same, hsn⟩ ht
        rw [← hW]; exact T.gC
end
end Dl

set_option Elab.async false
set_option linter.all false
set_option maxRecDepth 100000
set_option maxHeartbeats 8000000
/-! the data layer, part 42: rows of things of a kind, compared; walks over rows of data -/
namespace Dl
open PySem PySem.Spec PyProof.Rows L2
theorem con_str {mg : Str → Option Value} {W : Wd} {x y : Str} {t : Tok} (h : mg x = some (.str y t)) (hk : PyData.strOk y = true) : ConAt mg W x (.str y) := ⟨_, .str y, h, ⟨t, rfl⟩, fun _ => .str y hk⟩
theorem eqvAll_map {α : Type} [DecidableEq α] {c : α → PyData} (hc : ∀ a b, PyData.eqv (c a) (c b) = decide (a = b)) : ∀ {xs ys : List α}, PyData.eqvAll (xs.map c) (ys.map c) = decide (xs = ys)
  | [], [] => by simp [PyData.eqvAll]
  | [], _ :: _ => by simp [PyData.eqvAll]
  | _ :: _, [] => by simp [PyData.eqvAll]
  | x :: r, y :: s => by
    simp only [List.map_cons, PyData.eqvAll, hc, eqvAll_map hc (xs := r) (ys := s), List.cons.injEq]
    by_cases h1 : x = y <;> by_cases h2 : r = s <;> simp [h1, h2]
theorem eqv_lmap {α : Type} [DecidableEq α] {c : α → PyData} (hc : ∀ a b, PyData.eqv (c a) (c b) = decide (a = b)) {xs ys : List α} : PyData.eqv (.list (xs.map c)) (.list (ys.map c)) = decide (xs = ys) := eqvAll_map hc
theorem eqv_tmap {α : Type} [DecidableEq α] {c : α → PyData} (hc : ∀ a b, PyData.eqv (c a) (c b) = decide (a = b)) {xs ys : List α} : PyData.eqv (.tuple (xs.map c)) (.tuple (ys.map c)) = decide (xs = ys) := eqvAll_map hc
theorem depthAll_map {α : Type} {c : α → PyData} {k : Nat} (h : ∀ a, (c a).depth ≤ k) : ∀ {xs : List α}, PyData.depthAll (xs.map c) ≤ k
  | [] => Nat.zero_le _
  | x :: r => by
    simp only [List.map_cons, PyData.depthAll]
    exact Nat.max_le.mpr ⟨h x, depthAll_map h⟩
theorem cmp_eq_lmap {α : Type} [DecidableEq α] {c : α → PyData} {k : Nat} (hc : ∀ a b, PyData.eqv (c a) (c b) = decide (a = b)) (hd : ∀ a, (c a).depth ≤ k) (hk : k < 60) {xs ys : List α} : cmpSem .Eq (.list (xs.map c)) (.list (ys.map c)) = some (decide (xs = ys)) := by
  show (if _ then _ else _) = _
  have hd' : (PyData.list (ys.map c)).depth ≤ 60 := Nat.le_trans (Nat.succ_le_succ (depthAll_map hd)) (by omega)
  rw [if_pos (dep_min hd'), eqv_lmap hc]
theorem cmp_eq_tmap {α : Type} [DecidableEq α] {c : α → PyData} {k : Nat} (hc : ∀ a b, PyData.eqv (c a) (c b) = decide (a = b)) (hd : ∀ a, (c a).depth ≤ k) (hk : k < 60) {xs ys : List α} : cmpSem .Eq (.tuple (xs.map c)) (.tuple (ys.map c)) = some (decide (xs = ys)) := by
  show (if _ then _ else _) = _
  have hd' : (PyData.tuple (ys.map c)).depth ≤ 60 := Nat.le_trans (Nat.succ_le_succ (depthAll_map hd)) (by omega)
  rw [if_pos (dep_min hd'), eqv_tmap hc]
theorem tI_depth {ns : List Int} : (tI ns).depth ≤ 1 := by
  show PyData.depthAll (ns.map .int) + 1 ≤ 1
  rw [depth_ints]; decide
/-- pairs, triples of ints as tuples -/
def pr2 (p : Int × Int) : PyData := tI [p.1, p.2]
theorem eqv_pr2 (a b : Int × Int) : PyData.eqv (pr2 a) (pr2 b) = decide (a = b) := by
  obtain ⟨a1, a2⟩ := a
  obtain ⟨b1, b2⟩ := b
  show PyData.eqv (tI [a1, a2]) (tI [b1, b2]) = _
  rw [eqv_ints.1]; simp
theorem eqv_tI (a b : List Int) : PyData.eqv (tI a) (tI b) = decide (a = b) := eqv_ints.1
/-- a for over a row of data -/
theorem forL_preD {f : PyData → Env1 → (Env1 → Prop) → Prop} {xs : List PyData} {ρ0 : Env1} {Q : Env1 → Prop} (I : List PyData → Env1 → Prop) (h0 : I [] ρ0)
    (hs : ∀ pre a post, xs = pre ++ a :: post → ∀ ρ k, I pre ρ → (∀ ρ', I (pre ++ [a]) ρ' → k ρ') → f a ρ k) (hd : ∀ ρ, I xs ρ → Q ρ) : forL f xs ρ0 Q := by
  have := forL_pre (c := id) (f := f) (xs := xs) (Q := Q) I h0 hs hd
  rwa [List.map_id] at this
theorem enum_tI {ns : List Int} : enumL (ns.map .int) = (List.range ns.length).map fun (i : Nat) => PyData.tuple [.int (i : Int), .int (at0 ns i 0)] := by
  rw [enum_ints (d := 0)]
  apply List.map_congr_left
  intro i hi
  rfl
theorem enum_map {α : Type} {c : α → PyData} {d : α} {xs : List α} : enumL (xs.map c) = (List.range xs.length).map fun (i : Nat) => PyData.tuple [.int (i : Int), c (at0 xs i d)] := by
  apply List.ext_getElem?
  intro i
  by_cases h : i < xs.length
  · rw [enumL_get (d := c xs[i]) (by rw [List.getElem?_map, List.getElem?_eq_getElem h]; rfl), List.getElem?_map, List.getElem?_range h]
    show some _ = some (PyData.tuple [.int (i : Int), c (at0 xs i d)])
    rw [at0_of h]
  · rw [List.getElem?_eq_none (by rw [enumL_len, List.length_map]; omega), List.getElem?_eq_none (by simp; omega)]
theorem take_snoc {α : Type} {ns : List α} {i : Nat} {d : α} (h : i < ns.length) : ns.take (i + 1) = ns.take i ++ [at0 ns i d] := by
  rw [List.take_succ, List.getElem?_eq_getElem h, at0_of h]; rfl
theorem filterMap_b {α β : Type} {p : α → Bool} {c : α → β} {l : List α} : (l.filterMap fun i => if p i = true then some (c i) else none) = (l.filter p).map c := by
  induction l with
  | nil => rfl
  | cons a l ih =>
    rw [List.filterMap_cons, List.filter_cons]
    cases h : p a with
    | true => simp [ih]
    | false => simpa using ih
theorem rep_t {d : PyData} {n : Nat} (h : n ≤ 1000) : binSem .Mult (.tuple [d]) (.int (n : Int)) = some (.tuple (List.replicate n d)) := by
  show (if _ then _ else _) = _
  rw [if_pos ⟨by simp, by simp, by omega, by omega⟩, Int.toNat_natCast, rep_flat]
theorem ixN_nat {n j : Nat} (h : j < n) : ixN n (j : Int) = some j := by
  unfold ixN
  rw [if_pos (by omega), if_pos (by omega)]
  simp
theorem min_ints {ns : List Int} (h : 0 < ns.length) : ∃ M, bltSem .min [lI ns] = some (.int M) ∧ bltSem .min [tI ns] = some (.int M) ∧ M ∈ ns ∧ ∀ x ∈ ns, M ≤ x := by
  cases ns with
  | nil => simp at h
  | cons a r =>
    have e : intsOf (PyData.int a :: r.map .int) = some (a :: r) := intsOf_map (a :: r)
    refine ⟨minI a r, by show bltSem .min [.list (PyData.int a :: r.map .int)] = _; simp only [bltSem, bestSem, seqD, Option.bind_some, e], by show bltSem .min [.tuple (PyData.int a :: r.map .int)] = _; simp only [bltSem, bestSem, seqD, Option.bind_some, e], ?_⟩
    rw [minI_eq]
    obtain ⟨h1, h2, h3⟩ := foldl_min_le (n := a) (r := r)
    refine ⟨?_, fun x hx => ?_⟩
    · rcases h3 with h3 | h3
      · rw [h3]; exact List.mem_cons_self
      · exact List.mem_cons_of_mem _ h3
    · rcases List.mem_cons.mp hx with rfl | hx
      · exact h1
      · exact h2 x hx
theorem foldl_max_le : ∀ {r : List Int} {n : Int}, n ≤ r.foldl max n ∧ (∀ x ∈ r, x ≤ r.foldl max n) ∧ (r.foldl max n = n ∨ r.foldl max n ∈ r)
  | [], n => ⟨Int.le_refl _, fun _ h => (by cases h), .inl rfl⟩
  | a :: r, n => by
    obtain ⟨h1, h2, h3⟩ := foldl_max_le (r := r) (n := max n a)
    refine ⟨by simp only [List.foldl_cons]; omega, fun x hx => ?_, ?_⟩
    · rcases List.mem_cons.mp hx with rfl | hx
      · simp only [List.foldl_cons]; omega
      · exact h2 x hx
    · rcases h3 with h3 | h3
      · simp only [List.foldl_cons]
        rcases Int.le_total n a with h | h
        · right; rw [h3, Int.max_eq_right h]; exact List.mem_cons_self
        · left; rw [h3, Int.max_eq_left h]
      · exact .inr (List.mem_cons_of_mem _ h3)
theorem max_ints {ns : List Int} (h : 0 < ns.length) : ∃ M, bltSem .max [lI ns] = some (.int M) ∧ bltSem .max [tI ns] = some (.int M) ∧ M ∈ ns ∧ ∀ x ∈ ns, x ≤ M := by
  cases ns with
  | nil => simp at h
  | cons a r =>
    have e : intsOf (PyData.int a :: r.map .int) = some (a :: r) := intsOf_map (a :: r)
    refine ⟨maxI a r, by show bltSem .max [.list (PyData.int a :: r.map .int)] = _; simp only [bltSem, bestSem, seqD, Option.bind_some, e], by show bltSem .max [.tuple (PyData.int a :: r.map .int)] = _; simp only [bltSem, bestSem, seqD, Option.bind_some, e], ?_⟩
    rw [maxI_eq]
    obtain ⟨h1, h2, h3⟩ := foldl_max_le (r := r) (n := a)
    refine ⟨?_, fun x hx => ?_⟩
    · rcases h3 with h3 | h3
      · rw [h3]; exact List.mem_cons_self
      · exact List.mem_cons_of_mem _ h3
    · rcases List.mem_cons.mp hx with rfl | hx
      · exact h1
      · exact h2 x hx
theorem setSort_ints {ns : List Int} (h : ns.length < 64) : spSem .setSort (lI ns) = some (lI (sortI (nub ns))) ∧ spSem .setSort (tI ns) = some (lI (sortI (nub ns))) := by
  have e : intsOf (ns.map PyData.int) = some ns := intsOf_map ns
  constructor
  · show setSortSem (.list (ns.map .int)) = _
    unfold setSortSem
    rw [seqD_list, Option.bind_some, e]
    exact if_pos h
  · show setSortSem (.tuple (ns.map .int)) = _
    unfold setSortSem
    rw [seqD_tuple, Option.bind_some, e]
    exact if_pos h
/-- sorted, sorted(set) of tuples of ints -/
theorem sorted_tups {ts : List (List Int)} (h : ts.length < 64) (ho : okT ts = true) : bltSem .sorted [.list (ts.map tI)] = some (.list ((sortT ts).map tI)) := by
  show sortedSem (ts.map tI) = _
  unfold sortedSem
  cases ts with
  | nil => rfl
  | cons t r =>
    have e1 : intsOf ((t :: r).map tI) = none := rfl
    have e2 : tupsOf ((t :: r).map tI) = some (t :: r) := tupsOf_map (t :: r)
    rw [e1]
    show (tupsOf _).bind _ = _
    rw [e2, Option.bind_some]
    exact if_pos ⟨h, ho⟩
theorem setSort_tups {ts : List (List Int)} (h : ts.length < 64) (ho : okT ts = true) : spSem .setSort (.list (ts.map tI)) = some (.list ((sortT (nub ts)).map tI)) := by
  show setSortSem (.list (ts.map tI)) = _
  unfold setSortSem
  rw [seqD_list, Option.bind_some]
  cases ts with
  | nil => rfl
  | cons t r =>
    have e1 : intsOf ((t :: r).map tI) = none := rfl
    have e2 : tupsOf ((t :: r).map tI) = some (t :: r) := tupsOf_map (t :: r)
    rw [e1]
    show (tupsOf _).bind _ = _
    rw [e2, Option.bind_some]
    exact if_pos ⟨h, ho⟩
/-- in, over rows of things of a kind -/
theorem any_lmap {α : Type} [DecidableEq α] {c : α → PyData} (hc : ∀ a b, PyData.eqv (c a) (c b) = decide (a = b)) {xs : List α} {a : α} : ((xs.map c).any fun z => PyData.eqv z (c a)) = decide (a ∈ xs) := by
  rw [Bool.eq_iff_iff, decide_eq_true_eq, List.any_eq_true]
  constructor
  · rintro ⟨z, hz, e⟩
    obtain ⟨b, hb, rfl⟩ := List.mem_map.mp hz
    rw [hc, decide_eq_true_eq] at e
    exact e ▸ hb
  · intro h
    exact ⟨c a, List.mem_map.mpr ⟨a, h, rfl⟩, by rw [hc]; simp⟩
theorem in_lmap {α : Type} [DecidableEq α] {c : α → PyData} {k : Nat} (hc : ∀ a b, PyData.eqv (c a) (c b) = decide (a = b)) (hd : ∀ a, (c a).depth ≤ k) (hk : k ≤ 60) {xs : List α} {a : α} : cmpSem .In (c a) (.list (xs.map c)) = some (decide (a ∈ xs)) := by
  rw [in_list (Nat.le_trans (hd a) hk), any_lmap hc]
theorem in_tmap {α : Type} [DecidableEq α] {c : α → PyData} {k : Nat} (hc : ∀ a b, PyData.eqv (c a) (c b) = decide (a = b)) (hd : ∀ a, (c a).depth ≤ k) (hk : k ≤ 60) {xs : List α} {a : α} : cmpSem .In (c a) (.tuple (xs.map c)) = some (decide (a ∈ xs)) := by
  rw [in_tuple (Nat.le_trans (hd a) hk), any_lmap hc]
theorem notin_lmap {α : Type} [DecidableEq α] {c : α → PyData} {k : Nat} (hc : ∀ a b, PyData.eqv (c a) (c b) = decide (a = b)) (hd : ∀ a, (c a).depth ≤ k) (hk : k ≤ 60) {xs : List α} {a : α} : cmpSem .NotIn (c a) (.list (xs.map c)) = some (!decide (a ∈ xs)) := by
  rw [notin_list (Nat.le_trans (hd a) hk), any_lmap hc]
theorem notin_tmap {α : Type} [DecidableEq α] {c : α → PyData} {k : Nat} (hc : ∀ a b, PyData.eqv (c a) (c b) = decide (a = b)) (hd : ∀ a, (c a).depth ≤ k) (hk : k ≤ 60) {xs : List α} {a : α} : cmpSem .NotIn (c a) (.tuple (xs.map c)) = some (!decide (a ∈ xs)) := by
  rw [notin_tuple (Nat.le_trans (hd a) hk), any_lmap hc]
theorem setLen_ints {ns : List Int} (h : ns.length < 4000) : spSem .setLen (lI ns) = some (.int (nub ns).length) ∧ spSem .setLen (tI ns) = some (.int (nub ns).length) := by
  have e : intsOf (ns.map PyData.int) = some ns := intsOf_map ns
  constructor
  · show lenSetSem (.list (ns.map .int)) = _
    unfold lenSetSem
    rw [seqD_list, Option.bind_some, e]
    exact if_pos h
  · show lenSetSem (.tuple (ns.map .int)) = _
    unfold lenSetSem
    rw [seqD_tuple, Option.bind_some, e]
    exact if_pos h
/-- all the same: without those that come again there is one at most -/
theorem nub_one {ns : List Int} : (nub ns).length ≤ 1 ↔ ∀ x ∈ ns, ∀ y ∈ ns, x = y := by
  constructor
  · intro h x hx y hy
    have hx := mem_nub.mpr hx
    have hy := mem_nub.mpr hy
    match e : nub ns with
    | [] => rw [e] at hx; cases hx
    | [a] => rw [e] at hx hy; rw [List.mem_singleton.mp hx, List.mem_singleton.mp hy]
    | a :: b :: r => rw [e] at h; simp at h
  · intro h
    match e : nub ns with
    | [] => simp
    | [a] => simp
    | a :: b :: r =>
      have hn := nub_nodup ns
      rw [e] at hn
      have ha : a ∈ ns := mem_nub.mp (by rw [e]; simp)
      have hb : b ∈ ns := mem_nub.mp (by rw [e]; simp)
      have := h a ha b hb
      subst this
      simp at hn
end Dl

set_option Elab.async false
set_option linter.all false
set_option maxRecDepth 100000
set_option maxHeartbeats 8000000
/-! the data layer, part 43: texts by their signs; numbers as texts of digits -/
namespace Dl
open PySem PySem.Spec PyProof.Rows L2
/-- a text by its signs -/
def Sx (cs : List Nat) : Str := ⟨cs.toArray⟩
def sD (cs : List Nat) : PyData := .str (Sx cs)
theorem Sx_list {cs : List Nat} : (Sx cs).cps.toList = cs := by simp [Sx]
theorem Sx_of (x : Str) : x = Sx x.cps.toList := by
  obtain ⟨⟨l⟩⟩ := x
  rfl
theorem Sx_inj {a b : List Nat} (h : Sx a = Sx b) : a = b := by
  have := congrArg (fun x : Str => x.cps.toList) h
  simpa [Sx] using this
theorem Sx_len {cs : List Nat} : (Sx cs).length = cs.length := by
  show (Sx cs).cps.size = _
  simp [Sx]
theorem Sx_app {a b : List Nat} : Sx a ++ Sx b = Sx (a ++ b) := by
  show (⟨(Sx a).cps ++ (Sx b).cps⟩ : Str) = _
  simp [Sx]
theorem Sx_ok {cs : List Nat} : PyData.strOk (Sx cs) = true ↔ ∀ c ∈ cs, c < 0x110000 := by rw [strOk_iff, Sx_list]
def okC (cs : List Nat) : Prop := ∀ c ∈ cs, c < 0x110000
@[simp] theorem eqv_sD {a b : List Nat} : PyData.eqv (sD a) (sD b) = decide (a = b) := by
  show ((Sx a) == (Sx b)) = _
  rw [Bool.eq_iff_iff, beq_iff_eq, decide_eq_true_eq]
  exact ⟨Sx_inj, fun h => by rw [h]⟩
theorem sD_depth {a : List Nat} : (sD a).depth ≤ 0 := Nat.le_refl _
@[simp] theorem cmp_eq_sD {a b : List Nat} : cmpSem .Eq (sD a) (sD b) = some (decide (a = b)) := by
  show (if min (sD a).depth (sD b).depth ≤ 60 then some (PyData.eqv (sD a) (sD b)) else none) = _
  rw [if_pos (dep_min (Nat.le_trans sD_depth (by decide))), eqv_sD]
@[simp] theorem cmp_ne_sD {a b : List Nat} : cmpSem .NotEq (sD a) (sD b) = some (!decide (a = b)) := by
  show (if min (sD a).depth (sD b).depth ≤ 60 then some (!PyData.eqv (sD a) (sD b)) else none) = _
  rw [if_pos (dep_min (Nat.le_trans sD_depth (by decide))), eqv_sD]
theorem cat_sD {a b : List Nat} (h : a.length + b.length ≤ 16777216) : binSem .Add (sD a) (sD b) = some (sD (a ++ b)) := by
  show (if _ then _ else _) = _
  rw [if_pos (by rw [Sx_len, Sx_len]; exact h), Sx_app]; rfl
theorem len_sD {a : List Nat} (h : a.length ≤ 16777216) : bltSem .len [sD a] = some (.int (a.length : Nat)) := by
  show (if _ then _ else _) = _
  rw [if_pos (by rw [Sx_len]; exact h), Sx_len]
theorem in_sign {c : Nat} {cs : List Nat} : cmpSem .In (sD [c]) (sD cs) = some (decide (c ∈ cs)) := by
  show (oneCh (Sx [c])).map (fun z => decide (z ∈ (Sx cs).cps.toList)) = _
  show some (decide (c ∈ (Sx cs).cps.toList)) = _
  rw [Sx_list]
theorem notin_sign {c : Nat} {cs : List Nat} : cmpSem .NotIn (sD [c]) (sD cs) = some (!decide (c ∈ cs)) := by
  show (inSem (sD [c]) (sD cs)).map (!·) = _
  have : inSem (sD [c]) (sD cs) = some (decide (c ∈ cs)) := in_sign
  rw [this]; rfl
theorem signs_sD {cs : List Nat} : signsD (Sx cs) = cs.map fun c => sD [c] := by
  unfold signsD
  rw [Sx_list]; rfl
theorem ix_sD {cs : List Nat} {i : Nat} {d : Nat} (h : i < cs.length) (hl : cs.length ≤ 16777216) (ho : okC cs) : ixSem (sD cs) (.int (i : Nat)) = some (sD [at0 cs i d]) := by
  show (if _ then _ else _) = _
  rw [if_pos ⟨by rw [Sx_len]; exact hl, Sx_ok.mpr ho⟩, Sx_list]
  have e : atI cs (i : Int) = some cs[i] := by
    unfold atI ixN
    rw [if_pos (by omega), if_pos (by omega)]
    exact List.getElem?_eq_getElem h
  rw [e, at0_of h]; rfl
theorem cutS_to {cs : List Nat} {k : Nat} : cutS (Sx cs) none (some (k : Int)) = Sx (cs.take k) := by
  unfold cutS
  rw [Sx_list, Sx_len, HT.sIx_none, HT.sIx_nat, List.drop_zero, Nat.sub_zero]
  congr 1
  by_cases h : k ≤ cs.length
  · rw [Nat.min_eq_left h]
  · rw [Nat.min_eq_right (by omega), List.take_of_length_le (Nat.le_refl _), List.take_of_length_le (by omega)]
theorem cutS_from {cs : List Nat} {k : Nat} : cutS (Sx cs) (some (k : Int)) none = Sx (cs.drop k) := by
  unfold cutS
  rw [Sx_list, Sx_len, HT.sIx_none, HT.sIx_nat]
  congr 1
  by_cases h : k ≤ cs.length
  · rw [Nat.min_eq_left h, List.take_of_length_le (by rw [List.length_drop]; exact Nat.le_refl _)]
  · rw [Nat.min_eq_right (by omega), List.drop_eq_nil_of_le (Nat.le_refl _), List.drop_eq_nil_of_le (by omega)]
    simp
theorem cutS_mid {cs : List Nat} {i j : Nat} : cutS (Sx cs) (some (i : Int)) (some (j : Int)) = Sx ((cs.drop i).take (j - i)) := by
  unfold cutS
  rw [Sx_list, Sx_len, HT.sIx_nat, HT.sIx_nat]
  congr 1
  by_cases h : i ≤ cs.length
  · rw [Nat.min_eq_left h]
    by_cases h2 : j ≤ cs.length
    · rw [Nat.min_eq_left h2]
    · rw [Nat.min_eq_right (by omega), List.take_of_length_le (by rw [List.length_drop]; exact Nat.le_refl _), List.take_of_length_le (by rw [List.length_drop]; omega)]
  · rw [show min i cs.length = cs.length from Nat.min_eq_right (by omega), List.drop_length, List.drop_eq_nil_of_le (show cs.length ≤ i by omega)]
    simp
section
variable {cs : List Nat} {i j k : Nat} (hl : cs.length ≤ 16777216) (ho : okC cs)
include hl ho
theorem sl_to : slSem none (some (k : Int)) (sD cs) = some (sD (cs.take k)) := by
  show (if _ then _ else _) = _
  rw [if_pos ⟨by rw [Sx_len]; exact hl, Sx_ok.mpr ho⟩, cutS_to]; rfl
theorem sl_from : slSem (some (k : Int)) none (sD cs) = some (sD (cs.drop k)) := by
  show (if _ then _ else _) = _
  rw [if_pos ⟨by rw [Sx_len]; exact hl, Sx_ok.mpr ho⟩, cutS_from]; rfl
theorem sl_mid : slSem (some (i : Int)) (some (j : Int)) (sD cs) = some (sD ((cs.drop i).take (j - i))) := by
  show (if _ then _ else _) = _
  rw [if_pos ⟨by rw [Sx_len]; exact hl, Sx_ok.mpr ho⟩, cutS_mid]; rfl
end
theorem rep_sD {cs : List Nat} {k : Nat} (h : cs.length ≤ 1000) (hk : k ≤ 1000) : binSem .Mult (sD cs) (.int (k : Nat)) = some (sD (List.replicate k cs).flatten) := by
  show (if _ then _ else _) = _
  rw [if_pos ⟨by rw [Sx_len]; exact h, by omega, by omega⟩, Sx_of (strRep _ _), strRep_list, Sx_list, Int.toNat_natCast]; rfl
/-! ### numbers -/
/-- the last k digits of a number -/
def digs : Nat → Nat → List Nat
  | 0, _ => []
  | k + 1, n => digs k (n / 10) ++ [n % 10]
def numL (ds : List Nat) : Nat := ds.foldl (fun a d => a * 10 + d) 0
theorem numL_snoc {ds : List Nat} {d : Nat} : numL (ds ++ [d]) = numL ds * 10 + d := by unfold numL; rw [List.foldl_append]; rfl
theorem digs_len : ∀ {k n : Nat}, (digs k n).length = k
  | 0, _ => rfl
  | k + 1, n => by show (digs k (n / 10) ++ [n % 10]).length = _; rw [List.length_append, digs_len]; rfl
theorem digs_lt : ∀ {k n : Nat}, ∀ d ∈ digs k n, d < 10
  | 0, _, d, h => by cases h
  | k + 1, n, d, h => by
    rcases List.mem_append.mp h with h | h
    · exact digs_lt d h
    · rw [List.mem_singleton.mp h]; exact Nat.mod_lt _ (by decide)
theorem num_digs : ∀ {k n : Nat}, n < 10 ^ k → numL (digs k n) = n
  | 0, n, h => by simp at h; subst h; rfl
  | k + 1, n, h => by
    show numL (digs k (n / 10) ++ [n % 10]) = n
    rw [numL_snoc, num_digs (by rw [Nat.pow_succ] at h; omega)]
    omega
theorem digs_num : ∀ {k : Nat} {ds : List Nat}, ds.length = k → (∀ d ∈ ds, d < 10) → digs k (numL ds) = ds := by
  intro k
  induction k with
  | zero => intro ds h _; rw [List.eq_nil_of_length_eq_zero h]; rfl
  | succ k ih =>
    intro ds h hd
    rcases List.eq_nil_or_concat ds with rfl | ⟨r, d, rfl⟩
    · simp at h
    · rw [List.concat_eq_append] at h hd ⊢
      have hd1 := hd d (by simp)
      show digs k (numL (r ++ [d]) / 10) ++ [numL (r ++ [d]) % 10] = _
      rw [numL_snoc, show (numL r * 10 + d) / 10 = numL r by omega, show (numL r * 10 + d) % 10 = d by omega, ih (by simpa using h) fun x hx => hd x (by simp [hx])]
theorem num_lt : ∀ {k : Nat} {ds : List Nat}, ds.length = k → (∀ d ∈ ds, d < 10) → numL ds < 10 ^ k := by
  intro k
  induction k with
  | zero => intro ds h _; rw [List.eq_nil_of_length_eq_zero h]; decide
  | succ k ih =>
    intro ds h hd
    rcases List.eq_nil_or_concat ds with rfl | ⟨r, d, rfl⟩
    · simp at h
    · rw [List.concat_eq_append] at h hd ⊢
      have hd1 := hd d (by simp)
      have := ih (ds := r) (by simpa using h) fun x hx => hd x (by simp [hx])
      rw [numL_snoc, Nat.pow_succ]
      omega
theorem numL_app {a : List Nat} : ∀ {b : List Nat}, numL (a ++ b) = numL a * 10 ^ b.length + numL b := by
  intro b
  induction hn : b.length generalizing b with
  | zero => rw [List.eq_nil_of_length_eq_zero hn]; simp [numL]
  | succ k ih =>
    rcases List.eq_nil_or_concat b with rfl | ⟨r, d, rfl⟩
    · simp at hn
    · rw [List.concat_eq_append] at hn ⊢
      rw [← List.append_assoc, numL_snoc, numL_snoc, ih (b := r) (by simpa using hn), Nat.pow_succ, Nat.add_mul, Nat.mul_assoc]
      omega
theorem digs_app : ∀ {k j a b : Nat}, b < 10 ^ k → digs (j + k) (a * 10 ^ k + b) = digs j a ++ digs k b
  | 0, j, a, b, h => by simp at h; subst h; simp [digs]
  | k + 1, j, a, b, h => by
    show digs (j + k) ((a * 10 ^ (k + 1) + b) / 10) ++ [(a * 10 ^ (k + 1) + b) % 10] = digs j a ++ (digs k (b / 10) ++ [b % 10])
    have e : a * 10 ^ (k + 1) = (a * 10 ^ k) * 10 := by rw [Nat.pow_succ, Nat.mul_assoc]
    rw [e, show (a * 10 ^ k * 10 + b) / 10 = a * 10 ^ k + b / 10 by omega, show (a * 10 ^ k * 10 + b) % 10 = b % 10 by omega, digs_app (by rw [Nat.pow_succ] at h; omega), List.append_assoc]
/-- signs of digits -/
def dC (ds : List Nat) : List Nat := ds.map (48 + ·)
theorem dC_len {ds : List Nat} : (dC ds).length = ds.length := by unfold dC; rw [List.length_map]
theorem dC_app {a b : List Nat} : dC (a ++ b) = dC a ++ dC b := List.map_append
theorem dC_ok {ds : List Nat} (h : ∀ d ∈ ds, d < 10) : okC (dC ds) := fun c hc => by
  obtain ⟨d, hd, rfl⟩ := List.mem_map.mp hc
  have := h d hd
  omega
theorem dC_inj {a b : List Nat} (h : dC a = dC b) : a = b := by
  have := congrArg (List.map (· - 48)) h
  simpa [dC, List.map_map, Function.comp_def] using this
theorem dC_all {ds : List Nat} (h : ∀ d ∈ ds, d < 10) : NumText.AllDigits (dC ds) := fun c hc => by
  obtain ⟨d, hd, rfl⟩ := List.mem_map.mp hc
  have := h d hd
  omega
theorem dC_val {ds : List Nat} : NumText.digitsVal (dC ds) = numL ds := by
  unfold NumText.digitsVal numL dC
  rw [List.foldl_map]
  congr 1
  funext a d
  rw [Nat.add_sub_cancel_left]
theorem dC_of {cs : List Nat} (h : ∀ c ∈ cs, 48 ≤ c ∧ c ≤ 57) : ∃ ds, cs = dC ds ∧ ∀ d ∈ ds, d < 10 := by
  refine ⟨cs.map (· - 48), ?_, fun d hd => ?_⟩
  · unfold dC
    rw [List.map_map]
    conv => lhs; rw [← List.map_id cs]
    refine List.map_congr_left fun c hc => ?_
    have := h c hc
    show c = 48 + (c - 48)
    omega
  · obtain ⟨c, hc, rfl⟩ := List.mem_map.mp hd
    have := h c hc
    omega
theorem int_dC {ds : List Nat} (h : ∀ d ∈ ds, d < 10) (h1 : ds ≠ []) (h2 : ds.length ≤ 640) : bltSem .int [sD (dC ds)] = some (.int (numL ds : Nat)) := by
  show (if _ then _ else _) = _
  rw [if_pos (by rw [Sx_len, dC_len]; exact h2)]
  have := PySem.intText_digits (x := Sx (dC ds)) (by rw [Sx_list]; exact dC_all h) (by rw [Sx_list]; intro z; apply h1; unfold dC at z; exact List.map_eq_nil_iff.mp z) (by rw [Sx_len, dC_len]; omega)
  rw [this, Sx_list, dC_val]; rfl
/-- the digits of a number as it is written -/
def wr (n : Nat) : List Nat := ((PySem.Str.ofString (toString ((n : Nat) : Int))).cps.toList).map (· - 48)
theorem str_wr {n : Nat} (h : n < 10 ^ 500) : bltSem .str [.int (n : Nat)] = some (sD (PySem.Str.ofString (toString ((n : Nat) : Int))).cps.toList) := by
  show (if _ then _ else _) = _
  rw [if_pos ?_, Sx_of (PySem.Str.ofString _)]
  · rw [Sx_list]; rfl
  · by_cases h0 : n = 0
    · subst h0; decide
    · have e : ((n : Int).natAbs) = n := Int.natAbs_natCast n
      rw [e]
      refine (Nat.log2_lt h0).mpr (Nat.lt_of_lt_of_le h ?_)
      calc (10 : Nat) ^ 500 ≤ 16 ^ 475 := by decide +kernel
        _ = 2 ^ (4 * 475) := by rw [Nat.pow_mul]
        _ ≤ 2 ^ 1920 := Nat.pow_le_pow_right (by decide) (by decide)
theorem drop_zeros : ∀ (cs : List Nat), ∃ k, cs = List.replicate k 48 ++ cs.dropWhile (· == 48)
  | [] => ⟨0, rfl⟩
  | c :: r => by
    by_cases h : c = 48
    · obtain ⟨k, hk⟩ := drop_zeros r
      subst h
      refine ⟨k + 1, ?_⟩
      rw [List.dropWhile_cons, if_pos (by decide), List.replicate_succ, List.cons_append, ← hk]
    · refine ⟨0, ?_⟩
      rw [List.dropWhile_cons, if_neg (by simpa using h)]; rfl
/-- a written number, with noughts ahead, is its digits -/
theorem wr_pad {k n : Nat} (hk : 1 ≤ k) (hn : n < 10 ^ k) : (PySem.Str.ofString (toString ((n : Nat) : Int))).cps.toList.length ≤ k ∧ List.replicate (k - (PySem.Str.ofString (toString ((n : Nat) : Int))).cps.toList.length) 48 ++ (PySem.Str.ofString (toString ((n : Nat) : Int))).cps.toList = dC (digs k n) := by
  have hall := dC_all (ds := digs k n) digs_lt
  have hv : NumText.digitsVal (dC (digs k n)) = n := by rw [dC_val, num_digs hn]
  have key := NumText.toDigits_all _ hall
  rw [hv] at key
  have hl : (dC (digs k n)).length = k := by rw [dC_len, digs_len]
  obtain ⟨z, hz⟩ := drop_zeros (dC (digs k n))
  rw [PySem.W.KIN.signs_num, key]
  cases hd : (dC (digs k n)).dropWhile (· == 48) with
  | nil =>
    rw [hd, List.append_nil] at hz
    rw [hz] at hl ⊢
    rw [List.length_replicate] at hl
    subst hl
    refine ⟨by simpa using hk, ?_⟩
    show List.replicate (z - 1) 48 ++ [48] = _
    obtain ⟨y, rfl⟩ : ∃ y, z = y + 1 := ⟨z - 1, by omega⟩
    rw [Nat.add_sub_cancel, List.replicate_succ']
  | cons c r =>
    rw [hd] at hz
    have e : ((c :: r).map Char.ofNat).map Char.toNat = c :: r := by
      rw [List.map_map]
      conv => rhs; rw [← List.map_id (c :: r)]
      refine List.map_congr_left fun x hx => ?_
      have := hall x (by rw [hz]; exact List.mem_append_right _ hx)
      show (Char.ofNat x).toNat = x
      have hv : x.isValidChar := .inl (by omega)
      simp [Char.ofNat, hv, Char.toNat, Char.ofNatAux]
    show ((c :: r).map Char.ofNat |>.map Char.toNat).length ≤ k ∧ _
    have hlen : z + (c :: r).length = k := by
      have := congrArg List.length hz
      rw [hl, List.length_append, List.length_replicate] at this
      omega
    refine ⟨by rw [e]; omega, ?_⟩
    show List.replicate (k - ((c :: r).map Char.ofNat |>.map Char.toNat).length) 48 ++ ((c :: r).map Char.ofNat |>.map Char.toNat) = _
    rw [e, show k - (c :: r).length = z by omega]
    exact hz.symm
theorem wr_digits {n : Nat} : ∀ c ∈ (PySem.Str.ofString (toString ((n : Nat) : Int))).cps.toList, 48 ≤ c ∧ c ≤ 57 := by
  intro c hc
  rw [PySem.W.KIN.signs_num] at hc
  obtain ⟨ch, hch, rfl⟩ := List.mem_map.mp hc
  exact digit_range (Nat.isDigit_of_mem_toDigits (by decide) (by decide) hch)
theorem zfill_wr {k n : Nat} (hk : 1 ≤ k) (hk2 : k ≤ 100) (hn : n < 10 ^ k) : spSem (.zfill k) (sD (PySem.Str.ofString (toString ((n : Nat) : Int))).cps.toList) = some (sD (dC (digs k n))) := by
  obtain ⟨h1, h2⟩ := wr_pad hk hn
  have hw := wr_digits (n := n)
  generalize (PySem.Str.ofString (toString ((n : Nat) : Int))).cps.toList = cs at h1 h2 hw
  have e : Txt.zfill (Sx cs) (k : Int) = Sx (dC (digs k n)) := by
    unfold Txt.zfill
    rw [Sx_len]
    by_cases h : (k : Int) ≤ cs.length
    · rw [if_pos h, ← h2, show k - cs.length = 0 by omega]; rfl
    · rw [if_neg h]
      have hz : zfilled (Sx cs) ((k : Int).toNat - cs.length) = Sx (List.replicate (k - cs.length) 48 ++ cs) := by
        unfold zfilled
        have hp : Builtin.Str.padded (Sx cs) ((k : Int).toNat - cs.length) 0 48 = Sx (List.replicate (k - cs.length) 48 ++ cs) := by
          rw [Sx_of (Builtin.Str.padded _ _ _ _)]
          congr 1
          simp [Builtin.Str.padded, Sx]
        split
        · rename_i hc
          exfalso
          have : (43 : Nat) ∈ cs := by
            have := Array.mem_of_getElem? hc
            simpa [Sx] using this
          have := hw _ this
          omega
        · rename_i hc
          exfalso
          have : (45 : Nat) ∈ cs := by
            have := Array.mem_of_getElem? hc
            simpa [Sx] using this
          have := hw _ this
          omega
        · exact hp
      rw [hz, h2]
  show (if _ then _ else _) = _
  rw [e, if_pos ⟨by omega, Sx_ok.mpr (dC_ok digs_lt)⟩]; rfl
end Dl

set_option Elab.async false
set_option linter.all false
set_option maxRecDepth 100000
set_option maxHeartbeats 8000000
namespace Dl
open PySem PySem.Spec PyProof.Rows L2
def top (i : Nat) : Stmt := PySem.Challenge.pw_clothlay_k04_whole_ways_of_pieces.main.body.getD i (.Pass ⟨0, 0, 0, 0⟩)
abbrev s_demand : Stmt := top 3
abbrev s__law_taken : Stmt := top 26
abbrev s__law_refused : Stmt := top 28
abbrev s__law_alike : Stmt := top 29
abbrev s_law : Stmt := top 38
abbrev s_is_integer : Stmt := top 4
abbrev s_is_tuple : Stmt := top 6
abbrev s_is_flag : Stmt := top 7
abbrev s_spread : Stmt := top 13
abbrev s_goes_round : Stmt := top 19
abbrev s__law_ways : Stmt := top 31
abbrev s__law_round : Stmt := top 32
abbrev s__law_groups : Stmt := top 33
abbrev s_is_integers : Stmt := top 5
abbrev s_is_tie : Stmt := top 11
abbrev s_first_odd : Stmt := top 14
abbrev s__law_pick : Stmt := top 27
abbrev s__law_facing : Stmt := top 30
abbrev s__law_cut : Stmt := top 35
abbrev s_is_facing : Stmt := top 12
abbrev s_lying : Stmt := top 15
abbrev s_is_lying : Stmt := top 16
abbrev s_odd_round : Stmt := top 17
abbrev s_is_odd_round : Stmt := top 18
abbrev s_ways_to_lie : Stmt := top 20
abbrev s_tied : Stmt := top 21
abbrev s__law_judged : Stmt := top 36
abbrev s__law_tied : Stmt := top 34
abbrev s_chosen : Stmt := top 22
abbrev s_subsets : Stmt := top 23
abbrev s_fewest_cut : Stmt := top 24
abbrev s__law_case : Stmt := top 37
/-- the class statement's __init__ -/
def s_init : Stmt := match top 1 with
  | .ClassDef _ _ _ b _ _ _ _ _ _ _ => b.getD 0 (.Pass ⟨0, 0, 0, 0⟩)
  | s => s
/- is_flag: 0 value -/
def b_is_flag : SL := (.cons (.ret (.isi (.var 0) "bool")) .nil)
/- spread: 0 facing 1 left 2 lying 3 heads 4 ways 5 first 6 line 7 piece 8 at 9 tie 10 other -/
def b_spread : SL := (.cons (.par3 true 2 (.bin .Mult (.lst (.cons (.un .USub (.cst (.int 1))) .nil)) (.idx (.var 0) (.cst (.int 0)))) true 3 (.bin .Mult (.lst (.cons (.cst (.int 0)) .nil)) (.idx (.var 0) (.cst (.int 0)))) true 4 (.bin .Mult (.lst (.cons (.tup .nil) .nil)) (.idx (.var 0) (.cst (.int 0))))) (.cons (.for_ (.name 5 "first") (.rng1 (.idx (.var 0) (.cst (.int 0)))) (.cons (.ife (.cmp .Lt (.idx (.rd 2) (.var 5)) (.cst (.int 0))) (.cons (.mut 2 (.put2 3 (.var 5) (.var 5) (.tup (.cons (.cst (.int 0)) (.cons (.var 5) .nil))))) (.cons (.set true 6 (.lst (.cons (.var 5) .nil))) (.cons (.whl (.rd 6) (.cons (.mut 6 (.popA (.name 7 "piece") (.cst (.int 0)))) (.cons (.for_ (.tup (.cons (.name 8 "at") (.cons (.name 9 "tie") .nil))) (.enum (.idx (.var 0) (.cst (.int 1)))) (.cons (.ife (.ands (.cons (.cmp .NotIn (.var 8) (.var 1)) (.cons (.cmp .In (.var 7) (.slc (.var 9) .none (.some (.cst (.int 2))))) .nil))) (.cons (.set false 10 (.ite (.cmp .Eq (.idx (.var 9) (.cst (.int 0))) (.var 7)) (.idx (.var 9) (.cst (.int 1))) (.idx (.var 9) (.cst (.int 0))))) (.cons (.ife (.cmp .Lt (.idx (.rd 2) (.var 10)) (.cst (.int 0))) (.cons (.put 2 (.var 10) (.ite (.idx (.var 9) (.cst (.int 2))) (.idx (.rd 2) (.var 7)) (.bin .Sub (.cst (.int 1)) (.idx (.rd 2) (.var 7))))) (.cons (.mut 3 (.put2 4 (.var 10) (.var 10) (.tup (.cons (.var 5) (.cons (.bin .Add (.idx (.rd 4) (.var 7)) (.tup (.cons (.var 8) .nil))) .nil))))) (.cons (.app 6 (.var 10)) .nil))) .nil) .nil)) .nil) .nil)) .nil))) .nil))) .nil) .nil)) (.frz 2 (.frz 3 (.frz 4 (.cons (.ret (.tup (.cons (.var 2) (.cons (.var 3) (.cons (.var 4) .nil))))) .nil))))))
/- goes_round: 0 facing 1 steps 2 start 3 here 4 at 5 tie -/
def b_goes_round : SL := (.cons (.set false 3 (.var 2)) (.cons (.for_ (.name 4 "at") (.of (.var 1)) (.cons (.set false 5 (.idx (.idx (.var 0) (.cst (.int 1))) (.var 4))) (.cons (.ife (.cmp .NotIn (.var 3) (.slc (.var 5) .none (.some (.cst (.int 2))))) (.cons (.ret (.cst (.bl false))) .nil) .nil) (.cons (.set false 3 (.ite (.cmp .Eq (.idx (.var 5) (.cst (.int 0))) (.var 3)) (.idx (.var 5) (.cst (.int 1))) (.idx (.var 5) (.cst (.int 0))))) .nil)))) (.cons (.ret (.cmp .Eq (.var 3) (.var 2))) .nil)))
/- _law_ways: 0 facing 1 left 2 found 3 piece 4 some 5 side 6 at 7 tie -/
def b__law_ways : SL := (.cons (.set false 2 (.lst (.cons (.tup .nil) .nil))) (.cons (.for_ (.name 3 "piece") (.rng1 (.idx (.var 0) (.cst (.int 0)))) (.cons (.set false 2 (.lc2 (.bin .Add (.var 4) (.tup (.cons (.var 5) .nil))) [("some", 4), ("side", 5)] (.name 4 "some") (.of (.var 2)) .nil [5] (.name 5 "side") (.of (.tup (.cons (.cst (.int 0)) (.cons (.cst (.int 1)) .nil)))) .nil)) (.cons (.for_ (.tup (.cons (.name 6 "at") (.cons (.name 7 "tie") .nil))) (.enum (.idx (.var 0) (.cst (.int 1)))) (.cons (.ife (.ands (.cons (.cmp .NotIn (.var 6) (.var 1)) (.cons (.cmp .Eq (.blt .max (.cons (.slc (.var 7) .none (.some (.cst (.int 2)))) .nil)) (.var 3)) .nil))) (.cons (.set false 2 (.lc (.var 4) [("some", 4)] (.name 4 "some") (.of (.var 2)) (.cons (.cmp .Eq (.cmp .Eq (.idx (.var 4) (.idx (.var 7) (.cst (.int 0)))) (.idx (.var 4) (.idx (.var 7) (.cst (.int 1))))) (.idx (.var 7) (.cst (.int 2)))) .nil))) .nil) .nil) .nil)) .nil))) (.cons (.ret (.var 2)) .nil)))
/- _law_round: 0 facing 1 steps 2 ends 3 start 4 at 5 one 6 two 7 is_same 8 here 9 odd 10 pair -/
def b__law_round : SL := (.cons (.set false 2 (.lc (.tup (.cons (.var 3) (.cons (.var 3) .nil))) [("start", 3)] (.name 3 "start") (.rng1 (.idx (.var 0) (.cst (.int 0)))) .nil)) (.cons (.for_ (.name 4 "at") (.of (.var 1)) (.cons (.asg (.tup (.cons (.name 5 "one") (.cons (.name 6 "two") (.cons (.name 7 "is_same") .nil)))) (.idx (.idx (.var 0) (.cst (.int 1))) (.var 4))) (.cons (.set false 2 (.lc (.tup (.cons (.var 3) (.cons (.ite (.cmp .Eq (.var 8) (.var 5)) (.var 6) (.var 5)) .nil))) [("start", 3), ("here", 8)] (.tup (.cons (.name 3 "start") (.cons (.name 8 "here") .nil))) (.of (.var 2)) (.cons (.cmp .In (.var 8) (.tup (.cons (.var 5) (.cons (.var 6) .nil)))) .nil))) .nil))) (.cons (.set false 9 (.lc (.var 4) [("at", 4)] (.name 4 "at") (.of (.var 1)) (.cons (.not (.idx (.idx (.idx (.var 0) (.cst (.int 1))) (.var 4)) (.cst (.int 2)))) .nil))) (.cons (.ret (.ands (.cons (.cmp .Eq (.bin .Mod (.blt .len (.cons (.var 9) .nil)) (.cst (.int 2))) (.cst (.int 1))) (.cons (.cmp .NotEq (.lc (.var 10) [("pair", 10)] (.name 10 "pair") (.of (.var 2)) (.cons (.cmp .Eq (.idx (.var 10) (.cst (.int 0))) (.idx (.var 10) (.cst (.int 1)))) .nil)) (.lst .nil)) .nil)))) .nil))))
/- _law_groups: 0 facing 1 heads 2 turn 3 one 4 two 5 is_same 6 head -/
def b__law_groups : SL := (.cons (.set false 1 (.lrg1 false (.idx (.var 0) (.cst (.int 0))))) (.cons (.for_ (.name 2 "turn") (.rng1 (.idx (.var 0) (.cst (.int 0)))) (.cons (.for_ (.tup (.cons (.name 3 "one") (.cons (.name 4 "two") (.cons (.name 5 "is_same") .nil)))) (.of (.idx (.var 0) (.cst (.int 1)))) (.cons (.set false 1 (.lc (.ite (.cmp .In (.var 6) (.tup (.cons (.idx (.var 1) (.var 3)) (.cons (.idx (.var 1) (.var 4)) .nil)))) (.blt .min (.cons (.idx (.var 1) (.var 3)) (.cons (.idx (.var 1) (.var 4)) .nil))) (.var 6)) [("head", 6)] (.name 6 "head") (.of (.var 1)) .nil)) .nil)) .nil)) (.cons (.ret (.var 1)) .nil)))
/- is_tie: 0 value 1 many 2 piece -/
def b_is_tie : SL := (.cons (.ife (.ors (.cons (.not (.call "is_tuple" none (.cons (.var 0) (.cons (.cst (.int 3)) (.cons (.cst (.int 3)) .nil))) [] .nil)) (.cons (.not (.call "is_flag" none (.cons (.idx (.var 0) (.cst (.int 2))) .nil) [] .nil)) .nil))) (.cons (.ret (.cst (.bl false))) .nil) .nil) (.cons (.ret (.blt .all (.cons (.lc (.call "is_integer" none (.cons (.var 2) (.cons (.cst (.int 0)) (.cons (.bin .Sub (.var 1) (.cst (.int 1))) .nil))) [] .nil) [("piece", 2)] (.name 2 "piece") (.of (.slc (.var 0) .none (.some (.cst (.int 2))))) .nil) .nil))) .nil))
/- first_odd: 0 facing 1 left 2 lying 3 at 4 tie -/
def b_first_odd : SL := (.cons (.set false 2 (.idx (.call "spread" none (.cons (.var 0) (.cons (.var 1) .nil)) [] .nil) (.cst (.int 0)))) (.cons (.for_ (.tup (.cons (.name 3 "at") (.cons (.name 4 "tie") .nil))) (.enum (.idx (.var 0) (.cst (.int 1)))) (.cons (.ife (.ands (.cons (.cmp .NotIn (.var 3) (.var 1)) (.cons (.cmp .NotEq (.cmp .Eq (.idx (.var 2) (.idx (.var 4) (.cst (.int 0)))) (.idx (.var 2) (.idx (.var 4) (.cst (.int 1))))) (.idx (.var 4) (.cst (.int 2)))) .nil))) (.cons (.ret (.var 3)) .nil) .nil) .nil)) (.cons (.ret (.un .USub (.cst (.int 1)))) .nil)))
/- _law_facing: 0 row 1 many 2 sides 3 kind 4 piece 5 ties 6 turn 7 one 8 two 9 is_same -/
def b__law_facing : SL := (.cons (.set false 1 (.bin .Add (.cst (.int 1)) (.call "_law_taken" (some 0) (.cons (.cst (.int 8)) .nil) [] .nil))) (.cons (.par2 false 2 (.lc (.call "_law_taken" (some 0) (.cons (.cst (.int 2)) .nil) [] .nil) [("piece", 4)] (.name 4 "piece") (.rng1 (.var 1)) .nil) false 3 (.call "_law_taken" (some 0) (.cons (.cst (.int 3)) .nil) [] .nil)) (.cons (.set true 5 (.lst .nil)) (.cons (.for_ (.name 6 "turn") (.rng1 (.call "_law_taken" (some 0) (.cons (.ite (.cmp .Lt (.var 3) (.cst (.int 2))) (.cst (.int 15)) (.cst (.int 8))) .nil) [] .nil)) (.cons (.par2 false 7 (.call "_law_taken" (some 0) (.cons (.var 1) .nil) [] .nil) false 8 (.call "_law_taken" (some 0) (.cons (.var 1) .nil) [] .nil)) (.cons (.set false 9 (.cmp .Eq (.idx (.var 2) (.var 7)) (.idx (.var 2) (.var 8)))) (.cons (.ife (.ors (.cons (.ands (.cons (.cmp .Eq (.var 3) (.cst (.int 1))) (.cons (.cmp .Eq (.call "_law_taken" (some 0) (.cons (.cst (.int 4)) .nil) [] .nil) (.cst (.int 0))) .nil))) (.cons (.cmp .Eq (.var 3) (.cst (.int 2))) .nil))) (.cons (.set false 9 (.cmp .Eq (.call "_law_taken" (some 0) (.cons (.cst (.int 2)) .nil) [] .nil) (.cst (.int 0)))) .nil) .nil) (.cons (.app 5 (.tup (.cons (.var 7) (.cons (.var 8) (.cons (.var 9) .nil))))) .nil))))) (.cons (.ret (.tup (.cons (.var 1) (.cons (.blt .tuple (.cons (.rd 5) .nil)) .nil)))) .nil)))))
/- _law_cut: 0 facing 1 line 2 some 3 at -/
def b__law_cut : SL := (.cons (.set false 1 (.lst (.cons (.tup .nil) .nil))) (.cons (.whl (.cst (.bl true)) (.cons (.for_ (.name 2 "some") (.of (.var 1)) (.cons (.ife (.cmp .NotEq (.call "_law_ways" none (.cons (.var 0) (.cons (.var 2) .nil)) [] .nil) (.lst .nil)) (.cons (.ret (.var 2)) .nil) .nil) .nil)) (.cons (.set false 1 (.lc2 (.bin .Add (.var 2) (.tup (.cons (.var 3) .nil))) [("some", 2), ("at", 3)] (.name 2 "some") (.of (.var 1)) .nil [3] (.name 3 "at") (.rng1 (.blt .len (.cons (.idx (.var 0) (.cst (.int 1))) .nil))) (.cons (.ors (.cons (.cmp .Eq (.var 2) (.tup .nil)) (.cons (.cmp .Gt (.var 3) (.idx (.var 2) (.un .USub (.cst (.int 1))))) .nil))) .nil))) .nil))) .nil))
/- is_facing: 0 value 1 tie -/
def b_is_facing : SL := (.cons (.ife (.ors (.cons (.not (.call "is_tuple" none (.cons (.var 0) (.cons (.cst (.int 2)) (.cons (.cst (.int 2)) .nil))) [] .nil)) (.cons (.not (.call "is_integer" none (.cons (.idx (.var 0) (.cst (.int 0))) (.cons (.cst (.int 1)) (.cons (.glob "MOST_PIECES") .nil))) [] .nil)) (.cons (.not (.call "is_tuple" none (.cons (.idx (.var 0) (.cst (.int 1))) (.cons (.cst (.int 0)) (.cons (.glob "MOST_TIES") .nil))) [] .nil)) .nil)))) (.cons (.ret (.cst (.bl false))) .nil) .nil) (.cons (.ret (.blt .all (.cons (.lc (.call "is_tie" none (.cons (.var 1) (.cons (.idx (.var 0) (.cst (.int 0))) .nil)) [] .nil) [("tie", 1)] (.name 1 "tie") (.of (.idx (.var 0) (.cst (.int 1)))) .nil) .nil))) .nil))
/- lying: 0 facing -/
def b_lying : SL := (.cons (.ex (.call "demand" none (.cons (.call "is_facing" none (.cons (.var 0) .nil) [] .nil) (.cons (.cst (.str "facing")) .nil)) [] .nil)) (.cons (.ret (.ite (.cmp .GtE (.call "first_odd" none (.cons (.var 0) (.cons (.tup .nil) .nil)) [] .nil) (.cst (.int 0))) (.cst .non) (.blt .tuple (.cons (.idx (.call "spread" none (.cons (.var 0) (.cons (.tup .nil) .nil)) [] .nil) (.cst (.int 0))) .nil)))) .nil))
/- is_lying: 0 facing 1 value 2 tie -/
def b_is_lying : SL := (.cons (.ex (.call "demand" none (.cons (.call "is_facing" none (.cons (.var 0) .nil) [] .nil) (.cons (.cst (.str "facing")) .nil)) [] .nil)) (.cons (.ife (.not (.call "is_integers" none (.cons (.var 1) (.cons (.idx (.var 0) (.cst (.int 0))) (.cons (.cst (.int 0)) (.cons (.cst (.int 1)) .nil)))) [] .nil)) (.cons (.ret (.cst (.bl false))) .nil) .nil) (.cons (.ret (.blt .all (.cons (.lc (.cmp .Eq (.cmp .Eq (.idx (.var 1) (.idx (.var 2) (.cst (.int 0)))) (.idx (.var 1) (.idx (.var 2) (.cst (.int 1))))) (.idx (.var 2) (.cst (.int 2)))) [("tie", 2)] (.name 2 "tie") (.of (.idx (.var 0) (.cst (.int 1)))) .nil) .nil))) .nil)))
/- odd_round: 0 facing 1 at 2 ways 3 tie -/
def b_odd_round : SL := (.cons (.ex (.call "demand" none (.cons (.call "is_facing" none (.cons (.var 0) .nil) [] .nil) (.cons (.cst (.str "facing")) .nil)) [] .nil)) (.cons (.set false 1 (.call "first_odd" none (.cons (.var 0) (.cons (.tup .nil) .nil)) [] .nil)) (.cons (.ife (.cmp .Lt (.var 1) (.cst (.int 0))) (.cons (.ret (.cst .non)) .nil) .nil) (.cons (.par2 false 2 (.idx (.call "spread" none (.cons (.var 0) (.cons (.tup .nil) .nil)) [] .nil) (.cst (.int 2))) false 3 (.idx (.idx (.var 0) (.cst (.int 1))) (.var 1))) (.cons (.ret (.bin .Add (.bin .Add (.idx (.var 2) (.idx (.var 3) (.cst (.int 0)))) (.tup (.cons (.var 1) .nil))) (.sp .rev (.idx (.var 2) (.idx (.var 3) (.cst (.int 1))))))) .nil)))))
/- is_odd_round: 0 facing 1 value 2 many 3 at 4 start -/
def b_is_odd_round : SL := (.cons (.ex (.call "demand" none (.cons (.call "is_facing" none (.cons (.var 0) .nil) [] .nil) (.cons (.cst (.str "facing")) .nil)) [] .nil)) (.cons (.ife (.ors (.cons (.not (.call "is_tuple" none (.cons (.var 1) (.cons (.cst (.int 1)) (.cons (.cst (.int 40)) .nil))) [] .nil)) (.cons (.not (.call "is_integers" none (.cons (.var 1) (.cons (.blt .len (.cons (.var 1) .nil)) (.cons (.cst (.int 0)) (.cons (.bin .Sub (.blt .len (.cons (.idx (.var 0) (.cst (.int 1))) .nil)) (.cst (.int 1))) .nil)))) [] .nil)) .nil))) (.cons (.ret (.cst (.bl false))) .nil) .nil) (.cons (.set false 2 (.blt .len (.cons (.lc (.var 3) [("at", 3)] (.name 3 "at") (.of (.var 1)) (.cons (.not (.idx (.idx (.idx (.var 0) (.cst (.int 1))) (.var 3)) (.cst (.int 2)))) .nil)) .nil))) (.cons (.ret (.ands (.cons (.cmp .Eq (.bin .Mod (.var 2) (.cst (.int 2))) (.cst (.int 1))) (.cons (.blt .any (.cons (.lc (.call "goes_round" none (.cons (.var 0) (.cons (.var 1) (.cons (.var 4) .nil))) [] .nil) [("start", 4)] (.name 4 "start") (.rng1 (.idx (.var 0) (.cst (.int 0)))) .nil) .nil)) .nil)))) .nil))))
/- ways_to_lie: 0 facing 1 heads 2 piece -/
def b_ways_to_lie : SL := (.cons (.ex (.call "demand" none (.cons (.call "is_facing" none (.cons (.var 0) .nil) [] .nil) (.cons (.cst (.str "facing")) .nil)) [] .nil)) (.cons (.ife (.cmp .GtE (.call "first_odd" none (.cons (.var 0) (.cons (.tup .nil) .nil)) [] .nil) (.cst (.int 0))) (.cons (.ret (.cst (.int 0))) .nil) .nil) (.cons (.set false 1 (.idx (.call "spread" none (.cons (.var 0) (.cons (.tup .nil) .nil)) [] .nil) (.cst (.int 1)))) (.cons (.ret (.bin .LShift (.cst (.int 1)) (.blt .len (.cons (.lc (.var 2) [("piece", 2)] (.name 2 "piece") (.rng1 (.idx (.var 0) (.cst (.int 0)))) (.cons (.cmp .Eq (.idx (.var 1) (.var 2)) (.var 2)) .nil)) .nil)))) .nil))))
/- tied: 0 facing 1 one 2 other 3 found 4 heads 5 ways -/
def b_tied : SL := (.cons (.ex (.call "demand" none (.cons (.ands (.cons (.call "is_facing" none (.cons (.var 0) .nil) [] .nil) (.cons (.cmp .Lt (.call "first_odd" none (.cons (.var 0) (.cons (.tup .nil) .nil)) [] .nil) (.cst (.int 0))) .nil))) (.cons (.cst (.str "facing")) .nil)) [] .nil)) (.cons (.ex (.call "demand" none (.cons (.call "is_integer" none (.cons (.var 1) (.cons (.cst (.int 0)) (.cons (.bin .Sub (.idx (.var 0) (.cst (.int 0))) (.cst (.int 1))) .nil))) [] .nil) (.cons (.cst (.str "one")) .nil)) [] .nil)) (.cons (.ex (.call "demand" none (.cons (.call "is_integer" none (.cons (.var 2) (.cons (.cst (.int 0)) (.cons (.bin .Sub (.idx (.var 0) (.cst (.int 0))) (.cst (.int 1))) .nil))) [] .nil) (.cons (.cst (.str "other")) .nil)) [] .nil)) (.cons (.asg (.tup (.cons (.name 3 "found") (.cons (.name 4 "heads") (.cons (.name 5 "ways") .nil)))) (.call "spread" none (.cons (.var 0) (.cons (.tup .nil) .nil)) [] .nil)) (.cons (.ret (.ite (.cmp .Eq (.idx (.var 4) (.var 1)) (.idx (.var 4) (.var 2))) (.cmp .Eq (.idx (.var 3) (.var 1)) (.idx (.var 3) (.var 2))) (.cst .non))) .nil)))))
/- _law_judged: 0 row 1 facing 2 ways 3 steps 4 turn 5 way 6 piece 7 walk 8 step 9 some 10 odd -/
def b__law_judged : SL := (.cons (.for_ (.name 4 "turn") (.rng1 (.cst (.int 4))) (.cons (.set false 5 (.blt .tuple (.cons (.lc (.call "_law_taken" (some 0) (.cons (.cst (.int 2)) .nil) [] .nil) [("piece", 6)] (.name 6 "piece") (.rng1 (.idx (.var 1) (.cst (.int 0)))) .nil) .nil))) (.cons (.ife (.cmp .IsNot (.call "is_lying" none (.cons (.var 1) (.cons (.var 5) .nil)) [] .nil) (.cmp .In (.var 5) (.var 2))) (.cons (.ret (.cst (.bl false))) .nil) .nil) (.cons (.ife (.cmp .NotEq (.idx (.var 1) (.cst (.int 1))) (.tup .nil)) (.cons (.set false 7 (.blt .tuple (.cons (.lc (.call "_law_taken" (some 0) (.cons (.blt .len (.cons (.idx (.var 1) (.cst (.int 1))) .nil)) .nil) [] .nil) [("step", 8)] (.name 8 "step") (.rng1 (.bin .Add (.cst (.int 1)) (.call "_law_taken" (some 0) (.cons (.cst (.int 5)) .nil) [] .nil))) .nil) .nil))) (.cons (.ife (.cmp .IsNot (.call "is_odd_round" none (.cons (.var 1) (.cons (.var 7) .nil)) [] .nil) (.call "_law_round" none (.cons (.var 1) (.cons (.var 7) .nil)) [] .nil)) (.cons (.ret (.cst (.bl false))) .nil) .nil) .nil)) .nil) .nil)))) (.cons (.ife (.cmp .IsNot (.var 3) (.cst .non)) (.cons (.for_ (.name 9 "some") (.of (.tup (.cons (.var 3) (.cons (.bin .Add (.slc (.var 3) (.some (.cst (.int 1))) .none) (.slc (.var 3) .none (.some (.cst (.int 1))))) (.cons (.bin .Add (.var 3) (.var 3)) (.cons (.bin .Add (.var 3) (.slc (.var 3) .none (.some (.cst (.int 0))))) (.cons (.slc (.var 3) .none (.some (.un .USub (.cst (.int 1))))) .nil))))))) (.cons (.ife (.cmp .IsNot (.call "is_odd_round" none (.cons (.var 1) (.cons (.var 9) .nil)) [] .nil) (.ands (.cons (.cmp .NotEq (.var 9) (.tup .nil)) (.cons (.call "_law_round" none (.cons (.var 1) (.cons (.var 9) .nil)) [] .nil) .nil)))) (.cons (.ret (.cst (.bl false))) .nil) .nil) .nil)) .nil) .nil) (.cons (.set false 10 (.call "_law_pick" (some 0) (.cons (.lst (.cons (.cst .non) (.cons (.tup .nil) (.cons (.tup (.cons (.cst (.int 99)) .nil)) (.cons (.lst (.cons (.cst (.int 0)) .nil)) (.cons (.tup (.cons (.cst (.bl true)) .nil)) (.cons (.tup (.cons (.un .USub (.cst (.int 1))) .nil)) .nil))))))) .nil) [] .nil)) (.cons (.ret (.ands (.cons (.cmp .Is (.call "is_odd_round" none (.cons (.var 1) (.cons (.var 10) .nil)) [] .nil) (.cst (.bl false))) (.cons (.cmp .Is (.call "is_lying" none (.cons (.var 1) .nil) ["value"] (.cons (.bin .Mult (.tup (.cons (.cst (.int 2)) .nil)) (.idx (.var 1) (.cst (.int 0)))) .nil)) (.cst (.bl false))) (.cons (.cmp .Is (.call "is_lying" none (.cons (.var 1) (.cons (.cst .non) .nil)) [] .nil) (.cst (.bl false))) .nil))))) .nil))))
/- _law_tied: 0 row 1 facing 2 ways 3 one 4 two 5 seen 6 way 7 due 8 told -/
def b__law_tied : SL := (.cons (.asg (.tup (.cons (.name 3 "one") (.cons (.name 4 "two") .nil))) (.tup (.cons (.call "_law_taken" (some 0) (.cons (.idx (.var 1) (.cst (.int 0))) .nil) [] .nil) (.cons (.call "_law_taken" (some 0) (.cons (.idx (.var 1) (.cst (.int 0))) .nil) [] .nil) .nil)))) (.cons (.ife (.cmp .Eq (.var 2) (.lst .nil)) (.cons (.ret (.cmp .Eq (.told (.call "tied" none (.cons (.var 1) (.cons (.var 3) (.cons (.var 4) .nil))) [] .nil)) (.cst (.str "facing")))) .nil) .nil) (.cons (.set false 5 (.lc (.cmp .Eq (.idx (.var 6) (.var 3)) (.idx (.var 6) (.var 4))) [("way", 6)] (.name 6 "way") (.of (.var 2)) .nil)) (.cons (.set false 7 (.ite (.ands (.cons (.cmp .In (.cst (.bl true)) (.var 5)) (.cons (.cmp .In (.cst (.bl false)) (.var 5)) .nil))) (.cst .non) (.idx (.var 5) (.cst (.int 0))))) (.cons (.set false 8 (.lst (.cons (.told (.call "tied" none (.cons (.var 1) (.cons (.idx (.var 1) (.cst (.int 0))) (.cons (.var 4) .nil))) [] .nil)) (.cons (.told (.call "tied" none (.cons (.var 1) (.cons (.var 3) (.cons (.cst .non) .nil))) [] .nil)) .nil)))) (.cons (.ret (.ands (.cons (.call "_law_alike" none (.cons (.call "tied" none (.cons (.var 1) (.cons (.var 3) .nil)) ["other"] (.cons (.var 4) .nil)) (.cons (.var 7) .nil)) [] .nil) (.cons (.cmp .Eq (.var 8) (.lst (.cons (.cst (.str "one")) (.cons (.cst (.str "other")) .nil)))) .nil)))) .nil))))))
/- chosen: 0 many 1 size 2 found 3 some 4 at -/
def b_chosen : SL := (.cons (.ife (.cmp .Eq (.var 1) (.cst (.int 0))) (.cons (.ret (.lst (.cons (.tup .nil) .nil))) .nil) .nil) (.cons (.set true 2 (.lst .nil)) (.cons (.for_ (.name 3 "some") (.of (.call "chosen" none (.cons (.var 0) (.cons (.bin .Sub (.var 1) (.cst (.int 1))) .nil)) [] .nil)) (.cons (.ext 2 (.lc (.bin .Add (.var 3) (.tup (.cons (.var 4) .nil))) [("at", 4)] (.name 4 "at") (.rng2 (.ite (.var 3) (.bin .Add (.idx (.var 3) (.un .USub (.cst (.int 1)))) (.cst (.int 1))) (.cst (.int 0))) (.var 0)) .nil)) .nil)) (.frz 2 (.cons (.ret (.var 2)) .nil)))))
/- subsets: 0 many 1 size -/
def b_subsets : SL := (.cons (.ex (.call "demand" none (.cons (.call "is_integer" none (.cons (.var 0) (.cons (.cst (.int 0)) (.cons (.glob "MOST_TIES") .nil))) [] .nil) (.cons (.cst (.str "many")) .nil)) [] .nil)) (.cons (.ex (.call "demand" none (.cons (.call "is_integer" none (.cons (.var 1) (.cons (.cst (.int 0)) (.cons (.glob "MOST_TIES") .nil))) [] .nil) (.cons (.cst (.str "size")) .nil)) [] .nil)) (.cons (.ret (.blt .tuple (.cons (.call "chosen" none (.cons (.var 0) (.cons (.var 1) .nil)) [] .nil) .nil))) .nil)))
/- fewest_cut: 0 facing 1 size 2 some -/
def b_fewest_cut : SL := (.cons (.ex (.call "demand" none (.cons (.call "is_facing" none (.cons (.var 0) .nil) [] .nil) (.cons (.cst (.str "facing")) .nil)) [] .nil)) (.cons (.set false 1 (.cst (.int 0))) (.cons (.whl (.cst (.bl true)) (.cons (.for_ (.name 2 "some") (.of (.call "chosen" none (.cons (.blt .len (.cons (.idx (.var 0) (.cst (.int 1))) .nil)) (.cons (.var 1) .nil)) [] .nil)) (.cons (.ife (.cmp .Lt (.call "first_odd" none (.cons (.var 0) (.cons (.var 2) .nil)) [] .nil) (.cst (.int 0))) (.cons (.ret (.var 2)) .nil) .nil) .nil)) (.cons (.aug .Add 1 (.cst (.int 1))) .nil))) .nil)))
/- _law_case: 0 row 1 facing 2 ways 3 heads 4 found 5 steps 6 wrong 7 piece 8 many 9 size 10 line 11 turn 12 some 13 at 14 odd 15 told 16 due -/
def b__law_case_0 : S := (.set false 1 (.call "_law_facing" (some 0) .nil [] .nil))
def b__law_case_1 : S := (.asg (.tup (.cons (.name 2 "ways") (.cons (.name 3 "heads") .nil))) (.tup (.cons (.call "_law_ways" none (.cons (.var 1) (.cons (.tup .nil) .nil)) [] .nil) (.cons (.call "_law_groups" none (.cons (.var 1) .nil) [] .nil) .nil))))
def b__law_case_2 : S := (.asg (.tup (.cons (.name 4 "found") (.cons (.name 5 "steps") .nil))) (.tup (.cons (.call "lying" none (.cons (.var 1) .nil) [] .nil) (.cons (.call "odd_round" none (.cons (.var 1) .nil) [] .nil) .nil))))
def b__law_case_3 : S := (.ife (.ors (.cons (.not (.call "_law_alike" none (.cons (.call "ways_to_lie" none (.cons (.var 1) .nil) [] .nil) (.cons (.blt .len (.cons (.var 2) .nil)) .nil)) [] .nil)) (.cons (.cmp .NotEq (.cmp .Is (.var 4) (.cst .non)) (.cmp .Eq (.var 2) (.lst .nil))) (.cons (.cmp .NotEq (.cmp .Is (.var 5) (.cst .non)) (.cmp .NotEq (.var 2) (.lst .nil))) .nil)))) (.cons (.ret (.cst (.bl false))) .nil) .nil)
def b__law_case_4 : S := (.set false 6 (.lc (.var 7) [("piece", 7)] (.name 7 "piece") (.rng1 (.idx (.var 1) (.cst (.int 0)))) (.cons (.ands (.cons (.cmp .IsNot (.var 4) (.cst .non)) (.cons (.cmp .Eq (.idx (.var 3) (.var 7)) (.var 7)) (.cons (.cmp .NotEq (.idx (.var 4) (.var 7)) (.cst (.int 0))) .nil)))) .nil)))
def b__law_case_5 : S := (.ife (.ands (.cons (.cmp .IsNot (.var 4) (.cst .non)) (.cons (.ors (.cons (.cmp .NotIn (.var 4) (.var 2)) (.cons (.cmp .NotEq (.var 6) (.lst .nil)) .nil))) .nil))) (.cons (.ret (.cst (.bl false))) .nil) .nil)
def b__law_case_6 : S := (.ife (.ands (.cons (.cmp .IsNot (.var 5) (.cst .non)) (.cons (.ors (.cons (.not (.call "_law_round" none (.cons (.var 1) (.cons (.var 5) .nil)) [] .nil)) (.cons (.not (.call "is_odd_round" none (.cons (.var 1) (.cons (.var 5) .nil)) [] .nil)) .nil))) .nil))) (.cons (.ret (.cst (.bl false))) .nil) .nil)
def b__law_case_7 : S := (.ife (.ors (.cons (.not (.call "_law_tied" (some 0) (.cons (.var 1) (.cons (.var 2) .nil)) [] .nil)) (.cons (.not (.call "_law_judged" (some 0) (.cons (.var 1) (.cons (.var 2) (.cons (.var 5) .nil))) [] .nil)) .nil))) (.cons (.ret (.cst (.bl false))) .nil) .nil)
def b__law_case_8 : S := (.ife (.ands (.cons (.cmp .LtE (.blt .len (.cons (.idx (.var 1) (.cst (.int 1))) .nil)) (.cst (.int 8))) (.cons (.not (.call "_law_alike" none (.cons (.call "fewest_cut" none (.cons (.var 1) .nil) [] .nil) (.cons (.call "_law_cut" none (.cons (.var 1) .nil) [] .nil) .nil)) [] .nil)) .nil))) (.cons (.ret (.cst (.bl false))) .nil) .nil)
def b__law_case_9 : S := (.asg (.tup (.cons (.name 8 "many") (.cons (.name 9 "size") .nil))) (.tup (.cons (.call "_law_taken" (some 0) (.cons (.cst (.int 6)) .nil) [] .nil) (.cons (.call "_law_taken" (some 0) (.cons (.cst (.int 5)) .nil) [] .nil) .nil))))
def b__law_case_10 : S := (.set false 10 (.lst (.cons (.tup .nil) .nil)))
def b__law_case_11 : S := (.for_ (.name 11 "turn") (.rng1 (.var 9)) (.cons (.set false 10 (.lc2 (.bin .Add (.var 12) (.tup (.cons (.var 13) .nil))) [("some", 12), ("at", 13)] (.name 12 "some") (.of (.var 10)) .nil [13] (.name 13 "at") (.rng1 (.var 8)) (.cons (.ors (.cons (.cmp .Eq (.var 12) (.tup .nil)) (.cons (.cmp .Gt (.var 13) (.idx (.var 12) (.un .USub (.cst (.int 1))))) .nil))) .nil))) .nil))
def b__law_case_12 : S := (.set false 14 (.call "_law_pick" (some 0) (.cons (.lst (.cons (.cst .non) (.cons (.tup (.cons (.cst (.int 0)) (.cons (.tup .nil) .nil))) (.cons (.tup (.cons (.cst (.int 9)) (.cons (.tup .nil) .nil))) (.cons (.tup (.cons (.cst (.int 2)) (.cons (.tup (.cons (.tup (.cons (.cst (.int 0)) (.cons (.cst (.int 2)) (.cons (.cst (.bl true)) .nil)))) .nil)) .nil))) (.cons (.tup (.cons (.cst (.int 2)) (.cons (.tup (.cons (.tup (.cons (.cst (.int 0)) (.cons (.cst (.int 1)) (.cons (.cst (.int 1)) .nil)))) .nil)) .nil))) (.cons (.lst (.cons (.cst (.int 1)) (.cons (.tup .nil) .nil))) (.cons (.tup (.cons (.cst (.int 1)) (.cons (.tup (.cons (.tup (.cons (.cst (.int 0)) (.cons (.cst (.int 0)) .nil))) .nil)) .nil))) .nil)))))))) .nil) [] .nil))
def b__law_case_13 : S := (.set false 15 (.lst (.cons (.told (.call "lying" none (.cons (.var 14) .nil) [] .nil)) (.cons (.told (.call "odd_round" none (.cons (.var 14) .nil) [] .nil)) (.cons (.told (.call "ways_to_lie" none (.cons (.var 14) .nil) [] .nil)) (.cons (.told (.call "fewest_cut" none (.cons (.var 14) .nil) [] .nil)) (.cons (.told (.call "subsets" none (.cons (.cst (.int 15)) (.cons (.cst (.int 0)) .nil)) [] .nil)) (.cons (.told (.call "subsets" none (.cons (.cst (.int 3)) (.cons (.un .USub (.cst (.int 1))) .nil)) [] .nil)) .nil))))))))
def b__law_case_14 : S := (.set false 16 (.lst (.cons (.cst (.str "facing")) (.cons (.cst (.str "facing")) (.cons (.cst (.str "facing")) (.cons (.cst (.str "facing")) (.cons (.cst (.str "many")) (.cons (.cst (.str "size")) .nil))))))))
def b__law_case_15 : S := (.ret (.ands (.cons (.call "_law_alike" none (.cons (.call "subsets" none (.cons (.var 8) .nil) ["size"] (.cons (.var 9) .nil)) (.cons (.blt .tuple (.cons (.var 10) .nil)) .nil)) [] .nil) (.cons (.cmp .Eq (.var 15) (.var 16)) (.cons (.cmp .Is (.call "is_facing" none (.cons (.var 1) .nil) [] .nil) (.cst (.bl true))) (.cons (.cmp .Is (.call "is_facing" none (.cons (.var 14) .nil) [] .nil) (.cst (.bl false))) .nil))))))
def b__law_case : SL := (.cons b__law_case_0 (.cons b__law_case_1 (.cons b__law_case_2 (.cons b__law_case_3 (.cons b__law_case_4 (.cons b__law_case_5 (.cons b__law_case_6 (.cons b__law_case_7 (.cons b__law_case_8 (.cons b__law_case_9 (.cons b__law_case_10 (.cons b__law_case_11 (.cons b__law_case_12 (.cons b__law_case_13 (.cons b__law_case_14 (.cons b__law_case_15 .nil))))))))))))))))
theorem sc__law_alike : FnScope ["found", "due", "at"] ["found", "due"] (defScope s__law_alike) := ⟨rfl, rfl, rfl, by decide +kernel, rfl, by decide +kernel, by decide +kernel⟩
theorem ck__law_alike : chkSs ["found", "due", "at"] (defScope s__law_alike) false b__law_alike (defBody s__law_alike) = true := by decide +kernel
theorem sc_is_integer : FnScope ["value", "least", "most"] ["value", "least", "most"] (defScope s_is_integer) := ⟨rfl, rfl, rfl, by decide +kernel, rfl, by decide +kernel, by decide +kernel⟩
theorem ck_is_integer : chkSs ["value", "least", "most"] (defScope s_is_integer) false b_is_integer (defBody s_is_integer) = true := by decide +kernel
theorem sc_is_tuple : FnScope ["value", "least", "most"] ["value", "least", "most"] (defScope s_is_tuple) := ⟨rfl, rfl, rfl, by decide +kernel, rfl, by decide +kernel, by decide +kernel⟩
theorem ck_is_tuple : chkSs ["value", "least", "most"] (defScope s_is_tuple) false b_is_tuple (defBody s_is_tuple) = true := by decide +kernel
theorem sc_is_flag : FnScope ["value"] ["value"] (defScope s_is_flag) := ⟨rfl, rfl, rfl, by decide +kernel, rfl, by decide +kernel, by decide +kernel⟩
theorem ck_is_flag : chkSs ["value"] (defScope s_is_flag) false b_is_flag (defBody s_is_flag) = true := by decide +kernel
theorem sc_spread : FnScope ["facing", "left", "lying", "heads", "ways", "first", "line", "piece", "at", "tie", "other"] ["facing", "left"] (defScope s_spread) := ⟨rfl, rfl, rfl, by decide +kernel, rfl, by decide +kernel, by decide +kernel⟩
theorem ck_spread : chkSs ["facing", "left", "lying", "heads", "ways", "first", "line", "piece", "at", "tie", "other"] (defScope s_spread) false b_spread (defBody s_spread) = true := by decide +kernel
theorem sc_goes_round : FnScope ["facing", "steps", "start", "here", "at", "tie"] ["facing", "steps", "start"] (defScope s_goes_round) := ⟨rfl, rfl, rfl, by decide +kernel, rfl, by decide +kernel, by decide +kernel⟩
theorem ck_goes_round : chkSs ["facing", "steps", "start", "here", "at", "tie"] (defScope s_goes_round) false b_goes_round (defBody s_goes_round) = true := by decide +kernel
theorem sc__law_ways : FnScope ["facing", "left", "found", "piece", "some", "side", "at", "tie"] ["facing", "left"] (defScope s__law_ways) := ⟨rfl, rfl, rfl, by decide +kernel, rfl, by decide +kernel, by decide +kernel⟩
theorem ck__law_ways : chkSs ["facing", "left", "found", "piece", "some", "side", "at", "tie"] (defScope s__law_ways) false b__law_ways (defBody s__law_ways) = true := by decide +kernel
theorem sc__law_round : FnScope ["facing", "steps", "ends", "start", "at", "one", "two", "is_same", "here", "odd", "pair"] ["facing", "steps"] (defScope s__law_round) := ⟨rfl, rfl, rfl, by decide +kernel, rfl, by decide +kernel, by decide +kernel⟩
theorem ck__law_round : chkSs ["facing", "steps", "ends", "start", "at", "one", "two", "is_same", "here", "odd", "pair"] (defScope s__law_round) false b__law_round (defBody s__law_round) = true := by decide +kernel
theorem sc__law_groups : FnScope ["facing", "heads", "turn", "one", "two", "is_same", "head"] ["facing"] (defScope s__law_groups) := ⟨rfl, rfl, rfl, by decide +kernel, rfl, by decide +kernel, by decide +kernel⟩
theorem ck__law_groups : chkSs ["facing", "heads", "turn", "one", "two", "is_same", "head"] (defScope s__law_groups) false b__law_groups (defBody s__law_groups) = true := by decide +kernel
theorem sc_is_integers : FnScope ["value", "many", "least", "most", "one"] ["value", "many", "least", "most"] (defScope s_is_integers) := ⟨rfl, rfl, rfl, by decide +kernel, rfl, by decide +kernel, by decide +kernel⟩
theorem ck_is_integers : chkSs ["value", "many", "least", "most", "one"] (defScope s_is_integers) false b_is_integers (defBody s_is_integers) = true := by decide +kernel
theorem sc_is_tie : FnScope ["value", "many", "piece"] ["value", "many"] (defScope s_is_tie) := ⟨rfl, rfl, rfl, by decide +kernel, rfl, by decide +kernel, by decide +kernel⟩
theorem ck_is_tie : chkSs ["value", "many", "piece"] (defScope s_is_tie) false b_is_tie (defBody s_is_tie) = true := by decide +kernel
theorem sc_first_odd : FnScope ["facing", "left", "lying", "at", "tie"] ["facing", "left"] (defScope s_first_odd) := ⟨rfl, rfl, rfl, by decide +kernel, rfl, by decide +kernel, by decide +kernel⟩
theorem ck_first_odd : chkSs ["facing", "left", "lying", "at", "tie"] (defScope s_first_odd) false b_first_odd (defBody s_first_odd) = true := by decide +kernel
theorem sc__law_pick : FnScope ["row", "some"] ["row", "some"] (defScope s__law_pick) := ⟨rfl, rfl, rfl, by decide +kernel, rfl, by decide +kernel, by decide +kernel⟩
theorem ck__law_pick : chkSs ["row", "some"] (defScope s__law_pick) false b__law_pick (defBody s__law_pick) = true := by decide +kernel
theorem sc__law_facing : FnScope ["row", "many", "sides", "kind", "piece", "ties", "turn", "one", "two", "is_same"] ["row"] (defScope s__law_facing) := ⟨rfl, rfl, rfl, by decide +kernel, rfl, by decide +kernel, by decide +kernel⟩
theorem ck__law_facing : chkSs ["row", "many", "sides", "kind", "piece", "ties", "turn", "one", "two", "is_same"] (defScope s__law_facing) false b__law_facing (defBody s__law_facing) = true := by decide +kernel
theorem sc__law_cut : FnScope ["facing", "line", "some", "at"] ["facing"] (defScope s__law_cut) := ⟨rfl, rfl, rfl, by decide +kernel, rfl, by decide +kernel, by decide +kernel⟩
theorem ck__law_cut : chkSs ["facing", "line", "some", "at"] (defScope s__law_cut) false b__law_cut (defBody s__law_cut) = true := by decide +kernel
theorem sc_is_facing : FnScope ["value", "tie"] ["value"] (defScope s_is_facing) := ⟨rfl, rfl, rfl, by decide +kernel, rfl, by decide +kernel, by decide +kernel⟩
theorem ck_is_facing : chkSs ["value", "tie"] (defScope s_is_facing) false b_is_facing (defBody s_is_facing) = true := by decide +kernel
theorem sc_lying : FnScope ["facing"] ["facing"] (defScope s_lying) := ⟨rfl, rfl, rfl, by decide +kernel, rfl, by decide +kernel, by decide +kernel⟩
theorem ck_lying : chkSs ["facing"] (defScope s_lying) false b_lying (defBody s_lying) = true := by decide +kernel
theorem sc_is_lying : FnScope ["facing", "value", "tie"] ["facing", "value"] (defScope s_is_lying) := ⟨rfl, rfl, rfl, by decide +kernel, rfl, by decide +kernel, by decide +kernel⟩
theorem ck_is_lying : chkSs ["facing", "value", "tie"] (defScope s_is_lying) false b_is_lying (defBody s_is_lying) = true := by decide +kernel
theorem sc_odd_round : FnScope ["facing", "at", "ways", "tie"] ["facing"] (defScope s_odd_round) := ⟨rfl, rfl, rfl, by decide +kernel, rfl, by decide +kernel, by decide +kernel⟩
theorem ck_odd_round : chkSs ["facing", "at", "ways", "tie"] (defScope s_odd_round) false b_odd_round (defBody s_odd_round) = true := by decide +kernel
theorem sc_is_odd_round : FnScope ["facing", "value", "many", "at", "start"] ["facing", "value"] (defScope s_is_odd_round) := ⟨rfl, rfl, rfl, by decide +kernel, rfl, by decide +kernel, by decide +kernel⟩
theorem ck_is_odd_round : chkSs ["facing", "value", "many", "at", "start"] (defScope s_is_odd_round) false b_is_odd_round (defBody s_is_odd_round) = true := by decide +kernel
theorem sc_ways_to_lie : FnScope ["facing", "heads", "piece"] ["facing"] (defScope s_ways_to_lie) := ⟨rfl, rfl, rfl, by decide +kernel, rfl, by decide +kernel, by decide +kernel⟩
theorem ck_ways_to_lie : chkSs ["facing", "heads", "piece"] (defScope s_ways_to_lie) false b_ways_to_lie (defBody s_ways_to_lie) = true := by decide +kernel
theorem sc_tied : FnScope ["facing", "one", "other", "found", "heads", "ways"] ["facing", "one", "other"] (defScope s_tied) := ⟨rfl, rfl, rfl, by decide +kernel, rfl, by decide +kernel, by decide +kernel⟩
theorem ck_tied : chkSs ["facing", "one", "other", "found", "heads", "ways"] (defScope s_tied) false b_tied (defBody s_tied) = true := by decide +kernel
theorem sc__law_judged : FnScope ["row", "facing", "ways", "steps", "turn", "way", "piece", "walk", "step", "some", "odd"] ["row", "facing", "ways", "steps"] (defScope s__law_judged) := ⟨rfl, rfl, rfl, by decide +kernel, rfl, by decide +kernel, by decide +kernel⟩
theorem ck__law_judged : chkSs ["row", "facing", "ways", "steps", "turn", "way", "piece", "walk", "step", "some", "odd"] (defScope s__law_judged) false b__law_judged (defBody s__law_judged) = true := by decide +kernel
theorem sc__law_tied : FnScope ["row", "facing", "ways", "one", "two", "seen", "way", "due", "told"] ["row", "facing", "ways"] (defScope s__law_tied) := ⟨rfl, rfl, rfl, by decide +kernel, rfl, by decide +kernel, by decide +kernel⟩
theorem ck__law_tied : chkSs ["row", "facing", "ways", "one", "two", "seen", "way", "due", "told"] (defScope s__law_tied) true b__law_tied (defBody s__law_tied) = true := by decide +kernel
theorem sc_chosen : FnScope ["many", "size", "found", "some", "at"] ["many", "size"] (defScope s_chosen) := ⟨rfl, rfl, rfl, by decide +kernel, rfl, by decide +kernel, by decide +kernel⟩
theorem ck_chosen : chkSs ["many", "size", "found", "some", "at"] (defScope s_chosen) false b_chosen (defBody s_chosen) = true := by decide +kernel
theorem sc_subsets : FnScope ["many", "size"] ["many", "size"] (defScope s_subsets) := ⟨rfl, rfl, rfl, by decide +kernel, rfl, by decide +kernel, by decide +kernel⟩
theorem ck_subsets : chkSs ["many", "size"] (defScope s_subsets) false b_subsets (defBody s_subsets) = true := by decide +kernel
theorem sc_fewest_cut : FnScope ["facing", "size", "some"] ["facing"] (defScope s_fewest_cut) := ⟨rfl, rfl, rfl, by decide +kernel, rfl, by decide +kernel, by decide +kernel⟩
theorem ck_fewest_cut : chkSs ["facing", "size", "some"] (defScope s_fewest_cut) false b_fewest_cut (defBody s_fewest_cut) = true := by decide +kernel
theorem sc__law_case : FnScope ["row", "facing", "ways", "heads", "found", "steps", "wrong", "piece", "many", "size", "line", "turn", "some", "at", "odd", "told", "due"] ["row"] (defScope s__law_case) := ⟨rfl, rfl, rfl, by decide +kernel, rfl, by decide +kernel, by decide +kernel⟩
theorem ck__law_case : chkSs ["row", "facing", "ways", "heads", "found", "steps", "wrong", "piece", "many", "size", "line", "turn", "some", "at", "odd", "told", "due"] (defScope s__law_case) true b__law_case (defBody s__law_case) = true := by decide +kernel
theorem sc_demand : FnScope ["is_right", "name"] ["is_right", "name"] (defScope s_demand) := ⟨rfl, rfl, rfl, by decide +kernel, rfl, by decide +kernel, by decide +kernel⟩
theorem sc__law_taken : FnScope ["row", "many", "found", "cell"] ["row", "many"] (defScope s__law_taken) := ⟨rfl, rfl, rfl, by decide +kernel, rfl, by decide +kernel, by decide +kernel⟩
theorem sc__law_refused : FnScope ["call", "e"] ["call"] (defScope s__law_refused) := ⟨rfl, rfl, rfl, by decide +kernel, rfl, by decide +kernel, by decide +kernel⟩
theorem sc_law : FnScope ["script", "row", "turn"] ["script"] (defScope s_law) := ⟨rfl, rfl, rfl, by decide +kernel, rfl, by decide +kernel, by decide +kernel⟩
theorem sc_init : FnScope ["self", "name"] ["self", "name"] (defScope s_init) := ⟨rfl, rfl, rfl, by decide +kernel, rfl, by decide +kernel, by decide +kernel⟩
end Dl

set_option Elab.async false
set_option linter.all false
set_option maxRecDepth 100000
set_option maxHeartbeats 8000000
namespace Dl
open PySem PySem.Spec PyProof.Rows L2
/-! ### ties, and the forest of them -/
abbrev Tie := Nat × Nat × Bool
structure Fs where
  y : Nat → Int
  h : Nat → Nat
  w : Nat → List Int
  line : List Nat
def upN {α : Type} (f : Nat → α) (i : Nat) (v : α) : Nat → α := fun j => if j = i then v else f j
theorem upN_same {α : Type} {f : Nat → α} {i : Nat} {v : α} : upN f i v i = v := if_pos rfl
theorem upN_ne {α : Type} {f : Nat → α} {i j : Nat} {v : α} (h : j ≠ i) : upN f i v j = f j := if_neg h
/-- the other end of a tie -/
def oth (t : Tie) (p : Nat) : Nat := if t.1 = p then t.2.1 else t.1
def isAt (t : Tie) (p : Nat) : Prop := p = t.1 ∨ p = t.2.1
instance (t : Tie) (p : Nat) : Decidable (isAt t p) := inferInstanceAs (Decidable (_ ∨ _))
/-- what one tie does when a piece is visited -/
def stepT (lf : List Int) (first p : Nat) (s : Fs) (at_ : Nat) (t : Tie) : Fs :=
  if (at_ : Int) ∉ lf ∧ isAt t p ∧ s.y (oth t p) < 0 then
    { y := upN s.y (oth t p) (if t.2.2 = true then s.y p else 1 - s.y p), h := upN s.h (oth t p) first, w := upN s.w (oth t p) (s.w p ++ [(at_ : Int)]), line := s.line ++ [oth t p] }
  else s
/-- the ties from the i-th on -/
def visitT (lf : List Int) (first p : Nat) : Nat → List Tie → Fs → Fs
  | _, [], s => s
  | i, t :: r, s => visitT lf first p (i + 1) r (stepT lf first p s i t)
def loopT (T : List Tie) (lf : List Int) (first : Nat) : Nat → Fs → Fs
  | 0, s => s
  | f + 1, s => match s.line with
    | [] => s
    | p :: r => loopT T lf first f (visitT lf first p 0 T { s with line := r })
def rootT (n : Nat) (T : List Tie) (lf : List Int) (s : Fs) (first : Nat) : Fs :=
  if s.y first < 0 then loopT T lf first (n + 1) { y := upN s.y first 0, h := upN s.h first first, w := s.w, line := [first] } else s
def fs0 : Fs := ⟨fun _ => -1, fun _ => 0, fun _ => [], []⟩
def sprT (n : Nat) (T : List Tie) (lf : List Int) : Fs := (List.range n).foldl (rootT n T lf) fs0
/-! ### paths -/
def b2i (b : Bool) : Int := if b = true then 1 else 0
/-- from a along steps to b, with this parity -/
inductive Pth (T : List Tie) (lf : List Int) (a : Nat) : List Int → Nat → Int → Prop
  | nil : Pth T lf a [] a 0
  | snoc {s : List Int} {b : Nat} {x : Int} {i : Nat} {t : Tie} : Pth T lf a s b x → T[i]? = some t → (i : Int) ∉ lf → isAt t b → Pth T lf a (s ++ [(i : Int)]) (oth t b) (if t.2.2 = true then x else 1 - x)
theorem Pth.par {T : List Tie} {lf : List Int} {a b : Nat} {s : List Int} {x : Int} (h : Pth T lf a s b x) : x = 0 ∨ x = 1 := by
  induction h with
  | nil => exact .inl rfl
  | snoc _ _ _ _ ih => split <;> omega
theorem isAt_oth {t : Tie} {p : Nat} (h : isAt t p) : isAt t (oth t p) ∧ oth t (oth t p) = p := by
  unfold isAt at *
  unfold oth
  rcases h with h | h
  · rw [if_pos h.symm]
    refine ⟨.inr rfl, ?_⟩
    by_cases c : t.1 = t.2.1
    · rw [if_pos c]; omega
    · rw [if_neg c]; omega
  · by_cases c : t.1 = p
    · rw [if_pos c]
      refine ⟨.inr rfl, ?_⟩
      rw [if_pos (by omega)]; omega
    · rw [if_neg c]
      exact ⟨.inl rfl, by rw [if_pos rfl]; omega⟩
/-- how many pieces below n are not reached -/
def unl (n : Nat) (s : Fs) : Nat := ((List.range n).filter fun p => decide (s.y p < 0)).length
/-- what holds while pieces are reached from first on; cur: the piece that is visited, and the ties that are done of it -/
structure InvT (n : Nat) (T : List Tie) (lf : List Int) (first : Nat) (s : Fs) (cur : Option (Nat × Nat)) : Prop where
  ylow : ∀ p, s.y p = -1 ∨ s.y p = 0 ∨ s.y p = 1
  lt : ∀ p, 0 ≤ s.y p → p < n
  path : ∀ p, 0 ≤ s.y p → Pth T lf (s.h p) (s.w p) p (s.y p) ∧ s.h p ≤ p ∧ s.h p ≤ first ∧ (s.w p).length + unl n s + 1 ≤ n
  head : ∀ p, 0 ≤ s.y p → s.y (s.h p) = 0 ∧ s.h (s.h p) = s.h p ∧ s.w (s.h p) = []
  line : ∀ p ∈ s.line, 0 ≤ s.y p ∧ s.h p = first
  done : ∀ p, 0 ≤ s.y p → p ∉ s.line → (∀ c, cur = some c → p ≠ c.1) → ∀ (i : Nat) (t : Tie), T[i]? = some t → (i : Int) ∉ lf → isAt t p → 0 ≤ s.y (oth t p) ∧ s.h (oth t p) = s.h p
  curr : ∀ c, cur = some c → (0 ≤ s.y c.1 ∧ s.h c.1 = first) ∧ ∀ (i : Nat) (t : Tie), T[i]? = some t → (i : Int) ∉ lf → i < c.2 → isAt t c.1 → 0 ≤ s.y (oth t c.1) ∧ s.h (oth t c.1) = first
  fresh : ∀ p, p < first → 0 ≤ s.y p
  root : 0 ≤ s.y first ∧ s.h first = first
  wun : ∀ p, s.y p < 0 → s.w p = []
theorem unl_upN {n : Nat} {s : Fs} {o : Nat} {v : Int} (ho : o < n) (h : s.y o < 0) (hv : 0 ≤ v) {h' : Nat → Nat} {w' : Nat → List Int} {l' : List Nat} : unl n { y := upN s.y o v, h := h', w := w', line := l' } + 1 = unl n s := by
  unfold unl
  have e : (List.range n).filter (fun p => decide (s.y p < 0)) = (List.range o).filter (fun p => decide (s.y p < 0)) ++ o :: ((List.range' (o + 1) (n - (o + 1))).filter fun p => decide (s.y p < 0)) := by
    have : List.range n = List.range o ++ o :: List.range' (o + 1) (n - (o + 1)) := by
      rw [List.range_eq_range', List.range_eq_range', show n = o + (1 + (n - (o + 1))) by omega, ← List.range'_append_1, Nat.zero_add, ← List.range'_append_1]
      congr 2
      show [o] ++ _ = o :: _
      rw [show o + (1 + (n - (o + 1))) - (o + 1) = n - (o + 1) by omega]; rfl
    rw [this, List.filter_append, List.filter_cons, if_pos (by simpa using h)]
  have e2 : (List.range n).filter (fun p => decide (upN s.y o v p < 0)) = (List.range o).filter (fun p => decide (s.y p < 0)) ++ ((List.range' (o + 1) (n - (o + 1))).filter fun p => decide (s.y p < 0)) := by
    have : List.range n = List.range o ++ o :: List.range' (o + 1) (n - (o + 1)) := by
      rw [List.range_eq_range', List.range_eq_range', show n = o + (1 + (n - (o + 1))) by omega, ← List.range'_append_1, Nat.zero_add, ← List.range'_append_1]
      congr 2
      show [o] ++ _ = o :: _
      rw [show o + (1 + (n - (o + 1))) - (o + 1) = n - (o + 1) by omega]; rfl
    rw [this, List.filter_append, List.filter_cons, if_neg (by simp [upN_same]; omega)]
    congr 1
    · refine List.filter_congr fun p hp => ?_
      have := List.mem_range.mp hp
      rw [upN_ne (by omega)]
    · refine List.filter_congr fun p hp => ?_
      have := List.mem_range'_1.mp hp
      rw [upN_ne (by omega)]
  rw [e, e2]
  simp
  omega
theorem stepT_inv {n : Nat} {T : List Tie} {lf : List Int} {first : Nat} {s : Fs} {p i : Nat} {t : Tie} (hT : ∀ t ∈ T, t.1 < n ∧ t.2.1 < n) (I : InvT n T lf first s (some (p, i))) (ht : T[i]? = some t) :
    InvT n T lf first (stepT lf first p s i t) (some (p, i + 1)) ∧ unl n (stepT lf first p s i t) + (stepT lf first p s i t).line.length = unl n s + s.line.length := by
  obtain ⟨⟨c1, c2⟩, c3⟩ := I.curr _ rfl
  have hm := hT t (List.mem_of_getElem? ht)
  unfold stepT
  by_cases c : (i : Int) ∉ lf ∧ isAt t p ∧ s.y (oth t p) < 0
  · rw [if_pos c]
    obtain ⟨k1, k2, k3⟩ := c
    have ho : oth t p < n := by unfold oth; split <;> omega
    have hne : ∀ q, 0 ≤ s.y q → q ≠ oth t p := fun q hq z => by rw [z] at hq; omega
    have hv : (if t.2.2 = true then s.y p else 1 - s.y p) = 0 ∨ (if t.2.2 = true then s.y p else 1 - s.y p) = 1 := by
      have := I.ylow p
      have c1 : 0 ≤ s.y p := c1
      split <;> omega
    have hu := unl_upN (s := s) (h' := upN s.h (oth t p) first) (w' := upN s.w (oth t p) (s.w p ++ [(i : Int)])) (l' := s.line ++ [oth t p]) ho k3 (show 0 ≤ (if t.2.2 = true then s.y p else 1 - s.y p) by omega)
    generalize hvv : (if t.2.2 = true then s.y p else 1 - s.y p) = v at hv hu
    have ey : ∀ q, q ≠ oth t p → upN s.y (oth t p) v q = s.y q := fun q hq => upN_ne hq
    refine ⟨⟨fun q => ?_, fun q hq => ?_, fun q hq => ?_, fun q hq => ?_, fun q hq => ?_, fun q hq hl hc j t' hj hlf hat => ?_, fun cc hcc => ?_, fun q hq => ?_, ?_, fun q hq => ?_⟩, by simp; omega⟩
    · by_cases e : q = oth t p
      · rw [e]; show upN s.y (oth t p) v _ = -1 ∨ upN s.y (oth t p) v _ = 0 ∨ upN s.y (oth t p) v _ = 1; rw [upN_same]; omega
      · show upN s.y (oth t p) v q = -1 ∨ upN s.y (oth t p) v q = 0 ∨ upN s.y (oth t p) v q = 1; rw [upN_ne e]; exact I.ylow q
    · by_cases e : q = oth t p
      · rw [e]; exact ho
      · have hq : 0 ≤ upN s.y (oth t p) v q := hq
        rw [upN_ne e] at hq
        exact I.lt q hq
    · by_cases e : q = oth t p
      · subst e
        show Pth T lf (upN s.h (oth t p) first (oth t p)) (upN s.w (oth t p) _ (oth t p)) (oth t p) (upN s.y (oth t p) v (oth t p)) ∧ upN s.h (oth t p) first (oth t p) ≤ oth t p ∧ upN s.h (oth t p) first (oth t p) ≤ first ∧ (upN s.w (oth t p) _ (oth t p)).length + _ + 1 ≤ n
        rw [upN_same, upN_same, upN_same]
        obtain ⟨g1, g2, g3, g4⟩ := I.path p c1
        rw [c2] at g1
        refine ⟨?_, ?_, Nat.le_refl _, ?_⟩
        · rw [← hvv]; exact g1.snoc ht k1 k2
        · refine Nat.le_of_not_lt fun z => ?_
          have := I.fresh _ z
          omega
        · rw [List.length_append, List.length_singleton]; omega
      · have hq : 0 ≤ upN s.y (oth t p) v q := hq
        rw [upN_ne e] at hq
        obtain ⟨g1, g2, g3, g4⟩ := I.path q hq
        show Pth T lf (upN s.h _ _ q) (upN s.w _ _ q) q (upN s.y _ _ q) ∧ upN s.h _ _ q ≤ q ∧ upN s.h _ _ q ≤ first ∧ (upN s.w _ _ q).length + _ + 1 ≤ n
        rw [upN_ne e, upN_ne e, upN_ne e]
        exact ⟨g1, g2, g3, by omega⟩
    · by_cases e : q = oth t p
      · subst e
        show upN s.y _ v (upN s.h _ first (oth t p)) = 0 ∧ upN s.h _ first (upN s.h _ first (oth t p)) = upN s.h _ first (oth t p) ∧ upN s.w _ _ (upN s.h _ first (oth t p)) = []
        rw [upN_same (f := s.h)]
        have hr := I.root
        have hf := hne first hr.1
        rw [upN_ne hf, upN_ne hf, upN_ne hf]
        have := I.head first hr.1
        rw [hr.2] at this
        exact this
      · have hq : 0 ≤ upN s.y (oth t p) v q := hq
        rw [upN_ne e] at hq
        have g := I.head q hq
        have hh := hne (s.h q) (by omega)
        show upN s.y _ v (upN s.h _ first q) = 0 ∧ upN s.h _ first (upN s.h _ first q) = upN s.h _ first q ∧ upN s.w _ _ (upN s.h _ first q) = []
        rw [upN_ne e, upN_ne hh, upN_ne hh, upN_ne hh]
        exact g
    · rcases List.mem_append.mp hq with hq | hq
      · obtain ⟨g1, g2⟩ := I.line q hq
        have e := hne q g1
        show 0 ≤ upN s.y _ v q ∧ upN s.h _ first q = first
        rw [upN_ne e, upN_ne e]
        exact ⟨g1, g2⟩
      · rw [List.mem_singleton.mp hq]
        show 0 ≤ upN s.y _ v _ ∧ upN s.h _ first _ = first
        rw [upN_same, upN_same]
        exact ⟨by omega, rfl⟩
    · have e : q ≠ oth t p := fun z => hl (by rw [z]; simp)
      have hq : 0 ≤ upN s.y (oth t p) v q := hq
      rw [upN_ne e] at hq
      obtain ⟨g1, g2⟩ := I.done q hq (fun z => hl (List.mem_append_left _ z)) (fun c' hc' => by cases hc'; exact hc (p, i + 1) rfl) j t' hj hlf hat
      have e2 := hne _ g1
      show 0 ≤ upN s.y _ v _ ∧ upN s.h _ first _ = upN s.h _ first q
      rw [upN_ne e2, upN_ne e2, upN_ne e]
      exact ⟨g1, g2⟩
    · cases hcc
      have e := hne p c1
      refine ⟨by show 0 ≤ upN s.y _ v p ∧ upN s.h _ first p = first; rw [upN_ne e, upN_ne e]; exact ⟨c1, c2⟩, fun j t' hj hlf hlt hat => ?_⟩
      show 0 ≤ upN s.y _ v (oth t' p) ∧ upN s.h _ first (oth t' p) = first
      by_cases e2 : oth t' p = oth t p
      · rw [e2, upN_same, upN_same]; exact ⟨by omega, rfl⟩
      · rw [upN_ne e2, upN_ne e2]
        have hji : j ≠ i := fun z => by
          subst z
          rw [ht] at hj
          cases hj
          exact e2 rfl
        have hlt : j < i + 1 := hlt
        exact c3 j t' hj hlf (show j < i by omega) hat
    · have g := I.fresh q hq
      show 0 ≤ upN s.y _ v q
      rw [upN_ne (hne q g)]; exact g
    · have hr := I.root
      show 0 ≤ upN s.y _ v first ∧ upN s.h _ first first = first
      rw [upN_ne (hne _ hr.1), upN_ne (hne _ hr.1)]; exact hr
    · have hq : upN s.y (oth t p) v q < 0 := hq
      have e : q ≠ oth t p := fun z => by rw [z, upN_same] at hq; omega
      rw [upN_ne e] at hq
      show upN s.w (oth t p) _ q = []
      rw [upN_ne e]; exact I.wun q hq
  · rw [if_neg c]
    refine ⟨⟨I.ylow, I.lt, I.path, I.head, I.line, fun q hq hl hc => I.done q hq hl fun c' hc' => by cases hc'; exact hc (p, i + 1) rfl, fun cc hcc => ?_, I.fresh, I.root, I.wun⟩, rfl⟩
    cases hcc
    refine ⟨⟨c1, c2⟩, fun j t' hj hlf hlt hat => ?_⟩
    have hlt : j < i + 1 := hlt
    by_cases e : j = i
    · subst e
      rw [ht] at hj
      cases hj
      have hy : ¬ s.y (oth t p) < 0 := fun z => c ⟨hlf, hat, z⟩
      have hy : 0 ≤ s.y (oth t p) := by omega
      refine ⟨hy, ?_⟩
      by_cases hl : oth t p ∈ s.line
      · exact (I.line _ hl).2
      · by_cases ep : oth t p = p
        · rw [ep]; exact c2
        · obtain ⟨b1, b2⟩ := isAt_oth hat
          have := (I.done (oth t p) hy hl (fun c' hc' => by cases hc'; exact ep) j t ht hlf b1).2
          rw [b2, c2] at this
          exact this.symm
    · exact c3 j t' hj hlf (show j < i by omega) hat
theorem visitT_inv {n : Nat} {T : List Tie} {lf : List Int} {first p : Nat} (hT : ∀ t ∈ T, t.1 < n ∧ t.2.1 < n) : ∀ (r : List Tie) (i : Nat) (s : Fs), (∀ j, r[j]? = T[i + j]?) → InvT n T lf first s (some (p, i)) →
    InvT n T lf first (visitT lf first p i r s) (some (p, i + r.length)) ∧ unl n (visitT lf first p i r s) + (visitT lf first p i r s).line.length = unl n s + s.line.length := by
  intro r
  induction r with
  | nil => intro i s _ I; exact ⟨I, rfl⟩
  | cons t r ih =>
    intro i s hr I
    have ht : T[i]? = some t := (hr 0).symm
    obtain ⟨I1, e1⟩ := stepT_inv hT I ht
    obtain ⟨I2, e2⟩ := ih (i + 1) _ (fun j => by have := hr (j + 1); simp only [List.getElem?_cons_succ] at this; rw [this]; congr 1; omega) I1
    refine ⟨?_, ?_⟩
    · show InvT n T lf first (visitT lf first p (i + 1) r (stepT lf first p s i t)) (some (p, i + (r.length + 1)))
      rw [show i + (r.length + 1) = i + 1 + r.length by omega]
      exact I2
    · show unl n (visitT lf first p (i + 1) r (stepT lf first p s i t)) + (visitT lf first p (i + 1) r (stepT lf first p s i t)).line.length = _
      rw [e2, e1]
/-- one turn of the loop -/
theorem turnT_inv {n : Nat} {T : List Tie} {lf : List Int} {first p : Nat} {r : List Nat} (hT : ∀ t ∈ T, t.1 < n ∧ t.2.1 < n) {s : Fs} (hl : s.line = p :: r) (I : InvT n T lf first s none) :
    InvT n T lf first (visitT lf first p 0 T { s with line := r }) none ∧ unl n (visitT lf first p 0 T { s with line := r }) + (visitT lf first p 0 T { s with line := r }).line.length + 1 = unl n s + s.line.length := by
  have hp := I.line p (by rw [hl]; exact .head _)
  have I1 : InvT n T lf first { s with line := r } (some (p, 0)) := by
    refine ⟨I.ylow, I.lt, I.path, I.head, fun q hq => I.line q (by rw [hl]; exact .tail _ hq), fun q hq hlq hc => ?_, fun c hc => ?_, I.fresh, I.root, I.wun⟩
    · exact I.done q hq (by rw [hl]; exact fun z => by rcases List.mem_cons.mp z with z | z; exact hc _ rfl z; exact hlq z) (fun c hc => by cases hc)
    · cases hc
      exact ⟨hp, fun j t hj _ hlt => absurd hlt (Nat.not_lt_zero _)⟩
  obtain ⟨I2, e2⟩ := visitT_inv hT T 0 _ (fun j => by rw [Nat.zero_add]) I1
  refine ⟨?_, ?_⟩
  · refine ⟨I2.ylow, I2.lt, I2.path, I2.head, I2.line, fun q hq hlq hc j t hj hlf hat => ?_, fun c hc => (by cases hc), I2.fresh, I2.root, I2.wun⟩
    by_cases e : q = p
    · subst e
      obtain ⟨⟨a1, a2⟩, a3⟩ := I2.curr _ rfl
      have hlt : j < T.length := (List.getElem?_eq_some_iff.mp hj).1
      have := a3 j t hj hlf (by simpa using hlt) hat
      rw [a2]
      exact this
    · exact I2.done q hq hlq (fun c hc => by cases hc; exact e) j t hj hlf hat
  · rw [e2, hl]
    show unl n s + r.length + 1 = unl n s + (r.length + 1)
    rfl
theorem loopT_inv {n : Nat} {T : List Tie} {lf : List Int} {first : Nat} (hT : ∀ t ∈ T, t.1 < n ∧ t.2.1 < n) : ∀ (f : Nat) (s : Fs), InvT n T lf first s none → unl n s + s.line.length ≤ f →
    InvT n T lf first (loopT T lf first f s) none ∧ (loopT T lf first f s).line = [] := by
  intro f
  induction f with
  | zero => intro s I h; exact ⟨I, List.eq_nil_of_length_eq_zero (by show s.line.length = 0; omega)⟩
  | succ f ih =>
    intro s I h
    unfold loopT
    split
    · exact ⟨I, ‹_›⟩
    · rename_i p r hl
      obtain ⟨I2, e2⟩ := turnT_inv hT hl I
      exact ih _ I2 (by omega)
/-- what holds between two roots -/
structure InvR (n : Nat) (T : List Tie) (lf : List Int) (first : Nat) (s : Fs) : Prop where
  ylow : ∀ p, s.y p = -1 ∨ s.y p = 0 ∨ s.y p = 1
  lt : ∀ p, 0 ≤ s.y p → p < n
  path : ∀ p, 0 ≤ s.y p → Pth T lf (s.h p) (s.w p) p (s.y p) ∧ s.h p ≤ p ∧ s.h p < first ∧ (s.w p).length + unl n s + 1 ≤ n
  head : ∀ p, 0 ≤ s.y p → s.y (s.h p) = 0 ∧ s.h (s.h p) = s.h p ∧ s.w (s.h p) = []
  line : s.line = []
  done : ∀ p, 0 ≤ s.y p → ∀ (i : Nat) (t : Tie), T[i]? = some t → (i : Int) ∉ lf → isAt t p → 0 ≤ s.y (oth t p) ∧ s.h (oth t p) = s.h p
  fresh : ∀ p, p < first → 0 ≤ s.y p
  wun : ∀ p, s.y p < 0 → s.w p = []
theorem unl_le (n : Nat) (s : Fs) : unl n s ≤ n := by
  unfold unl
  exact Nat.le_trans (List.length_filter_le _ _) (by simp)
/-- the state in which the loop of a root begins -/
def begT (s : Fs) (first : Nat) : Fs := { y := upN s.y first 0, h := upN s.h first first, w := s.w, line := [first] }
theorem begT_inv {n : Nat} {T : List Tie} {lf : List Int} {first : Nat} {s : Fs} (I : InvR n T lf first s) (hf : first < n) (h : s.y first < 0) :
    InvT n T lf first (begT s first) none ∧ unl n (begT s first) + (begT s first).line.length = unl n s := by
  have hu := unl_upN (s := s) (h' := upN s.h first first) (w' := s.w) (l' := [first]) hf h (Int.le_refl 0)
  have hu' : unl n (begT s first) + 1 = unl n s := hu
  have hne : ∀ q, 0 ≤ s.y q → q ≠ first := fun q hq z => by rw [z] at hq; omega
  refine ⟨⟨fun q => ?_, fun q hq => ?_, fun q hq => ?_, fun q hq => ?_, fun q hq => ?_, fun q hq hl hc j t' hj hlf hat => ?_, fun cc hcc => (by cases hcc), fun q hq => ?_, ?_, fun q hq => ?_⟩, hu'⟩
  · show upN s.y first 0 q = -1 ∨ upN s.y first 0 q = 0 ∨ upN s.y first 0 q = 1
    by_cases e : q = first
    · rw [e, upN_same]; omega
    · rw [upN_ne e]; exact I.ylow q
  · by_cases e : q = first
    · rw [e]; exact hf
    · have hq : 0 ≤ upN s.y first 0 q := hq
      rw [upN_ne e] at hq
      exact I.lt q hq
  · show Pth T lf (upN s.h first first q) (s.w q) q (upN s.y first 0 q) ∧ upN s.h first first q ≤ q ∧ upN s.h first first q ≤ first ∧ (s.w q).length + unl n (begT s first) + 1 ≤ n
    by_cases e : q = first
    · subst e
      rw [upN_same, upN_same, I.wun _ h]
      have := unl_le n s
      exact ⟨.nil, Nat.le_refl _, Nat.le_refl _, by simp; omega⟩
    · have hq : 0 ≤ upN s.y first 0 q := hq
      rw [upN_ne e] at hq
      rw [upN_ne e, upN_ne e]
      obtain ⟨g1, g2, g3, g4⟩ := I.path q hq
      exact ⟨g1, g2, by omega, by omega⟩
  · show upN s.y first 0 (upN s.h first first q) = 0 ∧ upN s.h first first (upN s.h first first q) = upN s.h first first q ∧ s.w (upN s.h first first q) = []
    by_cases e : q = first
    · subst e
      rw [upN_same, upN_same, upN_same]
      exact ⟨rfl, rfl, I.wun _ h⟩
    · have hq : 0 ≤ upN s.y first 0 q := hq
      rw [upN_ne e] at hq
      have g := I.head q hq
      have hh := hne (s.h q) (by omega)
      rw [upN_ne e, upN_ne hh, upN_ne hh]
      exact g
  · have e : q = first := List.mem_singleton.mp hq
    subst e
    show 0 ≤ upN s.y q 0 q ∧ upN s.h q q q = q
    rw [upN_same, upN_same]
    exact ⟨Int.le_refl _, rfl⟩
  · have e : q ≠ first := fun z => hl (by rw [z]; exact .head _)
    have hq : 0 ≤ upN s.y first 0 q := hq
    rw [upN_ne e] at hq
    obtain ⟨g1, g2⟩ := I.done q hq j t' hj hlf hat
    have e2 := hne _ g1
    show 0 ≤ upN s.y first 0 _ ∧ upN s.h first first _ = upN s.h first first q
    rw [upN_ne e2, upN_ne e2, upN_ne e]
    exact ⟨g1, g2⟩
  · have g := I.fresh q hq
    show 0 ≤ upN s.y first 0 q
    rw [upN_ne (hne q g)]; exact g
  · show 0 ≤ upN s.y first 0 first ∧ upN s.h first first first = first
    rw [upN_same, upN_same]; exact ⟨Int.le_refl _, rfl⟩
  · have hq : upN s.y first 0 q < 0 := hq
    have e : q ≠ first := fun z => by rw [z, upN_same] at hq; omega
    rw [upN_ne e] at hq
    exact I.wun q hq
theorem rootT_inv {n : Nat} {T : List Tie} {lf : List Int} {first : Nat} (hT : ∀ t ∈ T, t.1 < n ∧ t.2.1 < n) {s : Fs} (I : InvR n T lf first s) (hf : first < n) : InvR n T lf (first + 1) (rootT n T lf s first) := by
  unfold rootT
  by_cases h : s.y first < 0
  · rw [if_pos h]
    obtain ⟨I1, e1⟩ := begT_inv I hf h
    have hu := unl_le n s
    obtain ⟨I2, e2⟩ := loopT_inv hT (n + 1) (begT s first) I1 (by omega)
    refine ⟨I2.ylow, I2.lt, fun p hp => ?_, I2.head, e2, fun p hp => I2.done p hp (by rw [e2]; exact List.not_mem_nil) (fun c hc => by cases hc), fun p hp => ?_, I2.wun⟩
    · obtain ⟨g1, g2, g3, g4⟩ := I2.path p hp
      exact ⟨g1, g2, Nat.lt_succ_of_le g3, g4⟩
    · by_cases e : p = first
      · rw [e]; exact I2.root.1
      · exact I2.fresh p (by omega)
  · rw [if_neg h]
    refine ⟨I.ylow, I.lt, fun p hp => ?_, I.head, I.line, I.done, fun p hp => ?_, I.wun⟩
    · obtain ⟨g1, g2, g3, g4⟩ := I.path p hp
      exact ⟨g1, g2, by omega, g4⟩
    · by_cases e : p = first
      · rw [e]; omega
      · exact I.fresh p (by omega)
theorem fs0_inv (n : Nat) (T : List Tie) (lf : List Int) : InvR n T lf 0 fs0 := by
  have h0 : ∀ p, ¬ 0 ≤ fs0.y p := fun p z => by
    have : fs0.y p = -1 := rfl
    omega
  exact ⟨fun p => .inl rfl, fun p h => absurd h (h0 p), fun p h => absurd h (h0 p), fun p h => absurd h (h0 p), rfl, fun p h => absurd h (h0 p), fun p h => absurd h (Nat.not_lt_zero _), fun p _ => rfl⟩
def preT (n : Nat) (T : List Tie) (lf : List Int) (k : Nat) : Fs := (List.range k).foldl (rootT n T lf) fs0
theorem preT_succ (n : Nat) (T : List Tie) (lf : List Int) (k : Nat) : preT n T lf (k + 1) = rootT n T lf (preT n T lf k) k := by
  unfold preT
  rw [List.range_succ, List.foldl_append]
  rfl
theorem preT_inv {n : Nat} {T : List Tie} {lf : List Int} (hT : ∀ t ∈ T, t.1 < n ∧ t.2.1 < n) : ∀ k, k ≤ n → InvR n T lf k (preT n T lf k)
  | 0, _ => fs0_inv n T lf
  | k + 1, h => by rw [preT_succ]; exact rootT_inv hT (preT_inv hT k (by omega)) (by omega)
/-- what the forest says in the end -/
structure Forest (n : Nat) (T : List Tie) (lf : List Int) (s : Fs) : Prop where
  y01 : ∀ p, p < n → s.y p = 0 ∨ s.y p = 1
  path : ∀ p, p < n → Pth T lf (s.h p) (s.w p) p (s.y p)
  hle : ∀ p, p < n → s.h p ≤ p
  hh : ∀ p, p < n → s.h (s.h p) = s.h p
  yh : ∀ p, p < n → s.y (s.h p) = 0
  wh : ∀ p, p < n → s.w (s.h p) = []
  wlen : ∀ p, p < n → (s.w p).length + 1 ≤ n
  tie : ∀ (i : Nat) (t : Tie), T[i]? = some t → (i : Int) ∉ lf → s.h t.1 = s.h t.2.1
theorem oth_fst (t : Tie) : oth t t.1 = t.2.1 := if_pos rfl
theorem sprT_forest {n : Nat} {T : List Tie} {lf : List Int} (hT : ∀ t ∈ T, t.1 < n ∧ t.2.1 < n) : Forest n T lf (sprT n T lf) := by
  have I : InvR n T lf n (sprT n T lf) := preT_inv hT n (Nat.le_refl n)
  refine ⟨fun p hp => ?_, fun p hp => (I.path p (I.fresh p hp)).1, fun p hp => (I.path p (I.fresh p hp)).2.1, fun p hp => (I.head p (I.fresh p hp)).2.1, fun p hp => (I.head p (I.fresh p hp)).1, fun p hp => (I.head p (I.fresh p hp)).2.2, fun p hp => ?_, fun i t hi hlf => ?_⟩
  · have := I.ylow p
    have := I.fresh p hp
    omega
  · have := (I.path p (I.fresh p hp)).2.2.2
    omega
  · have hm := hT t (List.mem_of_getElem? hi)
    have := (I.done t.1 (I.fresh _ hm.1) i t hi hlf (.inl rfl)).2
    rw [oth_fst] at this
    exact this.symm
/-! ### ways to lie -/
/-- x fits the ties that are not left out -/
def Sol (n : Nat) (T : List Tie) (lf : List Int) (x : Nat → Int) : Prop := (∀ p, p < n → x p = 0 ∨ x p = 1) ∧ ∀ (i : Nat) (t : Tie), T[i]? = some t → (i : Int) ∉ lf → decide (x t.1 = x t.2.1) = t.2.2
def xo (a b : Int) : Int := if a = 0 then b else 1 - b
theorem Pth.lt {n : Nat} {T : List Tie} {lf : List Int} (hT : ∀ t ∈ T, t.1 < n ∧ t.2.1 < n) {a b : Nat} {s : List Int} {x : Int} (ha : a < n) (h : Pth T lf a s b x) : b < n := by
  induction h with
  | nil => exact ha
  | snoc _ hi _ _ _ =>
    have := hT _ (List.mem_of_getElem? hi)
    unfold oth; split <;> omega
theorem Sol.tie {n : Nat} {T : List Tie} {lf : List Int} (hT : ∀ t ∈ T, t.1 < n ∧ t.2.1 < n) {x : Nat → Int} (hx : Sol n T lf x) {i : Nat} {t : Tie} (hi : T[i]? = some t) (hlf : (i : Int) ∉ lf) {p : Nat} (hat : isAt t p) :
    x (oth t p) = if t.2.2 = true then x p else 1 - x p := by
  have hm := hT _ (List.mem_of_getElem? hi)
  have h2 := hx.2 i t hi hlf
  have h3 := hx.1 _ hm.1
  have h4 := hx.1 _ hm.2
  have key : oth t p = t.2.1 ∧ p = t.1 ∨ oth t p = t.1 ∧ p = t.2.1 := by
    unfold isAt at hat; unfold oth
    by_cases c : t.1 = p
    · rw [if_pos c]; exact .inl ⟨rfl, c.symm⟩
    · rw [if_neg c]; exact .inr ⟨rfl, by rcases hat with h | h; exact absurd h.symm c; exact h⟩
  rw [← h2]
  rcases key with ⟨e1, e2⟩ | ⟨e1, e2⟩ <;> rw [e1, e2] <;> by_cases c : x t.1 = x t.2.1 <;> simp [c] <;> omega
theorem Sol.path {n : Nat} {T : List Tie} {lf : List Int} (hT : ∀ t ∈ T, t.1 < n ∧ t.2.1 < n) {x : Nat → Int} (hx : Sol n T lf x) {a b : Nat} {s : List Int} {z : Int} (ha : a < n) (h : Pth T lf a s b z) : x b = xo z (x a) := by
  have h0 := hx.1 _ ha
  induction h with
  | nil => rfl
  | snoc hp hi hlf hat ih =>
    rw [hx.tie hT hi hlf hat, ih]
    have := hp.par
    unfold xo
    split <;> split <;> omega
/-- no tie that is left in is odd -/
def NoOdd (T : List Tie) (lf : List Int) (y : Nat → Int) : Prop := ∀ (i : Nat) (t : Tie), T[i]? = some t → (i : Int) ∉ lf → decide (y t.1 = y t.2.1) = t.2.2
theorem sol_spr {n : Nat} {T : List Tie} {lf : List Int} {s : Fs} (F : Forest n T lf s) (h : NoOdd T lf s.y) : Sol n T lf s.y := ⟨F.y01, h⟩
theorem noOdd_of_sol {n : Nat} {T : List Tie} {lf : List Int} (hT : ∀ t ∈ T, t.1 < n ∧ t.2.1 < n) {s : Fs} (F : Forest n T lf s) {x : Nat → Int} (hx : Sol n T lf x) : NoOdd T lf s.y := by
  intro i t hi hlf
  have hm := hT _ (List.mem_of_getElem? hi)
  have e := F.tie i t hi hlf
  have l1 := F.hle _ hm.1
  have l2 := F.hle _ hm.2
  have e1 := hx.path hT (by omega) (F.path _ hm.1)
  have e2 := hx.path hT (by omega) (F.path _ hm.2)
  rw [← e] at e2
  have e3 := hx.2 i t hi hlf
  have y1 := F.y01 _ hm.1
  have y2 := F.y01 _ hm.2
  have x1 := hx.1 (s.h t.1) (by omega)
  rw [← e3, e1, e2]
  unfold xo
  rcases y1 with y1 | y1 <;> rcases y2 with y2 | y2 <;> rw [y1, y2] <;> simp <;> omega
/-- all that lie are the forest and a choice at each head -/
theorem sol_iff {n : Nat} {T : List Tie} {lf : List Int} (hT : ∀ t ∈ T, t.1 < n ∧ t.2.1 < n) {s : Fs} (F : Forest n T lf s) (h : NoOdd T lf s.y) (x : Nat → Int) :
    Sol n T lf x ↔ (∀ p, p < n → x p = 0 ∨ x p = 1) ∧ ∀ p, p < n → x p = xo (s.y p) (x (s.h p)) := by
  constructor
  · intro hx
    refine ⟨hx.1, fun p hp => ?_⟩
    have := F.hle p hp
    exact hx.path hT (by omega) (F.path p hp)
  · rintro ⟨h1, h2⟩
    refine ⟨h1, fun i t hi hlf => ?_⟩
    have hm := hT _ (List.mem_of_getElem? hi)
    have e := F.tie i t hi hlf
    have l1 := F.hle _ hm.1
    have g := h i t hi hlf
    have y1 := F.y01 _ hm.1
    have y2 := F.y01 _ hm.2
    have x1 := h1 (s.h t.1) (by omega)
    rw [h2 _ hm.1, h2 _ hm.2, ← e, ← g]
    unfold xo
    rcases y1 with y1 | y1 <;> rcases y2 with y2 | y2 <;> rw [y1, y2] <;> simp <;> omega
end Dl

set_option Elab.async false
set_option linter.all false
set_option maxRecDepth 100000
set_option maxHeartbeats 8000000
namespace Dl
open PySem PySem.Spec PyProof.Rows L2
/-! ### all rows that fit, as the law lists them -/
def d0 : Tie := (0, 0, false)
theorem at0_get {α : Type} {l : List α} {i : Nat} {d : α} (h : i < l.length) : l[i]? = some (at0 l i d) := by rw [at0_of h]; exact List.getElem?_eq_getElem h
theorem at0_get' {α : Type} {l : List α} {i : Nat} {d x : α} (h : l[i]? = some x) : at0 l i d = x := by unfold at0; rw [h]; rfl
def fitI (T : List Tie) (x : List Int) (i : Nat) : Bool := decide (at0 x (at0 T i d0).1 0 = at0 x (at0 T i d0).2.1 0) == (at0 T i d0).2.2
def okAt (T : List Tie) (lf : List Int) (q : Nat) (i : Nat) (x : List Int) : Bool := decide ((i : Int) ∈ lf) || (!(decide (max (at0 T i d0).1 (at0 T i d0).2.1 = q)) || fitI T x i)
def ext01 (l : List (List Int)) : List (List Int) := l.flatMap fun s => [s ++ [0], s ++ [1]]
def waysL (T : List Tie) (lf : List Int) : Nat → List (List Int)
  | 0 => [[]]
  | q + 1 => (ext01 (waysL T lf q)).filter fun x => (List.range T.length).all fun i => okAt T lf q i x
theorem mem_ext01 {l : List (List Int)} {x : List Int} : x ∈ ext01 l ↔ ∃ s ∈ l, ∃ v, (v = 0 ∨ v = 1) ∧ x = s ++ [v] := by
  unfold ext01
  rw [List.mem_flatMap]
  constructor
  · rintro ⟨s, hs, hx⟩
    rcases List.mem_cons.mp hx with h | h
    · exact ⟨s, hs, 0, .inl rfl, h⟩
    · exact ⟨s, hs, 1, .inr rfl, List.mem_singleton.mp h⟩
  · rintro ⟨s, hs, v, hv | hv, hx⟩ <;> subst hv hx
    · exact ⟨s, hs, .head _⟩
    · exact ⟨s, hs, .tail _ (.head _)⟩
theorem ext01_nodup : ∀ {l : List (List Int)}, l.Nodup → (ext01 l).Nodup
  | [], _ => .nil
  | s :: r, h => by
    have h1 := (List.nodup_cons.mp h).1
    have ih := ext01_nodup (List.nodup_cons.mp h).2
    show ([s ++ [0], s ++ [1]] ++ ext01 r).Nodup
    rw [List.nodup_append]
    refine ⟨by simp, ih, ?_⟩
    intro a ha b hb e
    subst e
    obtain ⟨s', hs', v, _, e⟩ := mem_ext01.mp hb
    have : s = s' := by
      rcases List.mem_cons.mp ha with h | h
      · rw [h] at e; exact (List.append_inj' e rfl).1
      · rw [List.mem_singleton.mp h] at e; exact (List.append_inj' e rfl).1
    exact h1 (this ▸ hs')
theorem ext01_len {l : List (List Int)} : (ext01 l).length = 2 * l.length := by
  induction l with
  | nil => rfl
  | cons s r ih =>
    show ([s ++ [0], s ++ [1]] ++ ext01 r).length = 2 * (r.length + 1)
    rw [List.length_append, ih]; simp; omega
theorem waysL_nodup (T : List Tie) (lf : List Int) : ∀ q, (waysL T lf q).Nodup
  | 0 => by simp [waysL]
  | q + 1 => (ext01_nodup (waysL_nodup T lf q)).filter _
theorem at0_app {x : List Int} {v : Int} {p : Nat} (h : p < x.length) : at0 (x ++ [v]) p 0 = at0 x p 0 := by unfold at0; rw [List.getElem?_append_left h]
theorem at0_end {x : List Int} {v : Int} : at0 (x ++ [v]) x.length 0 = v := by unfold at0; rw [List.getElem?_append_right (Nat.le_refl _)]; simp
theorem mem_waysL {T : List Tie} {lf : List Int} : ∀ {q : Nat} {x : List Int}, x ∈ waysL T lf q ↔ x.length = q ∧ (∀ v ∈ x, v = 0 ∨ v = 1) ∧ ∀ i, i < T.length → (i : Int) ∉ lf → (at0 T i d0).1 < q → (at0 T i d0).2.1 < q → fitI T x i = true
  | 0, x => by
    constructor
    · intro h
      rw [List.mem_singleton.mp h]
      exact ⟨rfl, by simp, fun i _ _ h => absurd h (Nat.not_lt_zero _)⟩
    · rintro ⟨h, _⟩
      rw [List.eq_nil_of_length_eq_zero h]
      exact .head _
  | q + 1, x => by
    show x ∈ (ext01 (waysL T lf q)).filter _ ↔ _
    rw [List.mem_filter, mem_ext01]
    have fitA : ∀ (s : List Int) (v : Int) (i : Nat), (at0 T i d0).1 < s.length → (at0 T i d0).2.1 < s.length → fitI T (s ++ [v]) i = fitI T s i := by
      intro s v i h1 h2
      unfold fitI
      rw [at0_app h1, at0_app h2]
    constructor
    · rintro ⟨⟨s, hs, v, hv, rfl⟩, hall⟩
      obtain ⟨h1, h2, h3⟩ := mem_waysL.mp hs
      subst h1
      refine ⟨by simp, fun u hu => ?_, fun i hi hlf ha hb => ?_⟩
      · rcases List.mem_append.mp hu with h | h
        · exact h2 u h
        · rw [List.mem_singleton.mp h]; exact hv
      · by_cases c : max (at0 T i d0).1 (at0 T i d0).2.1 = s.length
        · have := List.all_eq_true.mp hall i (List.mem_range.mpr hi)
          simpa [okAt, hlf, c] using this
        · have a1 : (at0 T i d0).1 < s.length := by omega
          have a2 : (at0 T i d0).2.1 < s.length := by omega
          rw [fitA _ _ _ a1 a2]
          exact h3 i hi hlf a1 a2
    · rintro ⟨h1, h2, h3⟩
      rcases List.eq_nil_or_concat x with rfl | ⟨s, v, rfl⟩
      · simp at h1
      · rw [List.concat_eq_append] at *
        have hl : s.length = q := by simpa using h1
        subst hl
        refine ⟨⟨s, mem_waysL.mpr ⟨rfl, fun u hu => h2 u (List.mem_append_left _ hu), fun i hi hlf ha hb => ?_⟩, v, h2 v (by simp), rfl⟩, ?_⟩
        · rw [← fitA s v i ha hb]
          exact h3 i hi hlf (by omega) (by omega)
        · rw [List.all_eq_true]
          intro i hi
          have hi := List.mem_range.mp hi
          unfold okAt
          by_cases c1 : (i : Int) ∈ lf
          · simp [c1]
          · by_cases c2 : max (at0 T i d0).1 (at0 T i d0).2.1 = s.length
            · simp [c2, h3 i hi c1 (by omega) (by omega)]
            · simp [c2]
def fn (x : List Int) : Nat → Int := fun p => at0 x p 0
theorem ways_sol {n : Nat} {T : List Tie} (hT : ∀ t ∈ T, t.1 < n ∧ t.2.1 < n) {lf : List Int} {x : List Int} : x ∈ waysL T lf n ↔ x.length = n ∧ Sol n T lf (fn x) := by
  rw [mem_waysL]
  constructor
  · rintro ⟨h1, h2, h3⟩
    refine ⟨h1, fun p hp => h2 _ (at0_mem (by omega)), fun i t hi hlf => ?_⟩
    have hl := (List.getElem?_eq_some_iff.mp hi).1
    have hm := hT t (List.mem_of_getElem? hi)
    have := h3 i hl hlf
    unfold fitI at this
    rw [at0_get' hi] at this
    exact eq_of_beq (this hm.1 hm.2)
  · rintro ⟨h1, h2, h3⟩
    refine ⟨h1, fun v hv => ?_, fun i hi hlf _ _ => ?_⟩
    · obtain ⟨p, hp, rfl⟩ := List.mem_iff_getElem.mp hv
      have := h2 p (by omega)
      rw [← at0_of (d := 0) hp]
      exact this
    · have := h3 i (at0 T i d0) (at0_get hi) hlf
      unfold fitI
      rw [show decide (at0 x (at0 T i d0).1 0 = at0 x (at0 T i d0).2.1 0) = (at0 T i d0).2.2 from this]
      simp
theorem fn_map {n : Nat} {f : Nat → Int} {p : Nat} (h : p < n) : fn ((List.range n).map f) p = f p := by
  unfold fn
  rw [at0_of (by simpa using h)]
  simp
theorem sol_congr {n : Nat} {T : List Tie} (hT : ∀ t ∈ T, t.1 < n ∧ t.2.1 < n) {lf : List Int} {f g : Nat → Int} (h : ∀ p, p < n → f p = g p) (hf : Sol n T lf f) : Sol n T lf g := by
  refine ⟨fun p hp => by rw [← h p hp]; exact hf.1 p hp, fun i t hi hlf => ?_⟩
  have hm := hT t (List.mem_of_getElem? hi)
  rw [← h _ hm.1, ← h _ hm.2]
  exact hf.2 i t hi hlf
theorem row_sol {n : Nat} {T : List Tie} (hT : ∀ t ∈ T, t.1 < n ∧ t.2.1 < n) {lf : List Int} {f : Nat → Int} (hf : Sol n T lf f) : (List.range n).map f ∈ waysL T lf n :=
  (ways_sol hT).mpr ⟨by simp, sol_congr hT (fun p hp => (fn_map hp).symm) hf⟩
theorem ways_nil {n : Nat} {T : List Tie} (hT : ∀ t ∈ T, t.1 < n ∧ t.2.1 < n) {lf : List Int} {s : Fs} (F : Forest n T lf s) : waysL T lf n ≠ [] ↔ NoOdd T lf s.y := by
  constructor
  · intro h
    obtain ⟨x, hx⟩ := List.exists_mem_of_ne_nil _ h
    exact noOdd_of_sol hT F ((ways_sol hT).mp hx).2
  · intro h
    exact List.ne_nil_of_mem (row_sol hT (sol_spr F h))
/-! ### how many -/
def cube : Nat → List (List Int)
  | 0 => [[]]
  | k + 1 => ext01 (cube k)
theorem cube_len : ∀ k, (cube k).length = 2 ^ k
  | 0 => rfl
  | k + 1 => by show (ext01 (cube k)).length = _; rw [ext01_len, cube_len k, Nat.pow_succ]; omega
theorem cube_nodup : ∀ k, (cube k).Nodup
  | 0 => by simp [cube]
  | k + 1 => ext01_nodup (cube_nodup k)
theorem mem_cube : ∀ {k : Nat} {x : List Int}, x ∈ cube k ↔ x.length = k ∧ ∀ v ∈ x, v = 0 ∨ v = 1
  | 0, x => by
    constructor
    · intro h; rw [List.mem_singleton.mp h]; exact ⟨rfl, by simp⟩
    · rintro ⟨h, _⟩; rw [List.eq_nil_of_length_eq_zero h]; exact .head _
  | k + 1, x => by
    show x ∈ ext01 (cube k) ↔ _
    rw [mem_ext01]
    constructor
    · rintro ⟨s, hs, v, hv, rfl⟩
      obtain ⟨h1, h2⟩ := mem_cube.mp hs
      refine ⟨by simp [h1], fun u hu => ?_⟩
      rcases List.mem_append.mp hu with h | h
      · exact h2 u h
      · rw [List.mem_singleton.mp h]; exact hv
    · rintro ⟨h1, h2⟩
      rcases List.eq_nil_or_concat x with rfl | ⟨s, v, rfl⟩
      · simp at h1
      · rw [List.concat_eq_append] at *
        exact ⟨s, mem_cube.mpr ⟨by simpa using h1, fun u hu => h2 u (List.mem_append_left _ hu)⟩, v, h2 v (by simp), rfl⟩
def headsOf (n : Nat) (h : Nat → Nat) : List Nat := (List.range n).filter fun p => decide (h p = p)
theorem mem_heads {n : Nat} {h : Nat → Nat} {p : Nat} : p ∈ headsOf n h ↔ p < n ∧ h p = p := by simp [headsOf]
theorem xo_zero (b : Int) : xo 0 b = b := rfl
theorem ways_len {n : Nat} {T : List Tie} (hT : ∀ t ∈ T, t.1 < n ∧ t.2.1 < n) {lf : List Int} {s : Fs} (F : Forest n T lf s) (h : NoOdd T lf s.y) : (waysL T lf n).length = 2 ^ (headsOf n s.h).length := by
  have hnd : (headsOf n s.h).Nodup := List.nodup_range.filter _
  generalize hH : headsOf n s.h = H at hnd
  have mH : ∀ p, p ∈ H ↔ p < n ∧ s.h p = p := fun p => by rw [← hH]; exact mem_heads
  let ps : List Int → List Int := fun c => (List.range n).map fun p => xo (s.y p) (at0 c (H.idxOf (s.h p)) 0)
  have hin : ∀ p, p < n → s.h p ∈ H := fun p hp => (mH _).mpr ⟨Nat.lt_of_le_of_lt (F.hle p hp) hp, F.hh p hp⟩
  have hps : ∀ c p, p < n → fn (ps c) p = xo (s.y p) (at0 c (H.idxOf (s.h p)) 0) := fun c p hp => fn_map hp
  have hidx : ∀ p, p < n → H.idxOf (s.h p) < H.length := fun p hp => List.idxOf_lt_length_iff.mpr (hin p hp)
  have per : (waysL T lf n).Perm ((cube H.length).map ps) := by
    refine (List.perm_ext_iff_of_nodup (waysL_nodup T lf n) ?_).mpr fun x => ?_
    · refine List.pairwise_map.mpr ?_
      refine List.Pairwise.imp_of_mem ?_ (cube_nodup H.length)
      intro c c' hc hc' hne e
      apply hne
      obtain ⟨l1, _⟩ := mem_cube.mp hc
      obtain ⟨l2, _⟩ := mem_cube.mp hc'
      refine List.ext_getElem (by omega) fun j j1 j2 => ?_
      have hj : j < H.length := by omega
      obtain ⟨hp, hh⟩ := (mH H[j]).mp (List.getElem_mem hj)
      have e1 := hps c _ hp
      have e2 := hps c' _ hp
      have y0 := F.yh _ hp
      rw [hh] at e1 e2 y0
      have hi : H.idxOf H[j] = j := hnd.idxOf_getElem j hj
      rw [y0, xo_zero, hi] at e1 e2
      rw [← at0_of (d := 0) j1, ← at0_of (d := 0) j2, ← e1, ← e2, e]
    · rw [ways_sol hT, List.mem_map]
      constructor
      · rintro ⟨hl, hs⟩
        have hx := (sol_iff hT F h _).mp hs
        refine ⟨H.map (fn x), mem_cube.mpr ⟨by simp, fun v hv => ?_⟩, ?_⟩
        · obtain ⟨p, hp, rfl⟩ := List.mem_map.mp hv
          exact hx.1 p ((mH p).mp hp).1
        · refine List.ext_getElem (by simp [ps, hl]) fun p p1 p2 => ?_
          have hp : p < n := by omega
          have e1 := hps (H.map (fn x)) p hp
          rw [at0_of (by simpa using hidx p hp), List.getElem_map, List.getElem_idxOf (hidx p hp), ← hx.2 p hp] at e1
          rw [← at0_of (d := 0) p1, ← at0_of (d := 0) p2]
          exact e1
      · rintro ⟨c, hc, rfl⟩
        obtain ⟨l1, l2⟩ := mem_cube.mp hc
        have h01 : ∀ p, p < n → at0 c (H.idxOf (s.h p)) 0 = 0 ∨ at0 c (H.idxOf (s.h p)) 0 = 1 := fun p hp => l2 _ (at0_mem (by rw [l1]; exact hidx p hp))
        refine ⟨by simp [ps], (sol_iff hT F h _).mpr ⟨fun p hp => ?_, fun p hp => ?_⟩⟩
        · rw [hps c p hp]
          have := h01 p hp
          unfold xo; split <;> omega
        · have hq : s.h p < n := Nat.lt_of_le_of_lt (F.hle p hp) hp
          rw [hps c p hp, hps c _ hq, F.hh p hp, F.yh p hp, xo_zero]
  rw [per.length_eq, List.length_map, cube_len]
/-! ### which pieces are tied -/
theorem tied_same {n : Nat} {T : List Tie} (hT : ∀ t ∈ T, t.1 < n ∧ t.2.1 < n) {lf : List Int} {s : Fs} (F : Forest n T lf s) {x : List Int} (hx : x ∈ waysL T lf n) {a b : Nat} (ha : a < n) (hb : b < n) (e : s.h a = s.h b) : decide (at0 x a 0 = at0 x b 0) = decide (s.y a = s.y b) := by
  have hs := ((ways_sol hT).mp hx).2
  have hx := (sol_iff hT F (noOdd_of_sol hT F hs) _).mp hs
  have e1 := hx.2 a ha
  have e2 := hx.2 b hb
  have hq : s.h b < n := Nat.lt_of_le_of_lt (F.hle b hb) hb
  have h1 := hx.1 _ hq
  have y1 := F.y01 a ha
  have y2 := F.y01 b hb
  rw [e] at e1
  show decide (fn x a = fn x b) = _
  rw [e1, e2]
  unfold xo
  rcases y1 with y1 | y1 <;> rcases y2 with y2 | y2 <;> rw [y1, y2] <;> simp <;> omega
theorem tied_both {n : Nat} {T : List Tie} (hT : ∀ t ∈ T, t.1 < n ∧ t.2.1 < n) {lf : List Int} {s : Fs} (F : Forest n T lf s) (h : NoOdd T lf s.y) {a b : Nat} (ha : a < n) (hb : b < n) (e : s.h a ≠ s.h b) : ∀ v : Bool, ∃ x ∈ waysL T lf n, decide (at0 x a 0 = at0 x b 0) = v := by
  have f1 := row_sol hT (sol_spr F h)
  have hs : Sol n T lf fun p => if s.h p = s.h a then 1 - s.y p else s.y p := by
    refine (sol_iff hT F h _).mpr ⟨fun p hp => ?_, fun p hp => ?_⟩
    · have := F.y01 p hp
      split <;> omega
    · have y1 := F.y01 p hp
      show (if s.h p = s.h a then 1 - s.y p else s.y p) = xo (s.y p) (if s.h (s.h p) = s.h a then 1 - s.y (s.h p) else s.y (s.h p))
      rw [F.hh p hp, F.yh p hp]
      unfold xo
      split <;> split <;> omega
  have f2 := row_sol hT hs
  have e1 : decide (fn ((List.range n).map s.y) a = fn ((List.range n).map s.y) b) = decide (s.y a = s.y b) := by rw [fn_map ha, fn_map hb]
  have e2 : decide (fn ((List.range n).map fun p => if s.h p = s.h a then 1 - s.y p else s.y p) a = fn ((List.range n).map fun p => if s.h p = s.h a then 1 - s.y p else s.y p) b) = !(decide (s.y a = s.y b)) := by
    rw [fn_map ha, fn_map hb, if_pos rfl, if_neg (fun z => e z.symm)]
    have y1 := F.y01 a ha
    have y2 := F.y01 b hb
    rcases y1 with y1 | y1 <;> rcases y2 with y2 | y2 <;> rw [y1, y2] <;> simp
  intro v
  by_cases c : decide (s.y a = s.y b) = v
  · exact ⟨_, f1, by rw [← c]; exact e1⟩
  · refine ⟨_, f2, Eq.trans e2 ?_⟩
    cases v <;> simpa using c
/-! ### groups, by merging -/
def mrg (g : Nat → Nat) (t : Tie) : Nat → Nat := fun p => if g p = g t.1 ∨ g p = g t.2.1 then min (g t.1) (g t.2.1) else g p
def GInv (n : Nat) (T : List Tie) (s : Fs) (k : Nat) (g : Nat → Nat) : Prop := (∀ p, p < n → g p ≤ p ∧ s.h (g p) = s.h p) ∧ ∀ i, i < k → g (at0 T i d0).1 = g (at0 T i d0).2.1
theorem mrg_inv {n : Nat} {T : List Tie} (hT : ∀ t ∈ T, t.1 < n ∧ t.2.1 < n) {s : Fs} (F : Forest n T [] s) {k i : Nat} {g : Nat → Nat} (hk : k ≤ T.length) (hi : i < T.length) (G : GInv n T s k g) : GInv n T s k (mrg g (at0 T i d0)) ∧ mrg g (at0 T i d0) (at0 T i d0).1 = mrg g (at0 T i d0) (at0 T i d0).2.1 := by
  have hm := hT _ (at0_mem (d := d0) hi)
  have e := F.tie i _ (at0_get (d := d0) hi) List.not_mem_nil
  generalize at0 T i d0 = t at hm e
  obtain ⟨a1, a2⟩ := G.1 _ hm.1
  obtain ⟨b1, b2⟩ := G.1 _ hm.2
  refine ⟨⟨fun p hp => ?_, fun j hj => ?_⟩, ?_⟩
  · obtain ⟨c1, c2⟩ := G.1 p hp
    unfold mrg
    by_cases c : g p = g t.1 ∨ g p = g t.2.1
    · rw [if_pos c]
      refine ⟨by omega, ?_⟩
      rcases Nat.le_total (g t.1) (g t.2.1) with z | z
      · rw [Nat.min_eq_left z, a2]
        rcases c with c | c
        · rw [← c2, c, a2]
        · rw [← c2, c, b2, e]
      · rw [Nat.min_eq_right z, b2]
        rcases c with c | c
        · rw [← c2, c, a2, e]
        · rw [← c2, c, b2]
    · rw [if_neg c]; exact ⟨c1, c2⟩
  · have := G.2 j hj
    show mrg g t _ = mrg g t _
    unfold mrg
    rw [this]
  · unfold mrg
    rw [if_pos (.inl rfl), if_pos (.inr rfl)]
theorem ginv_all {n : Nat} {T : List Tie} (hT : ∀ t ∈ T, t.1 < n ∧ t.2.1 < n) {s : Fs} (F : Forest n T [] s) {g : Nat → Nat} (G : GInv n T s T.length g) : ∀ p, p < n → g p = s.h p := by
  have path : ∀ {a b : Nat} {w : List Int} {x : Int}, Pth T [] a w b x → g a = g b := by
    intro a b w x hp
    induction hp with
    | nil => rfl
    | snoc _ hi _ hat ih =>
      have hl := (List.getElem?_eq_some_iff.mp hi).1
      have := G.2 _ hl
      rw [at0_get' hi] at this
      rw [ih]
      unfold isAt at hat
      unfold oth
      split
      · next c => rw [← this, ← c]
      · next c => rcases hat with h | h
                  · exact absurd h.symm c
                  · rw [h, this]
  intro p hp
  obtain ⟨a1, a2⟩ := G.1 p hp
  have hq : s.h p < n := Nat.lt_of_le_of_lt (F.hle p hp) hp
  have e := path (F.path p hp)
  have l1 := (G.1 _ hq).1
  have l2 := F.hle (g p) (by omega)
  omega
theorem ginv_0 (n : Nat) (T : List Tie) (s : Fs) : GInv n T s 0 id := ⟨fun p _ => ⟨Nat.le_refl _, rfl⟩, fun i h => absurd h (Nat.not_lt_zero _)⟩
/-! ### rounds -/
def folw (T : List Tie) : List Int → Nat → Option Nat
  | [], p => some p
  | i :: r, p => if isAt (at0 T i.toNat d0) p then folw T r (oth (at0 T i.toNat d0) p) else none
theorem folw_app {T : List Tie} : ∀ {s r : List Int} {p : Nat}, folw T (s ++ r) p = (folw T s p).bind (folw T r)
  | [], _, _ => rfl
  | i :: s, r, p => by
    show (if _ then folw T (s ++ r) _ else none) = (if _ then folw T s _ else none).bind _
    split
    · exact folw_app
    · rfl
def oddN (T : List Tie) (s : List Int) : Nat := (s.filter fun i => !(at0 T i.toNat d0).2.2).length
def goR (n : Nat) (T : List Tie) (s : List Int) : Bool := (List.range n).any fun p => decide (folw T s p = some p)
def isRound (n : Nat) (T : List Tie) (s : List Int) : Bool := decide (oddN T s % 2 = 1) && goR n T s
theorem folw_one {T : List Tie} {i p : Nat} (h : isAt (at0 T i d0) p) : folw T [(i : Int)] p = some (oth (at0 T i d0) p) := by
  show (if isAt (at0 T (i : Int).toNat d0) p then some (oth (at0 T (i : Int).toNat d0) p) else none) = _
  rw [Int.toNat_natCast, if_pos h]
theorem oddN_app {T : List Tie} {s r : List Int} : oddN T (s ++ r) = oddN T s + oddN T r := by simp [oddN]
theorem oddN_one {T : List Tie} {i : Nat} : oddN T [(i : Int)] = if (at0 T i d0).2.2 = true then 0 else 1 := by
  unfold oddN
  rw [List.filter_cons, Int.toNat_natCast]
  cases (at0 T i d0).2.2 <;> rfl
theorem Pth.goes {T : List Tie} {lf : List Int} {a b : Nat} {s : List Int} {x : Int} (h : Pth T lf a s b x) : folw T s a = some b ∧ folw T s.reverse b = some a ∧ x = ((oddN T s % 2 : Nat) : Int) ∧ ∀ v ∈ s, 0 ≤ v ∧ v < T.length := by
  induction h with
  | nil => exact ⟨rfl, rfl, rfl, by simp⟩
  | @snoc s b x i t hp hi hlf hat ih =>
    obtain ⟨h1, h2, h3, h4⟩ := ih
    have e := at0_get' (d := d0) hi
    have hl := (List.getElem?_eq_some_iff.mp hi).1
    obtain ⟨b1, b2⟩ := isAt_oth hat
    refine ⟨?_, ?_, ?_, fun v hv => ?_⟩
    · rw [folw_app, h1]
      show folw T [(i : Int)] b = _
      rw [folw_one (by rw [e]; exact hat), e]
    · rw [List.reverse_append]
      show folw T ([(i : Int)] ++ s.reverse) _ = _
      rw [folw_app, folw_one (by rw [e]; exact b1), e, b2]
      exact h2
    · rw [oddN_app, oddN_one, e]
      split <;> omega
    · rcases List.mem_append.mp hv with h | h
      · exact h4 v h
      · rw [List.mem_singleton.mp h]; omega
theorem oddN_rev {T : List Tie} {s : List Int} : oddN T s.reverse = oddN T s := by simp [oddN]
/-- the round of an odd tie -/
theorem round_ok {n : Nat} {T : List Tie} (hT : ∀ t ∈ T, t.1 < n ∧ t.2.1 < n) {s : Fs} (F : Forest n T [] s) {i : Nat} (hi : i < T.length) (hodd : decide (s.y (at0 T i d0).1 = s.y (at0 T i d0).2.1) ≠ (at0 T i d0).2.2) :
    isRound n T (s.w (at0 T i d0).1 ++ [(i : Int)] ++ (s.w (at0 T i d0).2.1).reverse) = true ∧ ∀ v ∈ s.w (at0 T i d0).1 ++ [(i : Int)] ++ (s.w (at0 T i d0).2.1).reverse, 0 ≤ v ∧ v < T.length := by
  have hm := hT _ (at0_mem (d := d0) hi)
  have e := F.tie i _ (at0_get (d := d0) hi) List.not_mem_nil
  have hone : folw T [(i : Int)] (at0 T i d0).1 = some (at0 T i d0).2.1 := by rw [folw_one (.inl rfl), oth_fst]
  have hodd1 := oddN_one (T := T) (i := i)
  generalize at0 T i d0 = t at hm e hodd hone hodd1
  obtain ⟨a1, a2, a3, a4⟩ := (F.path _ hm.1).goes
  obtain ⟨b1, b2, b3, b4⟩ := (F.path _ hm.2).goes
  have y1 := F.y01 _ hm.1
  have y2 := F.y01 _ hm.2
  refine ⟨?_, fun v hv => ?_⟩
  · unfold isRound
    rw [Bool.and_eq_true]
    constructor
    · rw [oddN_app, oddN_app, oddN_rev, hodd1]
      rcases y1 with y1 | y1 <;> rcases y2 with y2 | y2 <;> rw [y1, y2] at hodd <;> cases ht : t.2.2 <;> rw [ht] at hodd <;> simp at hodd ⊢ <;> omega
    · unfold goR
      rw [List.any_eq_true]
      refine ⟨s.h t.1, List.mem_range.mpr (Nat.lt_of_le_of_lt (F.hle _ hm.1) hm.1), ?_⟩
      rw [decide_eq_true_eq, folw_app, folw_app, a1]
      show ((folw T [(i : Int)] t.1).bind _) = _
      rw [hone]
      show folw T (s.w t.2.1).reverse t.2.1 = _
      rw [b2, e]
  · rcases List.mem_append.mp hv with h | h
    · rcases List.mem_append.mp h with h | h
      · exact a4 v h
      · rw [List.mem_singleton.mp h]; omega
    · exact b4 v (List.mem_reverse.mp h)
/-! ### the first odd tie, rising rows, the fewest that are cut -/
def oddI (T : List Tie) (lf : List Int) (y : Nat → Int) (i : Nat) : Bool := !decide ((i : Int) ∈ lf) && !(decide (y (at0 T i d0).1 = y (at0 T i d0).2.1) == (at0 T i d0).2.2)
def firstO (T : List Tie) (lf : List Int) (y : Nat → Int) : Option Nat := (List.range T.length).find? (oddI T lf y)
def optI : Option Nat → Int
  | some i => (i : Nat)
  | none => -1
theorem optI_neg {o : Option Nat} : optI o < 0 ↔ o = none := by
  cases o with
  | none => exact ⟨fun _ => rfl, fun _ => by decide⟩
  | some i => exact ⟨fun h => by have : optI (some i) = (i : Nat) := rfl; omega, fun h => by cases h⟩
theorem firstO_none {T : List Tie} {lf : List Int} {y : Nat → Int} : firstO T lf y = none ↔ NoOdd T lf y := by
  unfold firstO NoOdd
  rw [List.find?_eq_none]
  constructor
  · intro h i t hi hlf
    have hl := (List.getElem?_eq_some_iff.mp hi).1
    have := h i (List.mem_range.mpr hl)
    unfold oddI at this
    rw [at0_get' hi] at this
    simpa [hlf] using this
  · intro h i hi
    have := h i _ (at0_get (d := d0) (List.mem_range.mp hi))
    unfold oddI
    by_cases c : (i : Int) ∈ lf
    · simp [c]
    · simp [c, this c]
theorem firstO_some {T : List Tie} {lf : List Int} {y : Nat → Int} {i : Nat} (h : firstO T lf y = some i) : i < T.length ∧ (i : Int) ∉ lf ∧ decide (y (at0 T i d0).1 = y (at0 T i d0).2.1) ≠ (at0 T i d0).2.2 := by
  have h1 := List.find?_some h
  have h2 := List.mem_of_find?_eq_some h
  unfold oddI at h1
  rw [Bool.and_eq_true] at h1
  refine ⟨List.mem_range.mp h2, by simpa using h1.1, fun z => ?_⟩
  rw [z] at h1
  simp at h1
def lastD (s : List Int) : Int := at0 s (s.length - 1) 0
def rs (m : Nat) : Nat → List (List Int)
  | 0 => [[]]
  | k + 1 => (rs m k).flatMap fun s => ((List.range m).filter fun (a : Nat) => decide (s = [] ∨ lastD s < (a : Int))).map fun (a : Nat) => s ++ [(a : Int)]
/-- whether pieces can lie without these ties -/
def cutOk (n : Nat) (T : List Tie) (s : List Int) : Bool := decide (firstO T s (sprT n T s).y = none)
def cutAt (n : Nat) (T : List Tie) (k : Nat) : Option (List Int) := (rs T.length k).find? (cutOk n T)
theorem cutOk_ways {n : Nat} {T : List Tie} (hT : ∀ t ∈ T, t.1 < n ∧ t.2.1 < n) {s : List Int} : cutOk n T s = decide (waysL T s n ≠ []) := by
  unfold cutOk
  refine decide_eq_decide.mpr ?_
  rw [firstO_none, ways_nil hT (sprT_forest hT)]
theorem upTo_mem (m : Nat) : ∀ k, k ≤ m → (List.range k).map (fun (a : Nat) => (a : Int)) ∈ rs m k
  | 0, _ => .head _
  | k + 1, h => by
    have ih := upTo_mem m k (by omega)
    show _ ∈ (rs m k).flatMap _
    rw [List.mem_flatMap]
    refine ⟨_, ih, ?_⟩
    rw [List.mem_map]
    refine ⟨k, List.mem_filter.mpr ⟨List.mem_range.mpr (by omega), ?_⟩, by rw [List.range_succ, List.map_append]; rfl⟩
    rw [decide_eq_true_eq]
    cases k with
    | zero => exact .inl rfl
    | succ k =>
      refine .inr ?_
      have : lastD ((List.range (k + 1)).map fun (a : Nat) => (a : Int)) = (k : Int) := by
        unfold lastD
        rw [at0_of (by simp)]
        simp
      rw [this]; omega
theorem cut_ex {n : Nat} {T : List Tie} : ∃ s, cutAt n T T.length = some s := by
  cases h : cutAt n T T.length with
  | some s => exact ⟨s, rfl⟩
  | none =>
    have := List.find?_eq_none.mp h _ (upTo_mem T.length T.length (Nat.le_refl _))
    refine absurd ?_ this
    unfold cutOk
    rw [decide_eq_true_eq, firstO_none]
    intro i t hi hlf
    have hl := (List.getElem?_eq_some_iff.mp hi).1
    exact absurd (List.mem_map.mpr ⟨i, List.mem_range.mpr hl, rfl⟩) hlf
/-! ### the defs, said -/
def dTie (t : Tie) : PyData := .tuple [.int (t.1 : Nat), .int (t.2.1 : Nat), .bool t.2.2]
def dFac (n : Nat) (T : List Tie) : PyData := .tuple [.int (n : Nat), .tuple (T.map dTie)]
def FacOk (n : Nat) (T : List Tie) : Prop := 1 ≤ n ∧ n ≤ 8 ∧ T.length ≤ 14 ∧ ∀ t ∈ T, t.1 < n ∧ t.2.1 < n
def flagB : PyData → Bool
  | .bool _ => true
  | _ => false
def tieB (n : Int) : PyData → Bool
  | .tuple [a, b, c] => flagB c && (isIntB a 0 (n - 1) && isIntB b 0 (n - 1))
  | _ => false
def facB : PyData → Bool
  | .tuple [a, b] => isIntB a 1 8 && (isTupB b 0 14 && (tupleD b).all (tieB (intD a)))
  | _ => false
where tupleD : PyData → List PyData
  | .tuple es => es
  | _ => []
theorem flagB_some {v : PyData} (h : flagB v = true) : ∃ b, v = .bool b := by
  unfold flagB at h
  split at h
  · exact ⟨_, rfl⟩
  · cases h
theorem isIntB_some {v : PyData} {a b : Int} (h : isIntB v a b = true) : ∃ i, v = .int i ∧ a ≤ i ∧ i ≤ b := by
  unfold isIntB at h
  split at h
  · simp at h; exact ⟨_, rfl, h⟩
  · cases h
theorem tieB_some {n : Nat} {v : PyData} (h : tieB n v = true) : ∃ t : Tie, v = dTie t ∧ t.1 < n ∧ t.2.1 < n := by
  unfold tieB at h
  split at h
  · rename_i a b c
    simp only [Bool.and_eq_true] at h
    obtain ⟨c, rfl⟩ := flagB_some h.1
    obtain ⟨a, rfl, a1, a2⟩ := isIntB_some h.2.1
    obtain ⟨b, rfl, b1, b2⟩ := isIntB_some h.2.2
    refine ⟨(a.toNat, b.toNat, c), ?_, ?_, ?_⟩
    · unfold dTie
      dsimp only
      rw [Int.toNat_of_nonneg a1, Int.toNat_of_nonneg b1]
    · show a.toNat < n; omega
    · show b.toNat < n; omega
  · cases h
theorem tieB_dTie {n : Nat} {t : Tie} : tieB n (dTie t) = decide (t.1 < n ∧ t.2.1 < n) := by
  show (true && ((decide (0 ≤ (t.1 : Int)) && decide ((t.1 : Int) ≤ n - 1)) && (decide (0 ≤ (t.2.1 : Int)) && decide ((t.2.1 : Int) ≤ n - 1)))) = _
  rw [Bool.eq_iff_iff]
  simp
  omega
theorem ties_some {n : Nat} : ∀ {es : List PyData}, es.all (tieB n) = true → ∃ T : List Tie, es = T.map dTie ∧ ∀ t ∈ T, t.1 < n ∧ t.2.1 < n
  | [], _ => ⟨[], rfl, fun t h => by cases h⟩
  | e :: r, h => by
    rw [List.all_cons, Bool.and_eq_true] at h
    obtain ⟨t, rfl, h1⟩ := tieB_some h.1
    obtain ⟨T, rfl, h2⟩ := ties_some h.2
    refine ⟨t :: T, rfl, fun u hu => ?_⟩
    rcases List.mem_cons.mp hu with rfl | hu
    · exact h1
    · exact h2 u hu
theorem facB_some {v : PyData} (h : facB v = true) : ∃ n T, FacOk n T ∧ v = dFac n T := by
  unfold facB at h
  split at h
  · rename_i a b
    simp only [Bool.and_eq_true] at h
    obtain ⟨a, rfl, a1, a2⟩ := isIntB_some h.1
    obtain ⟨es, rfl, b1, b2⟩ := isTupB_tup h.2.1
    obtain ⟨n, rfl⟩ : ∃ n : Nat, a = n := ⟨a.toNat, by omega⟩
    obtain ⟨T, rfl, h2⟩ := ties_some (n := n) h.2.2
    refine ⟨n, T, ⟨by omega, by omega, ?_, h2⟩, rfl⟩
    rw [List.length_map] at b2; omega
  · cases h
theorem facB_dFac {n : Nat} {T : List Tie} (h : FacOk n T) : facB (dFac n T) = true := by
  obtain ⟨h1, h2, h3, h4⟩ := h
  show ((decide (1 ≤ (n : Int)) && decide ((n : Int) ≤ 8)) && ((decide (0 ≤ ((T.map dTie).length : Int)) && decide (((T.map dTie).length : Int) ≤ 14)) && (T.map dTie).all (tieB n))) = true
  rw [List.length_map, List.all_map]
  have : T.all (tieB n ∘ dTie) = true := by
    rw [List.all_eq_true]
    intro t ht
    show tieB n (dTie t) = true
    rw [tieB_dTie]
    simpa using h4 t ht
  rw [this]
  simp
  omega
def facOr (v : PyData) (R : Nat → List Tie → Prop) (X : Str → Prop) : Prop := (facB v = false ∧ X "facing") ∨ ∃ n T, FacOk n T ∧ v = dFac n T ∧ R n T
def sprD (n : Nat) (s : Fs) : PyData := .tuple [.list ((List.range n).map fun p => .int (s.y p)), .list ((List.range n).map fun p => .int (s.h p : Nat)), .list ((List.range n).map fun p => tI (s.w p))]
/-- the forest of all ties -/
def sT (n : Nat) (T : List Tie) : Fs := sprT n T []
def oddT (n : Nat) (T : List Tie) : Option Nat := firstO T [] (sT n T).y
def roundT (n : Nat) (T : List Tie) : Option (List Int) := (oddT n T).map fun i => (sT n T).w (at0 T i d0).1 ++ [(i : Int)] ++ ((sT n T).w (at0 T i d0).2.1).reverse
def optD : Option (List Int) → PyData
  | some s => tI s
  | none => .none
def lieT (n : Nat) (T : List Tie) : Option (List Int) := match oddT n T with
  | some _ => none
  | none => some ((List.range n).map (sT n T).y)
def StOk (T : List Tie) (s : List Int) : Prop := ∀ v ∈ s, 0 ≤ v ∧ v < T.length
def CutR (n : Nat) (T : List Tie) (Q : PyData → Prop) : Prop := ∀ k s, (∀ j, j < k → cutAt n T j = none) → cutAt n T k = some s → Q (tI s)
def sg_is_flag : Sig where
  ps := ["value"]
  row := false
  kws := []
  sp := fun ds Q X => ∃ v, ds = [v] ∧ Q (.bool (flagB v))
def sg_is_tie : Sig where
  ps := ["value", "many"]
  row := false
  kws := []
  sp := fun ds Q X => ∃ v n, ds = [v, .int n] ∧ Q (.bool (tieB n v))
def sg_is_facing : Sig where
  ps := ["value"]
  row := false
  kws := []
  sp := fun ds Q X => ∃ v, ds = [v] ∧ Q (.bool (facB v))
def sg_spread : Sig where
  ps := ["facing", "left"]
  row := false
  kws := []
  sp := fun ds Q X => ∃ n T lf, ds = [dFac n T, tI lf] ∧ FacOk n T ∧ Q (sprD n (sprT n T lf))
def sg_first_odd : Sig where
  ps := ["facing", "left"]
  row := false
  kws := []
  sp := fun ds Q X => ∃ n T lf, ds = [dFac n T, tI lf] ∧ FacOk n T ∧ Q (.int (optI (firstO T lf (sprT n T lf).y)))
def sg_lying : Sig where
  ps := ["facing"]
  row := false
  kws := []
  sp := fun ds Q X => ∃ v, ds = [v] ∧ facOr v (fun n T => Q (optD (lieT n T))) X
def sg_is_lying : Sig where
  ps := ["facing", "value"]
  row := false
  kws := [["value"]]
  sp := fun ds Q X => ∃ v u, ds = [v, u] ∧ facOr v (fun n T => (isIntsB u n 0 1 = false ∧ Q (.bool false)) ∨ ∃ x, u = tI x ∧ x.length = n ∧ (∀ v ∈ x, v = 0 ∨ v = 1) ∧ Q (.bool (decide (x ∈ waysL T [] n)))) X
def sg_odd_round : Sig where
  ps := ["facing"]
  row := false
  kws := []
  sp := fun ds Q X => ∃ v, ds = [v] ∧ facOr v (fun n T => Q (optD (roundT n T))) X
def ridB (m : Nat) (u : PyData) : Bool := isTupB u 1 40 && isIntsB u (lenD u) 0 ((m : Int) - 1)
def sg_is_odd_round : Sig where
  ps := ["facing", "value"]
  row := false
  kws := []
  sp := fun ds Q X => ∃ v u, ds = [v, u] ∧ facOr v (fun n T => (ridB T.length u = false ∧ Q (.bool false)) ∨ ∃ s, u = tI s ∧ 1 ≤ s.length ∧ s.length ≤ 40 ∧ StOk T s ∧ Q (.bool (isRound n T s))) X
def sg_goes_round : Sig where
  ps := ["facing", "steps", "start"]
  row := false
  kws := []
  sp := fun ds Q X => ∃ n T s, ∃ p : Nat, ds = [dFac n T, tI s, .int (p : Nat)] ∧ FacOk n T ∧ StOk T s ∧ Q (.bool (decide (folw T s p = some p)))
def sg_ways_to_lie : Sig where
  ps := ["facing"]
  row := false
  kws := []
  sp := fun ds Q X => ∃ v, ds = [v] ∧ facOr v (fun n T => Q (.int ((match oddT n T with | some _ => 0 | none => 2 ^ (headsOf n (sT n T).h).length : Nat)))) X
def tiedD (n : Nat) (T : List Tie) (p q : Nat) : PyData := if (sT n T).h p = (sT n T).h q then .bool (decide ((sT n T).y p = (sT n T).y q)) else .none
def sg_tied : Sig where
  ps := ["facing", "one", "other"]
  row := false
  kws := [["other"]]
  sp := fun ds Q X => ∃ v a b, ds = [v, a, b] ∧ facOr v (fun n T => (oddT n T ≠ none ∧ X "facing") ∨ (oddT n T = none ∧ ((isIntB a 0 ((n : Int) - 1) = false ∧ X "one") ∨ ∃ p : Nat, p < n ∧ a = .int (p : Nat) ∧ ((isIntB b 0 ((n : Int) - 1) = false ∧ X "other") ∨ ∃ q : Nat, q < n ∧ b = .int (q : Nat) ∧ Q (tiedD n T p q))))) X
def sg_chosen (i : Nat) : Sig where
  ps := ["many", "size"]
  row := false
  kws := []
  sp := fun ds Q X => ∃ m k : Nat, ds = [.int (m : Nat), .int (k : Nat)] ∧ m ≤ 8 ∧ k ≤ 8 ∧ k ≤ i ∧ Q (.list ((rs m k).map tI))
def sg_subsets : Sig where
  ps := ["many", "size"]
  row := false
  kws := [["size"]]
  sp := fun ds Q X => ∃ a b, ds = [a, b] ∧ ((isIntB a 0 14 = false ∧ X "many") ∨ (isIntB a 0 14 = true ∧ isIntB b 0 14 = false ∧ X "size") ∨ ∃ m k : Nat, m ≤ 8 ∧ k ≤ 8 ∧ a = .int (m : Nat) ∧ b = .int (k : Nat) ∧ Q (.tuple ((rs m k).map tI)))
def sg_fewest_cut : Sig where
  ps := ["facing"]
  row := false
  kws := []
  sp := fun ds Q X => ∃ v, ds = [v] ∧ facOr v (fun n T => T.length ≤ 8 ∧ CutR n T Q) X
def sg__law_facing : Sig where
  ps := ["row"]
  row := true
  kws := []
  sp := fun ds Q X => ds = [] ∧ ∀ n T, FacOk n T → Q (dFac n T)
def sg__law_ways : Sig where
  ps := ["facing", "left"]
  row := false
  kws := []
  sp := fun ds Q X => ∃ n T lf, ds = [dFac n T, tI lf] ∧ FacOk n T ∧ Q (.list ((waysL T lf n).map tI))
def sg__law_round : Sig where
  ps := ["facing", "steps"]
  row := false
  kws := []
  sp := fun ds Q X => ∃ n T s, ds = [dFac n T, tI s] ∧ FacOk n T ∧ StOk T s ∧ s.length ≤ 40 ∧ Q (.bool (isRound n T s))
def sg__law_groups : Sig where
  ps := ["facing"]
  row := false
  kws := []
  sp := fun ds Q X => ∃ n T, ds = [dFac n T] ∧ FacOk n T ∧ Q (.list ((List.range n).map fun p => .int ((sT n T).h p : Nat)))
def sg__law_tied : Sig where
  ps := ["row", "facing", "ways"]
  row := true
  kws := []
  sp := fun ds Q X => ∃ n T, ds = [dFac n T, .list ((waysL T [] n).map tI)] ∧ FacOk n T ∧ Q (.bool true)
def sg__law_judged : Sig where
  ps := ["row", "facing", "ways", "steps"]
  row := true
  kws := []
  sp := fun ds Q X => ∃ n T, ds = [dFac n T, .list ((waysL T [] n).map tI), optD (roundT n T)] ∧ FacOk n T ∧ Q (.bool true)
def sg__law_cut : Sig where
  ps := ["facing"]
  row := false
  kws := []
  sp := fun ds Q X => ∃ n T, ds = [dFac n T] ∧ FacOk n T ∧ T.length ≤ 8 ∧ CutR n T Q
theorem facOr_imp {v : PyData} {R R' : Nat → List Tie → Prop} {X : Str → Prop} (h : facOr v R X) (hi : ∀ n T, FacOk n T → v = dFac n T → R n T → R' n T) : facOr v R' X := by
  rcases h with h | ⟨n, T, o, e, h⟩
  · exact .inl h
  · exact .inr ⟨n, T, o, e, hi n T o e h⟩
theorem CutR_uniq {n : Nat} {T : List Tie} {k k' : Nat} {s s' : List Int} (h1 : ∀ j, j < k → cutAt n T j = none) (h2 : cutAt n T k = some s) (h1' : ∀ j, j < k' → cutAt n T j = none) (h2' : cutAt n T k' = some s') : s = s' := by
  have : k = k' := by
    rcases Nat.lt_trichotomy k k' with h | h | h
    · rw [h1' k h] at h2; cases h2
    · exact h
    · rw [h1 k' h] at h2'; cases h2'
  subst this
  rw [h2] at h2'
  cases h2'; rfl
end Dl

set_option Elab.async false
set_option linter.all false
set_option maxRecDepth 100000
set_option maxHeartbeats 8000000
namespace Dl
open PySem PySem.Spec PyProof.Rows L2
def gam_is_flag : Gam := gm [] []
@[simp] theorem rw_is_flag : sg_is_flag.row = false := rfl
def gam_spread : Gam := gm [] []
@[simp] theorem rw_spread : sg_spread.row = false := rfl
def gam_goes_round : Gam := gm [] []
@[simp] theorem rw_goes_round : sg_goes_round.row = false := rfl
def gam__law_ways : Gam := gm [] []
@[simp] theorem rw__law_ways : sg__law_ways.row = false := rfl
def gam__law_round : Gam := gm [] []
@[simp] theorem rw__law_round : sg__law_round.row = false := rfl
def gam__law_groups : Gam := gm [] []
@[simp] theorem rw__law_groups : sg__law_groups.row = false := rfl
def gam_is_tie : Gam := gm [("is_tuple", sg_is_tuple), ("is_flag", sg_is_flag), ("is_integer", sg_is_integer)] []
@[simp] theorem rw_is_tie : sg_is_tie.row = false := rfl
@[simp] theorem gf_is_tie_is_tuple : gam_is_tie.funs "is_tuple" = some sg_is_tuple := rfl
@[simp] theorem gf_is_tie_is_flag : gam_is_tie.funs "is_flag" = some sg_is_flag := rfl
@[simp] theorem gf_is_tie_is_integer : gam_is_tie.funs "is_integer" = some sg_is_integer := rfl
def gam_first_odd : Gam := gm [("spread", sg_spread)] []
@[simp] theorem rw_first_odd : sg_first_odd.row = false := rfl
@[simp] theorem gf_first_odd_spread : gam_first_odd.funs "spread" = some sg_spread := rfl
def gam__law_facing : Gam := gm [("_law_taken", sgTaken)] []
@[simp] theorem rw__law_facing : sg__law_facing.row = true := rfl
@[simp] theorem gf__law_facing__law_taken : gam__law_facing.funs "_law_taken" = some sgTaken := rfl
def gam__law_cut : Gam := gm [("_law_ways", sg__law_ways)] []
@[simp] theorem rw__law_cut : sg__law_cut.row = false := rfl
@[simp] theorem gf__law_cut__law_ways : gam__law_cut.funs "_law_ways" = some sg__law_ways := rfl
def gam_is_facing : Gam := gm [("is_tuple", sg_is_tuple), ("is_integer", sg_is_integer), ("is_tie", sg_is_tie)] [("MOST_PIECES", .int (8)), ("MOST_TIES", .int (14))]
@[simp] theorem rw_is_facing : sg_is_facing.row = false := rfl
@[simp] theorem gf_is_facing_is_tuple : gam_is_facing.funs "is_tuple" = some sg_is_tuple := rfl
@[simp] theorem gf_is_facing_is_integer : gam_is_facing.funs "is_integer" = some sg_is_integer := rfl
@[simp] theorem gf_is_facing_is_tie : gam_is_facing.funs "is_tie" = some sg_is_tie := rfl
@[simp] theorem gc_is_facing_MOST_PIECES : gam_is_facing.cons "MOST_PIECES" = some (.int (8)) := rfl
@[simp] theorem gc_is_facing_MOST_TIES : gam_is_facing.cons "MOST_TIES" = some (.int (14)) := rfl
def gam_lying : Gam := gm [("demand", sgDemand), ("is_facing", sg_is_facing), ("first_odd", sg_first_odd), ("spread", sg_spread)] []
@[simp] theorem rw_lying : sg_lying.row = false := rfl
@[simp] theorem gf_lying_demand : gam_lying.funs "demand" = some sgDemand := rfl
@[simp] theorem gf_lying_is_facing : gam_lying.funs "is_facing" = some sg_is_facing := rfl
@[simp] theorem gf_lying_first_odd : gam_lying.funs "first_odd" = some sg_first_odd := rfl
@[simp] theorem gf_lying_spread : gam_lying.funs "spread" = some sg_spread := rfl
def gam_is_lying : Gam := gm [("demand", sgDemand), ("is_facing", sg_is_facing), ("is_integers", sg_is_integers)] []
@[simp] theorem rw_is_lying : sg_is_lying.row = false := rfl
@[simp] theorem gf_is_lying_demand : gam_is_lying.funs "demand" = some sgDemand := rfl
@[simp] theorem gf_is_lying_is_facing : gam_is_lying.funs "is_facing" = some sg_is_facing := rfl
@[simp] theorem gf_is_lying_is_integers : gam_is_lying.funs "is_integers" = some sg_is_integers := rfl
def gam_odd_round : Gam := gm [("demand", sgDemand), ("first_odd", sg_first_odd), ("is_facing", sg_is_facing), ("spread", sg_spread)] []
@[simp] theorem rw_odd_round : sg_odd_round.row = false := rfl
@[simp] theorem gf_odd_round_demand : gam_odd_round.funs "demand" = some sgDemand := rfl
@[simp] theorem gf_odd_round_first_odd : gam_odd_round.funs "first_odd" = some sg_first_odd := rfl
@[simp] theorem gf_odd_round_is_facing : gam_odd_round.funs "is_facing" = some sg_is_facing := rfl
@[simp] theorem gf_odd_round_spread : gam_odd_round.funs "spread" = some sg_spread := rfl
def gam_is_odd_round : Gam := gm [("demand", sgDemand), ("is_facing", sg_is_facing), ("is_tuple", sg_is_tuple), ("is_integers", sg_is_integers), ("goes_round", sg_goes_round)] []
@[simp] theorem rw_is_odd_round : sg_is_odd_round.row = false := rfl
@[simp] theorem gf_is_odd_round_demand : gam_is_odd_round.funs "demand" = some sgDemand := rfl
@[simp] theorem gf_is_odd_round_is_facing : gam_is_odd_round.funs "is_facing" = some sg_is_facing := rfl
@[simp] theorem gf_is_odd_round_is_tuple : gam_is_odd_round.funs "is_tuple" = some sg_is_tuple := rfl
@[simp] theorem gf_is_odd_round_is_integers : gam_is_odd_round.funs "is_integers" = some sg_is_integers := rfl
@[simp] theorem gf_is_odd_round_goes_round : gam_is_odd_round.funs "goes_round" = some sg_goes_round := rfl
def gam_ways_to_lie : Gam := gm [("demand", sgDemand), ("is_facing", sg_is_facing), ("first_odd", sg_first_odd), ("spread", sg_spread)] []
@[simp] theorem rw_ways_to_lie : sg_ways_to_lie.row = false := rfl
@[simp] theorem gf_ways_to_lie_demand : gam_ways_to_lie.funs "demand" = some sgDemand := rfl
@[simp] theorem gf_ways_to_lie_is_facing : gam_ways_to_lie.funs "is_facing" = some sg_is_facing := rfl
@[simp] theorem gf_ways_to_lie_first_odd : gam_ways_to_lie.funs "first_odd" = some sg_first_odd := rfl
@[simp] theorem gf_ways_to_lie_spread : gam_ways_to_lie.funs "spread" = some sg_spread := rfl
def gam_tied : Gam := gm [("demand", sgDemand), ("spread", sg_spread), ("is_integer", sg_is_integer), ("is_facing", sg_is_facing), ("first_odd", sg_first_odd)] []
@[simp] theorem rw_tied : sg_tied.row = false := rfl
@[simp] theorem gf_tied_demand : gam_tied.funs "demand" = some sgDemand := rfl
@[simp] theorem gf_tied_spread : gam_tied.funs "spread" = some sg_spread := rfl
@[simp] theorem gf_tied_is_integer : gam_tied.funs "is_integer" = some sg_is_integer := rfl
@[simp] theorem gf_tied_is_facing : gam_tied.funs "is_facing" = some sg_is_facing := rfl
@[simp] theorem gf_tied_first_odd : gam_tied.funs "first_odd" = some sg_first_odd := rfl
def gam__law_judged : Gam := gm [("_law_pick", sgPick), ("is_lying", sg_is_lying), ("is_odd_round", sg_is_odd_round), ("_law_taken", sgTaken), ("_law_round", sg__law_round)] []
@[simp] theorem rw__law_judged : sg__law_judged.row = true := rfl
@[simp] theorem gf__law_judged__law_pick : gam__law_judged.funs "_law_pick" = some sgPick := rfl
@[simp] theorem gf__law_judged_is_lying : gam__law_judged.funs "is_lying" = some sg_is_lying := rfl
@[simp] theorem gf__law_judged_is_odd_round : gam__law_judged.funs "is_odd_round" = some sg_is_odd_round := rfl
@[simp] theorem gf__law_judged__law_taken : gam__law_judged.funs "_law_taken" = some sgTaken := rfl
@[simp] theorem gf__law_judged__law_round : gam__law_judged.funs "_law_round" = some sg__law_round := rfl
def gam__law_tied : Gam := gm [("_law_taken", sgTaken), ("_law_alike", (sgAlike 4)), ("tied", sg_tied)] []
@[simp] theorem rw__law_tied : sg__law_tied.row = true := rfl
@[simp] theorem gf__law_tied__law_taken : gam__law_tied.funs "_law_taken" = some sgTaken := rfl
@[simp] theorem gf__law_tied__law_alike : gam__law_tied.funs "_law_alike" = some (sgAlike 4) := rfl
@[simp] theorem gf__law_tied_tied : gam__law_tied.funs "tied" = some sg_tied := rfl
def gam_chosen : Nat → Gam
  | 0 => gm [] []
  | n + 1 => gm [("chosen", sg_chosen n)] []
@[simp] theorem rw_chosen {n : Nat} : (sg_chosen n).row = false := rfl
@[simp] theorem gf_chosen_chosen {n : Nat} : (gam_chosen (n + 1)).funs "chosen" = some (sg_chosen n) := rfl
def gam_subsets : Gam := gm [("demand", sgDemand), ("is_integer", sg_is_integer), ("chosen", (sg_chosen 14))] [("MOST_TIES", .int (14))]
@[simp] theorem rw_subsets : sg_subsets.row = false := rfl
@[simp] theorem gf_subsets_demand : gam_subsets.funs "demand" = some sgDemand := rfl
@[simp] theorem gf_subsets_is_integer : gam_subsets.funs "is_integer" = some sg_is_integer := rfl
@[simp] theorem gf_subsets_chosen : gam_subsets.funs "chosen" = some (sg_chosen 14) := rfl
@[simp] theorem gc_subsets_MOST_TIES : gam_subsets.cons "MOST_TIES" = some (.int (14)) := rfl
def gam_fewest_cut : Gam := gm [("demand", sgDemand), ("is_facing", sg_is_facing), ("chosen", (sg_chosen 14)), ("first_odd", sg_first_odd)] []
@[simp] theorem rw_fewest_cut : sg_fewest_cut.row = false := rfl
@[simp] theorem gf_fewest_cut_demand : gam_fewest_cut.funs "demand" = some sgDemand := rfl
@[simp] theorem gf_fewest_cut_is_facing : gam_fewest_cut.funs "is_facing" = some sg_is_facing := rfl
@[simp] theorem gf_fewest_cut_chosen : gam_fewest_cut.funs "chosen" = some (sg_chosen 14) := rfl
@[simp] theorem gf_fewest_cut_first_odd : gam_fewest_cut.funs "first_odd" = some sg_first_odd := rfl
def gam__law_case : Gam := gm [("_law_facing", sg__law_facing), ("_law_pick", sgPick), ("_law_ways", sg__law_ways), ("_law_groups", sg__law_groups), ("lying", sg_lying), ("odd_round", sg_odd_round), ("_law_taken", sgTaken), ("_law_alike", (sgAlike 4)), ("_law_tied", sg__law_tied), ("_law_judged", sg__law_judged), ("subsets", sg_subsets), ("is_facing", sg_is_facing), ("ways_to_lie", sg_ways_to_lie), ("_law_round", sg__law_round), ("is_odd_round", sg_is_odd_round), ("fewest_cut", sg_fewest_cut), ("_law_cut", sg__law_cut)] []
@[simp] theorem gf__law_case__law_facing : gam__law_case.funs "_law_facing" = some sg__law_facing := rfl
@[simp] theorem gf__law_case__law_pick : gam__law_case.funs "_law_pick" = some sgPick := rfl
@[simp] theorem gf__law_case__law_ways : gam__law_case.funs "_law_ways" = some sg__law_ways := rfl
@[simp] theorem gf__law_case__law_groups : gam__law_case.funs "_law_groups" = some sg__law_groups := rfl
@[simp] theorem gf__law_case_lying : gam__law_case.funs "lying" = some sg_lying := rfl
@[simp] theorem gf__law_case_odd_round : gam__law_case.funs "odd_round" = some sg_odd_round := rfl
@[simp] theorem gf__law_case__law_taken : gam__law_case.funs "_law_taken" = some sgTaken := rfl
@[simp] theorem gf__law_case__law_alike : gam__law_case.funs "_law_alike" = some (sgAlike 4) := rfl
@[simp] theorem gf__law_case__law_tied : gam__law_case.funs "_law_tied" = some sg__law_tied := rfl
@[simp] theorem gf__law_case__law_judged : gam__law_case.funs "_law_judged" = some sg__law_judged := rfl
@[simp] theorem gf__law_case_subsets : gam__law_case.funs "subsets" = some sg_subsets := rfl
@[simp] theorem gf__law_case_is_facing : gam__law_case.funs "is_facing" = some sg_is_facing := rfl
@[simp] theorem gf__law_case_ways_to_lie : gam__law_case.funs "ways_to_lie" = some sg_ways_to_lie := rfl
@[simp] theorem gf__law_case__law_round : gam__law_case.funs "_law_round" = some sg__law_round := rfl
@[simp] theorem gf__law_case_is_odd_round : gam__law_case.funs "is_odd_round" = some sg_is_odd_round := rfl
@[simp] theorem gf__law_case_fewest_cut : gam__law_case.funs "fewest_cut" = some sg_fewest_cut := rfl
@[simp] theorem gf__law_case__law_cut : gam__law_case.funs "_law_cut" = some sg__law_cut := rfl
theorem ieq {a b : Int} : (a == b) = decide (a = b) := by rw [Bool.eq_iff_iff]; simp
theorem loopT_nil {T : List Tie} {lf : List Int} {first : Nat} {s : Fs} (h : s.line = []) : ∀ f, loopT T lf first f s = s
  | 0 => rfl
  | f + 1 => by unfold loopT; rw [h]
theorem loopT_cons {T : List Tie} {lf : List Int} {first p : Nat} {r : List Nat} {s : Fs} (h : s.line = p :: r) (f : Nat) : loopT T lf first (f + 1) s = loopT T lf first f (visitT lf first p 0 T { s with line := r }) := by
  rw [loopT, h]
theorem visitT_snoc {lf : List Int} {first p : Nat} {t : Tie} : ∀ {r : List Tie} {i : Nat} {s : Fs}, visitT lf first p i (r ++ [t]) s = stepT lf first p (visitT lf first p i r s) (i + r.length) t
  | [], _, _ => rfl
  | u :: r, i, s => by
    show visitT lf first p (i + 1) (r ++ [t]) _ = stepT lf first p (visitT lf first p (i + 1) r _) (i + (r.length + 1)) t
    rw [visitT_snoc, show i + 1 + r.length = i + (r.length + 1) by omega]
theorem popT_inv {n : Nat} {T : List Tie} {lf : List Int} {first p : Nat} {r : List Nat} {s : Fs} (hl : s.line = p :: r) (I : InvT n T lf first s none) : InvT n T lf first { s with line := r } (some (p, 0)) := by
  have hp := I.line p (by rw [hl]; exact .head _)
  refine ⟨I.ylow, I.lt, I.path, I.head, fun q hq => I.line q (by rw [hl]; exact .tail _ hq), fun q hq hlq hc => ?_, fun c hc => ?_, I.fresh, I.root, I.wun⟩
  · exact I.done q hq (by rw [hl]; exact fun z => by rcases List.mem_cons.mp z with z | z; exact hc _ rfl z; exact hlq z) (fun c hc => by cases hc)
  · cases hc
    exact ⟨hp, fun j t hj _ hlt => absurd hlt (Nat.not_lt_zero _)⟩
theorem eqv_int2 (a b : Int) : PyData.eqv (.int a) (.int b) = decide (a = b) := by
  show (a == b) = _
  rw [Bool.eq_iff_iff]; simp
theorem ln_is_flag : ∀ ds Q X, sg_is_flag.sp ds Q X → (if sg_is_flag.row then 1 else 0) + ds.length = sg_is_flag.ps.length := by
  rintro ds Q X ⟨_, rfl, _⟩; rfl
theorem wp_is_flag : ∀ ds Q X, sg_is_flag.sp ds Q X → wpSs gam_is_flag b_is_flag (rho0 1 sg_is_flag.row ds) (postOf Q X) := by
  rintro ds Q X ⟨v, rfl, hq⟩
  simp [b_is_flag]
  have e : isInst v "bool" = flagB v := by cases v <;> rfl
  rw [e]
  exact hq
theorem ln_is_tie : ∀ ds Q X, sg_is_tie.sp ds Q X → (if sg_is_tie.row then 1 else 0) + ds.length = sg_is_tie.ps.length := by
  rintro ds Q X ⟨_, _, rfl, _⟩; rfl
theorem wp_is_tie : ∀ ds Q X, sg_is_tie.sp ds Q X → wpSs gam_is_tie b_is_tie (rho0 3 sg_is_tie.row ds) (postOf Q X) := by
  rintro ds Q X ⟨v, n, rfl, hq⟩
  simp [b_is_tie]
  refine ⟨_, _, _, rfl, ?_⟩
  cases h : isTupB v 3 3 with
  | false =>
    simp
    have : tieB n v = false := by
      unfold tieB
      split
      · simp [isTupB] at h
      · rfl
    rw [this] at hq
    exact hq
  | true =>
    obtain ⟨es, rfl, h1, h2⟩ := isTupB_tup h
    obtain ⟨a, b, c, rfl⟩ : ∃ a b c, es = [a, b, c] := by
      match es, h1, h2 with
      | [a, b, c], _, _ => exact ⟨a, b, c, rfl⟩
      | [], h1, _ => simp at h1
      | [_], h1, _ => simp at h1
      | [_, _], h1, _ => simp at h1
      | _ :: _ :: _ :: _ :: _, _, h2 => simp at h2; omega
    simp
    rw [show atI [a, b, c] 2 = some c from rfl, opt_some]
    refine ⟨_, rfl, ?_⟩
    have e : tieB n (.tuple [a, b, c]) = (flagB c && (isIntB a 0 (n - 1) && isIntB b 0 (n - 1))) := rfl
    rw [e] at hq
    cases hf : flagB c with
    | false => rw [hf] at hq; simpa using hq
    | true =>
      rw [hf] at hq
      simp
      rw [show slSem none (some 2) (.tuple [a, b, c]) = some (.tuple [a, b]) from rfl, opt_some]
      simp
      refine wpL_ofS (ns := [a, b]) (c := id) (h := fun x => .bool (isIntB x 0 (n - 1))) (fun x hx k hk => ⟨_, _, _, rfl, hk⟩) ?_
      rw [all_map, opt_some]
      simpa using hq
theorem ln_is_facing : ∀ ds Q X, sg_is_facing.sp ds Q X → (if sg_is_facing.row then 1 else 0) + ds.length = sg_is_facing.ps.length := by
  rintro ds Q X ⟨_, rfl, _⟩; rfl
theorem wp_is_facing : ∀ ds Q X, sg_is_facing.sp ds Q X → wpSs gam_is_facing b_is_facing (rho0 2 sg_is_facing.row ds) (postOf Q X) := by
  rintro ds Q X ⟨v, rfl, hq⟩
  simp [b_is_facing]
  refine ⟨_, _, _, rfl, ?_⟩
  cases h : isTupB v 2 2 with
  | false =>
    simp
    have : facB v = false := by
      unfold facB
      split
      · simp [isTupB] at h
      · rfl
    rw [this] at hq
    exact hq
  | true =>
    obtain ⟨es, rfl, h1, h2⟩ := isTupB_tup h
    obtain ⟨a, b, rfl⟩ : ∃ a b, es = [a, b] := by
      match es, h1, h2 with
      | [a, b], _, _ => exact ⟨a, b, rfl⟩
      | [], h1, _ => simp at h1
      | [_], h1, _ => simp at h1
      | _ :: _ :: _ :: _, _, h2 => simp at h2; omega
    simp
    rw [show atI [a, b] 0 = some a from rfl, opt_some]
    refine ⟨_, _, _, rfl, ?_⟩
    have e : facB (.tuple [a, b]) = (isIntB a 1 8 && (isTupB b 0 14 && (facB.tupleD b).all (tieB (intD a)))) := rfl
    rw [e] at hq
    cases ha : isIntB a 1 8 with
    | false => rw [ha] at hq; simpa using hq
    | true =>
      rw [ha] at hq
      simp
      rw [show atI [a, b] 1 = some b from rfl, opt_some]
      refine ⟨_, _, _, rfl, ?_⟩
      cases hb : isTupB b 0 14 with
      | false => rw [hb] at hq; simpa using hq
      | true =>
        rw [hb] at hq
        obtain ⟨es, rfl, b1, b2⟩ := isTupB_tup hb
        obtain ⟨i, rfl, a1, a2⟩ := isIntB_some ha
        simp
        intro _
        rw [show es = es.map (fun x => x) by simp]
        refine wpL_ofS (ns := es) (c := fun x => x) (h := fun x => .bool (tieB i x)) (fun x hx k hk => ?_) ?_
        · refine ⟨_, _, rfl, hk⟩
        · rw [all_map, opt_some]
          simpa [facB.tupleD, intD] using hq
@[simp] theorem fac0 {n : Nat} {T : List Tie} : ixSem (dFac n T) (.int 0) = some (.int (n : Nat)) := rfl
@[simp] theorem fac1 {n : Nat} {T : List Tie} : ixSem (dFac n T) (.int 1) = some (.tuple (T.map dTie)) := rfl
@[simp] theorem tie0 {t : Tie} : ixSem (dTie t) (.int 0) = some (.int (t.1 : Nat)) := rfl
@[simp] theorem tie1 {t : Tie} : ixSem (dTie t) (.int 1) = some (.int (t.2.1 : Nat)) := rfl
@[simp] theorem tie2 {t : Tie} : ixSem (dTie t) (.int 2) = some (.bool t.2.2) := rfl
@[simp] theorem tie_two {t : Tie} : slSem none (some 2) (dTie t) = some (tI [(t.1 : Int), (t.2.1 : Int)]) := rfl
theorem fac_at {T : List Tie} {i : Nat} (h : i < T.length) : ixSem (.tuple (T.map dTie)) (.int (i : Nat)) = some (dTie (at0 T i d0)) := by
  show (ixN (T.map dTie).length (i : Int)).bind _ = _
  rw [List.length_map, ixN_nat h]
  show (T.map dTie)[i]? = _
  rw [List.getElem?_map, at0_get h]; rfl
theorem enum_T {T : List Tie} : enumL (T.map dTie) = (List.range T.length).map fun (i : Nat) => PyData.tuple [.int (i : Int), dTie (at0 T i d0)] := enum_map
theorem in_two {p : Nat} {t : Tie} : cmpSem .In (.int (p : Nat)) (tI [(t.1 : Int), (t.2.1 : Int)]) = some (decide (isAt t p)) := by
  rw [show tI [(t.1 : Int), (t.2.1 : Int)] = PyData.tuple ([(t.1 : Int), (t.2.1 : Int)].map PyData.int) from rfl, in_tmap (c := PyData.int) (k := 0) eqv_int2 (fun a => Nat.le_refl _) (by decide)]
  congr 1
  unfold isAt
  refine decide_eq_decide.mpr ?_
  simp
  omega
theorem notin_two {p : Nat} {t : Tie} : cmpSem .NotIn (.int (p : Nat)) (tI [(t.1 : Int), (t.2.1 : Int)]) = some (!decide (isAt t p)) := by
  rw [show tI [(t.1 : Int), (t.2.1 : Int)] = PyData.tuple ([(t.1 : Int), (t.2.1 : Int)].map PyData.int) from rfl, notin_tmap (c := PyData.int) (k := 0) eqv_int2 (fun a => Nat.le_refl _) (by decide)]
  congr 2
  unfold isAt
  refine decide_eq_decide.mpr ?_
  simp
  omega
theorem notin_lf {i : Nat} {lf : List Int} : cmpSem .NotIn (.int (i : Nat)) (tI lf) = some (!decide ((i : Int) ∈ lf)) :=
  notin_tmap (c := PyData.int) (k := 0) eqv_int2 (fun a => Nat.le_refl _) (by decide)
def tab {α : Type} (n : Nat) (c : α → PyData) (f : Nat → α) : List PyData := (List.range n).map fun p => c (f p)
theorem tab_len {α : Type} {n : Nat} {c : α → PyData} {f : Nat → α} : (tab n c f).length = n := by simp [tab]
theorem tab_get {α : Type} {n p : Nat} {c : α → PyData} {f : Nat → α} (h : p < n) : (tab n c f)[p]? = some (c (f p)) := by
  unfold tab
  rw [List.getElem?_map, List.getElem?_range h]; rfl
theorem tab_set {α : Type} {n p : Nat} {c : α → PyData} {f : Nat → α} {v : α} (h : p < n) : (tab n c f).set p (c v) = tab n c (upN f p v) := by
  refine List.ext_getElem (by simp [tab]) fun i h1 h2 => ?_
  have hi : i < n := by simpa [tab] using h2
  have e : ∀ (g : Nat → α) (h : i < (tab n c g).length), (tab n c g)[i] = c (g i) := fun g h => by simp [tab]
  rw [List.getElem_set, e, e]
  by_cases c : p = i
  · subst c; rw [if_pos rfl, upN_same]
  · rw [if_neg c, upN_ne (fun z => c z.symm)]
theorem tab_ix {α : Type} {n p : Nat} {c : α → PyData} {f : Nat → α} (h : p < n) : ixSem (.list (tab n c f)) (.int (p : Nat)) = some (c (f p)) := by
  show (ixN (tab n c f).length (p : Int)).bind _ = _
  rw [tab_len, ixN_nat h]
  exact tab_get h
theorem tab_rep {α : Type} {n : Nat} {c : α → PyData} {v : α} : List.replicate n (c v) = tab n c (fun _ => v) := by
  unfold tab
  refine List.ext_getElem (by simp) fun i h1 h2 => by simp
def cI : Int → PyData := .int
def cN : Nat → PyData := fun p => .int (p : Nat)
theorem sprD_tab {n : Nat} {s : Fs} : sprD n s = .tuple [.list (tab n cI s.y), .list (tab n cN s.h), .list (tab n tI s.w)] := rfl
def InvSpr (n : Nat) (T : List Tie) (lf : List Int) (first : Nat) (goal : Fs) (f : Nat) (ρ : Env1) : Prop := ∃ (t : Fs) (g : Nat) (x7 x8 x9 x10 : B), ρ = [.val (dFac n T), .val (tI lf), .own (tab n cI t.y), .own (tab n cN t.h), .own (tab n tI t.w), .val (.int (first : Nat)), .own (t.line.map cN), x7, x8, x9, x10] ∧ InvT n T lf first t none ∧ f = unl n t + t.line.length ∧ f ≤ n ∧ f ≤ g ∧ loopT T lf first g t = goal
theorem ln_spread : ∀ ds Q X, sg_spread.sp ds Q X → (if sg_spread.row then 1 else 0) + ds.length = sg_spread.ps.length := by
  rintro ds Q X ⟨_, _, _, rfl, _⟩; rfl
theorem wp_spread : ∀ ds Q X, sg_spread.sp ds Q X → wpSs gam_spread b_spread (rho0 11 sg_spread.row ds) (postOf Q X) := by
  rintro ds Q X ⟨n, T, lf, rfl, o, hq⟩
  simp [b_spread]
  obtain ⟨o1, o2, o3, o4⟩ := o
  rw [rep_list (by omega), opt_some]
  refine ⟨_, rfl, ?_⟩
  rw [rep_list (by omega), opt_some]
  refine ⟨_, rfl, ?_⟩
  rw [rep_list (by omega), opt_some]
  refine ⟨_, rfl, ?_⟩
  rw [s_for]
  simp
  refine ⟨by omega, ?_⟩
  rw [rangeL0, show List.replicate n (PyData.int (-1)) = tab n cI fs0.y from tab_rep (c := cI), show List.replicate n (PyData.int 0) = tab n cN fs0.h from tab_rep (c := cN), show List.replicate n (PyData.tuple []) = tab n tI fs0.w from tab_rep (c := tI) (v := [])]
  refine forL_pre (fun pre ρ => ∃ (x5 x6 x7 x8 x9 x10 : B), ρ = [.val (dFac n T), .val (tI lf), .own (tab n cI (preT n T lf pre.length).y), .own (tab n cN (preT n T lf pre.length).h), .own (tab n tI (preT n T lf pre.length).w), x5, x6, x7, x8, x9, x10]) ⟨_, _, _, _, _, _, rfl⟩ ?_ ?_
  · rintro pre i post he ρ k ⟨x5, x6, x7, x8, x9, x10, rfl⟩ hk
    obtain ⟨rfl, hi⟩ := range_pre he
    rw [List.length_append, List.length_singleton, preT_succ] at hk
    have I := preT_inv (lf := lf) o4 pre.length (Nat.le_of_lt hi)
    generalize preT n T lf pre.length = s at hk I
    generalize pre.length = first at hk I hi
    simp
    intro _
    rw [tab_get hi, opt_some]
    simp [cI]
    unfold rootT at hk
    by_cases c : s.y first < 0
    · rw [if_pos c, show ({ y := upN s.y first 0, h := upN s.h first first, w := s.w, line := [first] } : Fs) = begT s first from rfl] at hk
      rw [if_pos c]
      refine ⟨_, _, ⟨rfl, rfl⟩, first, by rw [tab_len, ixN_nat hi], first, by rw [tab_len, ixN_nat hi], ?_⟩
      have e1 : (tab n cI s.y).set first (.int 0) = tab n cI (upN s.y first 0) := tab_set hi
      have e2 : (tab n cN s.h).set first (.int (first : Nat)) = tab n cN (upN s.h first first) := tab_set hi
      have e1' : (tab n PyData.int s.y).set first (.int 0) = tab n cI (upN s.y first 0) := e1
      simp only [e1, e1', e2]
      obtain ⟨I0, _⟩ := begT_inv I hi c
      have hu := unl_le n s
      rw [s_whl]
      refine ⟨InvSpr n T lf first (loopT T lf first (n + 1) (begT s first)), ⟨_, begT s first, n + 1, _, _, _, _, rfl, I0, rfl, by omega, by omega, rfl⟩, ?_⟩
      rintro f ρ1 ⟨t, g, x7, x8, x9, x10, rfl, It, rfl, hn, hg, el⟩
      simp
      cases hl : t.line with
      | nil =>
        simp
        rw [loopT_nil hl] at el
        rw [← el] at hk
        exact hk _ ⟨_, _, _, _, _, _, rfl⟩
      | cons p r =>
        simp
        refine ⟨0, ixN_nat (n := r.length + 1) (j := 0) (by omega), _, ⟨p, rfl, rfl⟩, ?_⟩
        have I1 := popT_inv hl It
        obtain ⟨I2, e2⟩ := turnT_inv o4 hl It
        rw [s_for]
        simp
        intro _
        rw [enum_T]
        refine forL_pre (fun pre ρ => ∃ (x8 x9 x10 : B) (v : Fs), v = visitT lf first p 0 (T.take pre.length) { t with line := r } ∧ InvT n T lf first v (some (p, pre.length)) ∧ unl n v + v.line.length + 1 = unl n t + t.line.length ∧ ρ = [.val (dFac n T), .val (tI lf), .own (tab n cI v.y), .own (tab n cN v.h), .own (tab n tI v.w), .val (.int (first : Nat)), .own (v.line.map cN), .val (.int (p : Nat)), x8, x9, x10]) ⟨_, _, _, { t with line := r }, rfl, I1, by rw [hl]; rfl, rfl⟩ ?_ ?_
        · rintro pre i post he ρ k2 ⟨x8, x9, x10, v, hv, Iv, hsum, rfl⟩ hk2
          obtain ⟨rfl, hi2⟩ := range_pre he
          rw [List.length_append, List.length_singleton, take_snoc (d := d0) hi2, visitT_snoc, ← hv, List.length_take, Nat.min_eq_left (Nat.le_of_lt hi2), Nat.zero_add] at hk2
          generalize pre.length = i at *
          have Is := stepT_inv o4 Iv (at0_get (d := d0) hi2)
          have hm := o4 _ (at0_mem (d := d0) hi2)
          generalize at0 T i d0 = tie at *
          have hp : p < n := Iv.lt p (Iv.curr _ rfl).1.1
          have ho : oth tie p < n := by unfold oth; split <;> omega
          unfold stepT at hk2 Is
          simp
          by_cases c0 : (i : Int) ∉ lf
          · rw [if_neg c0]
            by_cases c1 : isAt tie p
            · rw [if_pos (by unfold isAt at c1; omega)]
              by_cases c2 : tie.1 = p
              · rw [if_pos (by omega)]
                have eo : oth tie p = tie.2.1 := if_pos c2
                rw [eo] at ho hk2 Is
                generalize tie.2.1 = o at *
                intro _
                rw [tab_get ho, opt_some, show cmpSem .Lt (cI (v.y o)) (.int 0) = some (decide (v.y o < 0)) from rfl, opt_some]
                by_cases c3 : v.y o < 0
                · rw [if_pos (decide_eq_true c3)]
                  rw [if_pos ⟨c0, c1, c3⟩] at hk2 Is
                  have hlen : v.line.length < 16777216 := by omega
                  have e2 : (tab n cN v.h).set o (.int (first : Nat)) = tab n cN (upN v.h o first) := tab_set ho
                  have e3 : (tab n tI v.w).set o (tI (v.w p ++ [(i : Int)])) = tab n tI (upN v.w o (v.w p ++ [(i : Int)])) := tab_set ho
                  have e4 : List.map cN v.line ++ [.int (o : Nat)] = List.map cN (v.line ++ [o]) := by rw [List.map_append]; rfl
                  have e5 : binSem .Add (tI (v.w p)) (.tuple [.int (i : Nat)]) = some (tI (v.w p ++ [(i : Int)])) := cat_tI (b := [(i : Int)]) (by have := (Iv.path p (Iv.curr _ rfl).1.1).2.2.2; simp; omega)
                  cases hs : tie.2.2 with
                  | true =>
                    rw [hs, if_pos rfl] at hk2 Is
                    have e1 : (tab n cI v.y).set o (cI (v.y p)) = tab n cI (upN v.y o (v.y p)) := tab_set ho
                    rw [if_pos rfl]
                    intro _
                    rw [tab_get hp, opt_some]
                    refine ⟨o, by rw [tab_len, ixN_nat ho], fun _ => ?_⟩
                    rw [tab_get hp, opt_some, e5, opt_some]
                    refine ⟨_, _, ⟨rfl, rfl⟩, o, by rw [tab_len, ixN_nat ho], o, by rw [tab_len, ixN_nat ho], hlen, ?_⟩
                    rw [e1, e2, e3, e4]
                    exact hk2 _ ⟨_, _, _, _, rfl, Is.1, by rw [Is.2]; exact hsum, rfl⟩
                  | false =>
                    rw [hs, if_neg (by decide)] at hk2 Is
                    have e1 : (tab n cI v.y).set o (cI (1 - v.y p)) = tab n cI (upN v.y o (1 - v.y p)) := tab_set ho
                    rw [if_neg (by decide)]
                    intro _
                    rw [tab_get hp, opt_some, show binSem .Sub (.int 1) (cI (v.y p)) = some (cI (1 - v.y p)) from rfl, opt_some]
                    refine ⟨o, by rw [tab_len, ixN_nat ho], fun _ => ?_⟩
                    rw [tab_get hp, opt_some, e5, opt_some]
                    refine ⟨_, _, ⟨rfl, rfl⟩, o, by rw [tab_len, ixN_nat ho], o, by rw [tab_len, ixN_nat ho], hlen, ?_⟩
                    rw [e1, e2, e3, e4]
                    exact hk2 _ ⟨_, _, _, _, rfl, Is.1, by rw [Is.2]; exact hsum, rfl⟩
                · rw [if_neg (by rw [decide_eq_true_eq]; exact c3)]
                  rw [if_neg (fun z => c3 z.2.2)] at hk2 Is
                  exact hk2 _ ⟨_, _, _, _, rfl, Is.1, hsum, rfl⟩
              · rw [if_neg (by omega)]
                have eo : oth tie p = tie.1 := if_neg c2
                rw [eo] at ho hk2 Is
                generalize tie.1 = o at *
                intro _
                rw [tab_get ho, opt_some, show cmpSem .Lt (cI (v.y o)) (.int 0) = some (decide (v.y o < 0)) from rfl, opt_some]
                by_cases c3 : v.y o < 0
                · rw [if_pos (decide_eq_true c3)]
                  rw [if_pos ⟨c0, c1, c3⟩] at hk2 Is
                  have hlen : v.line.length < 16777216 := by omega
                  have e2 : (tab n cN v.h).set o (.int (first : Nat)) = tab n cN (upN v.h o first) := tab_set ho
                  have e3 : (tab n tI v.w).set o (tI (v.w p ++ [(i : Int)])) = tab n tI (upN v.w o (v.w p ++ [(i : Int)])) := tab_set ho
                  have e4 : List.map cN v.line ++ [.int (o : Nat)] = List.map cN (v.line ++ [o]) := by rw [List.map_append]; rfl
                  have e5 : binSem .Add (tI (v.w p)) (.tuple [.int (i : Nat)]) = some (tI (v.w p ++ [(i : Int)])) := cat_tI (b := [(i : Int)]) (by have := (Iv.path p (Iv.curr _ rfl).1.1).2.2.2; simp; omega)
                  cases hs : tie.2.2 with
                  | true =>
                    rw [hs, if_pos rfl] at hk2 Is
                    have e1 : (tab n cI v.y).set o (cI (v.y p)) = tab n cI (upN v.y o (v.y p)) := tab_set ho
                    rw [if_pos rfl]
                    intro _
                    rw [tab_get hp, opt_some]
                    refine ⟨o, by rw [tab_len, ixN_nat ho], fun _ => ?_⟩
                    rw [tab_get hp, opt_some, e5, opt_some]
                    refine ⟨_, _, ⟨rfl, rfl⟩, o, by rw [tab_len, ixN_nat ho], o, by rw [tab_len, ixN_nat ho], hlen, ?_⟩
                    rw [e1, e2, e3, e4]
                    exact hk2 _ ⟨_, _, _, _, rfl, Is.1, by rw [Is.2]; exact hsum, rfl⟩
                  | false =>
                    rw [hs, if_neg (by decide)] at hk2 Is
                    have e1 : (tab n cI v.y).set o (cI (1 - v.y p)) = tab n cI (upN v.y o (1 - v.y p)) := tab_set ho
                    rw [if_neg (by decide)]
                    intro _
                    rw [tab_get hp, opt_some, show binSem .Sub (.int 1) (cI (v.y p)) = some (cI (1 - v.y p)) from rfl, opt_some]
                    refine ⟨o, by rw [tab_len, ixN_nat ho], fun _ => ?_⟩
                    rw [tab_get hp, opt_some, e5, opt_some]
                    refine ⟨_, _, ⟨rfl, rfl⟩, o, by rw [tab_len, ixN_nat ho], o, by rw [tab_len, ixN_nat ho], hlen, ?_⟩
                    rw [e1, e2, e3, e4]
                    exact hk2 _ ⟨_, _, _, _, rfl, Is.1, by rw [Is.2]; exact hsum, rfl⟩
                · rw [if_neg (by rw [decide_eq_true_eq]; exact c3)]
                  rw [if_neg (fun z => c3 z.2.2)] at hk2 Is
                  exact hk2 _ ⟨_, _, _, _, rfl, Is.1, hsum, rfl⟩
            · rw [if_neg (by unfold isAt at c1; omega)]
              rw [if_neg (fun z => c1 z.2.1)] at hk2 Is
              exact hk2 _ ⟨_, _, _, _, rfl, Is.1, hsum, rfl⟩
          · rw [if_pos (by simpa using c0)]
            rw [if_neg (fun z => c0 z.1)] at hk2 Is
            exact hk2 _ ⟨_, _, _, _, rfl, Is.1, hsum, rfl⟩
        · rintro ρ ⟨x8, x9, x10, v, hv, Iv, hsum, rfl⟩
          rw [List.length_range, List.take_length] at hv
          rw [← hv] at I2 e2
          rw [hl] at hg e2 hn
          simp at hg e2 hn
          obtain ⟨g, rfl⟩ : ∃ g', g = g' + 1 := ⟨g - 1, by omega⟩
          rw [loopT_cons hl, ← hv] at el
          refine ⟨unl n v + v.line.length, ?_, v, g, _, _, _, _, rfl, I2, rfl, by omega, by omega, el⟩
          omega
    · rw [if_neg c] at hk
      rw [if_neg c]
      exact hk _ ⟨_, _, _, _, _, _, rfl⟩
  · rintro ρ ⟨x5, x6, x7, x8, x9, x10, rfl⟩
    rw [List.length_range]
    simp
    exact hq
theorem ln_goes_round : ∀ ds Q X, sg_goes_round.sp ds Q X → (if sg_goes_round.row then 1 else 0) + ds.length = sg_goes_round.ps.length := by
  rintro ds Q X ⟨_, _, _, _, rfl, _⟩; rfl
theorem wp_goes_round : ∀ ds Q X, sg_goes_round.sp ds Q X → wpSs gam_goes_round b_goes_round (rho0 6 sg_goes_round.row ds) (postOf Q X) := by
  rintro ds Q X ⟨n, T, s, p, rfl, o, hs, hq⟩
  simp [b_goes_round]
  rw [s_for]
  simp
  intro _
  refine forL_pre (fun pre ρ => ∃ (q : Nat) (x4 x5 : B), ρ = [.val (dFac n T), .val (tI s), .val (.int (p : Nat)), .val (.int (q : Nat)), x4, x5] ∧ folw T pre p = some q) ⟨p, _, _, rfl, rfl⟩ ?_ ?_
  · rintro pre i post he ρ k ⟨q, x4, x5, rfl, h1⟩ hk
    have hi : 0 ≤ i ∧ i < T.length := hs i (by rw [he]; simp)
    obtain ⟨j, rfl⟩ : ∃ j : Nat, i = j := ⟨i.toNat, by omega⟩
    have hj : j < T.length := by omega
    simp
    rw [at0_get (d := d0) hj, Option.map_some, opt_some]
    simp
    by_cases c : isAt (at0 T j d0) q
    · have e : folw T (pre ++ [(j : Int)]) p = some (oth (at0 T j d0) q) := by
        rw [folw_app, h1]
        exact folw_one c
      rw [if_neg (fun z => by unfold isAt at c; omega)]
      by_cases c2 : (at0 T j d0).1 = q
      · rw [if_pos (by omega)]
        refine hk _ ⟨(at0 T j d0).2.1, _, _, rfl, ?_⟩
        rw [e]; unfold oth; rw [if_pos c2]
      · rw [if_neg (by omega)]
        refine hk _ ⟨(at0 T j d0).1, _, _, rfl, ?_⟩
        rw [e]; unfold oth; rw [if_neg c2]
    · rw [if_pos (by unfold isAt at c; omega)]
      have e : folw T s p = none := by
        rw [he, show (j : Int) :: post = [(j : Int)] ++ post from rfl, folw_app, h1]
        show folw T ((j : Int) :: post) q = none
        show (if isAt (at0 T (j : Int).toNat d0) q then _ else none) = none
        rw [Int.toNat_natCast, if_neg c]
      rw [e] at hq
      exact hq
  · rintro ρ ⟨q, x4, x5, rfl, h1⟩
    simp
    rw [h1] at hq
    have e : ((q : Int) == (p : Int)) = decide (some q = some p) := by
      rw [Bool.eq_iff_iff]; simp; omega
    rw [e]; exact hq
theorem ln_first_odd : ∀ ds Q X, sg_first_odd.sp ds Q X → (if sg_first_odd.row then 1 else 0) + ds.length = sg_first_odd.ps.length := by
  rintro ds Q X ⟨_, _, _, rfl, _⟩; rfl
theorem wp_first_odd : ∀ ds Q X, sg_first_odd.sp ds Q X → wpSs gam_first_odd b_first_odd (rho0 5 sg_first_odd.row ds) (postOf Q X) := by
  rintro ds Q X ⟨n, T, lf, rfl, o, hq⟩
  simp [b_first_odd]
  refine ⟨n, T, lf, rfl, o, ?_⟩
  have F := sprT_forest (lf := lf) o.2.2.2
  generalize sprT n T lf = s at hq F
  rw [sprD_tab]
  dsimp only
  rw [show ixSem (.tuple [.list (tab n cI s.y), .list (tab n cN s.h), .list (tab n tI s.w)]) (.int 0) = some (.list (tab n cI s.y)) from rfl, opt_some, s_for]
  simp
  intro _
  rw [enum_T]
  refine forL_find (fun ρ => ∃ x3 x4 : B, ρ = [.val (dFac n T), .val (tI lf), .val (.list (tab n cI s.y)), x3, x4]) (oddI T lf s.y) ⟨_, _, rfl⟩ ?_ ?_ ?_
  · rintro i hi hp hf ρ k ⟨x3, x4, rfl⟩
    have hi := List.mem_range.mp hi
    have hm := o.2.2.2 _ (at0_mem (d := d0) hi)
    unfold oddI at hp
    rw [Bool.and_eq_true] at hp
    have e : firstO T lf s.y = some i := hf
    rw [e] at hq
    have h1 : (i : Int) ∉ lf := by simpa using hp.1
    have h2 : ¬ (decide (s.y (at0 T i d0).1 = s.y (at0 T i d0).2.1) = (at0 T i d0).2.2) := by simpa using hp.2
    simp
    rw [if_neg h1, tab_get hm.1, opt_some, tab_get hm.2, opt_some]
    simp [cI]
    rw [ieq, if_neg h2]
    exact hq
  · rintro i hi hp ρ k ⟨x3, x4, rfl⟩ hk
    have hi := List.mem_range.mp hi
    have hm := o.2.2.2 _ (at0_mem (d := d0) hi)
    unfold oddI at hp
    simp
    by_cases h1 : (i : Int) ∈ lf
    · rw [if_pos h1]
      exact hk _ ⟨_, _, rfl⟩
    · have h2 : decide (s.y (at0 T i d0).1 = s.y (at0 T i d0).2.1) = (at0 T i d0).2.2 := by simpa [h1] using hp
      rw [if_neg h1, tab_get hm.1, opt_some, tab_get hm.2, opt_some]
      simp [cI]
      rw [ieq, if_pos h2]
      exact hk _ ⟨_, _, rfl⟩
  · rintro hf ρ ⟨x3, x4, rfl⟩
    have e : firstO T lf s.y = none := hf
    rw [e] at hq
    exact hq
end Dl

set_option Elab.async false
set_option linter.all false
set_option maxRecDepth 100000
set_option maxHeartbeats 8000000
namespace Dl
open PySem PySem.Spec PyProof.Rows L2
theorem facOr_demand {v : PyData} {R : Nat → List Tie → Prop} {X : Str → Prop} {Q : PyData → Prop} (h : facOr v R X) (hq : ∀ n T, FacOk n T → v = dFac n T → R n T → Q .none) : sgDemand.sp [.bool (facB v), .str "facing"] Q X := by
  rcases h with ⟨h, hx⟩ | ⟨n, T, o, rfl, h⟩
  · exact demand_b (fun z => by rw [h] at z; cases z) fun _ => hx
  · exact demand_b (fun _ => hq n T o rfl h) fun z => by rw [facB_dFac o] at z; cases z
theorem tab_tI {n : Nat} {f : Nat → Int} : PyData.tuple (tab n cI f) = tI ((List.range n).map f) := by unfold tab tI; rw [List.map_map]; rfl
theorem spr0 {n : Nat} {s : Fs} : ixSem (sprD n s) (.int 0) = some (.list (tab n cI s.y)) := rfl
theorem spr1 {n : Nat} {s : Fs} : ixSem (sprD n s) (.int 1) = some (.list (tab n cN s.h)) := rfl
theorem spr2 {n : Nat} {s : Fs} : ixSem (sprD n s) (.int 2) = some (.list (tab n tI s.w)) := rfl
theorem tupnil : PyData.tuple [] = tI [] := rfl
theorem ln_lying : ∀ ds Q X, sg_lying.sp ds Q X → (if sg_lying.row then 1 else 0) + ds.length = sg_lying.ps.length := by
  rintro ds Q X ⟨_, rfl, _⟩; rfl
theorem wp_lying : ∀ ds Q X, sg_lying.sp ds Q X → wpSs gam_lying b_lying (rho0 1 sg_lying.row ds) (postOf Q X) := by
  rintro ds Q X ⟨v, rfl, hq⟩
  simp [b_lying]
  refine ⟨_, rfl, facOr_demand hq fun n T o e h => ?_⟩
  subst e
  refine ⟨n, T, [], rfl, o, ?_⟩
  have e : firstO T [] (sprT n T []).y = oddT n T := rfl
  rw [e]
  unfold lieT at h
  simp
  cases ho : oddT n T with
  | some i =>
    rw [ho] at h
    rw [if_pos (show 0 ≤ optI (some i) from Int.natCast_nonneg i)]
    exact h
  | none =>
    rw [ho] at h
    rw [if_neg (show ¬ 0 ≤ optI none by decide)]
    refine ⟨n, T, [], rfl, o, ?_⟩
    dsimp only
    rw [spr0, opt_some]
    simp
    rw [tab_tI]
    exact h
theorem lie_all {n : Nat} {T : List Tie} {x : List Int} (hT : ∀ t ∈ T, t.1 < n ∧ t.2.1 < n) (h1 : x.length = n) (h2 : ∀ v ∈ x, v = 0 ∨ v = 1) : (T.all fun t => (at0 x t.1 0 == at0 x t.2.1 0) == t.2.2) = decide (x ∈ waysL T [] n) := by
  rw [Bool.eq_iff_iff, decide_eq_true_eq, mem_waysL, List.all_eq_true]
  constructor
  · intro h
    refine ⟨h1, h2, fun i hi _ _ _ => ?_⟩
    have := h _ (at0_mem (d := d0) hi)
    rw [ieq] at this
    exact this
  · rintro ⟨_, _, h⟩ t ht
    obtain ⟨i, hi, rfl⟩ := List.mem_iff_getElem.mp ht
    have hm := hT _ ht
    rw [← at0_of (d := d0) hi] at hm ⊢
    rw [ieq]
    exact h i hi List.not_mem_nil hm.1 hm.2
theorem ln_is_lying : ∀ ds Q X, sg_is_lying.sp ds Q X → (if sg_is_lying.row then 1 else 0) + ds.length = sg_is_lying.ps.length := by
  rintro ds Q X ⟨_, _, rfl, _⟩; rfl
theorem wp_is_lying : ∀ ds Q X, sg_is_lying.sp ds Q X → wpSs gam_is_lying b_is_lying (rho0 3 sg_is_lying.row ds) (postOf Q X) := by
  rintro ds Q X ⟨v, u, rfl, hq⟩
  simp [b_is_lying]
  refine ⟨_, rfl, facOr_demand hq fun n T o e h => ?_⟩
  subst e
  simp
  refine ⟨_, _, _, _, rfl, ?_⟩
  rcases h with ⟨h, hq⟩ | ⟨x, rfl, h1, h2, hq⟩
  · rw [h]
    simp
    exact hq
  · rw [isIntsB_tI.mpr ⟨by omega, fun m hm => by have := h2 m hm; omega⟩]
    simp
    intro _
    refine wpL_ofS (h := fun t : Tie => .bool ((at0 x t.1 0 == at0 x t.2.1 0) == t.2.2)) (fun t ht k hk => ?_) ?_
    · have hm := o.2.2.2 t ht
      rw [tie0, opt_some, ix_tI (d := 0) (by omega), opt_some, tie1, opt_some, ix_tI (d := 0) (by omega), opt_some]
      simp
      exact hk
    · rw [all_map, opt_some, lie_all o.2.2.2 h1 h2]
      exact hq
theorem ln_odd_round : ∀ ds Q X, sg_odd_round.sp ds Q X → (if sg_odd_round.row then 1 else 0) + ds.length = sg_odd_round.ps.length := by
  rintro ds Q X ⟨_, rfl, _⟩; rfl
theorem wp_odd_round : ∀ ds Q X, sg_odd_round.sp ds Q X → wpSs gam_odd_round b_odd_round (rho0 4 sg_odd_round.row ds) (postOf Q X) := by
  rintro ds Q X ⟨v, rfl, hq⟩
  simp [b_odd_round]
  refine ⟨_, rfl, facOr_demand hq fun n T o e h => ?_⟩
  subst e
  refine ⟨n, T, [], rfl, o, ?_⟩
  have e : firstO T [] (sprT n T []).y = oddT n T := rfl
  rw [e]
  unfold roundT at h
  simp
  cases ho : oddT n T with
  | none =>
    rw [ho] at h
    rw [if_pos (show optI none < 0 by decide)]
    exact h
  | some i =>
    rw [ho] at h
    obtain ⟨hi, _, _⟩ := firstO_some ho
    have hm := o.2.2.2 _ (at0_mem (d := d0) hi)
    have F : Forest n T [] (sT n T) := sprT_forest o.2.2.2
    have l1 := F.wlen _ hm.1
    have l2 := F.wlen _ hm.2
    have o2 := o.2.1
    rw [if_neg (show ¬ optI (some i) < 0 from fun z => by have : optI (some i) = (i : Nat) := rfl; omega)]
    refine ⟨n, T, [], rfl, o, ?_⟩
    dsimp only
    rw [spr2, opt_some, show optI (some i) = ((i : Nat) : Int) from rfl, show atI (List.map dTie T) (i : Int) = some (dTie (at0 T i d0)) from fac_at hi, opt_some, tie0, opt_some]
    have h : Q (tI ((sprT n T []).w (at0 T i d0).1 ++ [(i : Int)] ++ ((sprT n T []).w (at0 T i d0).2.1).reverse)) := h
    change ((sprT n T []).w (at0 T i d0).1).length + 1 ≤ n at l1
    change ((sprT n T []).w (at0 T i d0).2.1).length + 1 ≤ n at l2
    generalize sprT n T [] = s at h l1 l2
    have e5 : binSem .Add (tI (s.w (at0 T i d0).1)) (.tuple [.int (i : Nat)]) = some (tI (s.w (at0 T i d0).1 ++ [(i : Int)])) := cat_tI (b := [(i : Int)]) (by simp; omega)
    rw [tab_ix hm.1, opt_some, e5, opt_some, tie1, opt_some, tab_ix hm.2, opt_some, rev_tI, opt_some, cat_tI (by simp; omega), opt_some]
    exact h
theorem ln_ways_to_lie : ∀ ds Q X, sg_ways_to_lie.sp ds Q X → (if sg_ways_to_lie.row then 1 else 0) + ds.length = sg_ways_to_lie.ps.length := by
  rintro ds Q X ⟨_, rfl, _⟩; rfl
theorem wp_ways_to_lie : ∀ ds Q X, sg_ways_to_lie.sp ds Q X → wpSs gam_ways_to_lie b_ways_to_lie (rho0 3 sg_ways_to_lie.row ds) (postOf Q X) := by
  rintro ds Q X ⟨v, rfl, hq⟩
  simp [b_ways_to_lie]
  refine ⟨_, rfl, facOr_demand hq fun n T o e h => ?_⟩
  subst e
  refine ⟨n, T, [], rfl, o, ?_⟩
  have e : firstO T [] (sprT n T []).y = oddT n T := rfl
  rw [e]
  simp
  cases ho : oddT n T with
  | some i =>
    rw [ho] at h
    rw [if_pos (show 0 ≤ optI (some i) from Int.natCast_nonneg i)]
    exact h
  | none =>
    rw [ho] at h
    rw [if_neg (show ¬ 0 ≤ optI none by decide)]
    refine ⟨n, T, [], rfl, o, ?_⟩
    dsimp only
    rw [spr1, opt_some]
    have o2 := o.2.1
    refine ⟨by omega, ?_⟩
    rw [rangeL0]
    refine wpL_of (g := fun p : Nat => if decide ((sprT n T []).h p = p) = true then some (.int (p : Nat)) else none) (fun p hp k hk => ?_) ?_
    · have hp := List.mem_range.mp hp
      rw [tab_ix hp, opt_some, show cmpSem .Eq (cN ((sprT n T []).h p)) (.int (p : Nat)) = some ((((sprT n T []).h p : Nat) : Int) == (p : Int)) from rfl, opt_some]
      by_cases c : (sprT n T []).h p = p
      · rw [c, if_pos (by simp)]
        rw [if_pos (by simpa using c)] at hk
        exact hk
      · rw [if_neg (by simp; omega)]
        rw [if_neg (by simpa using c)] at hk
        exact hk
    · rw [filterMap_b, List.length_map]
      have eh : ((List.range n).filter fun p => decide ((sprT n T []).h p = p)).length = (headsOf n (sT n T).h).length := rfl
      rw [eh]
      have hl : (headsOf n (sT n T).h).length ≤ n := by
        unfold headsOf
        exact Nat.le_trans (List.length_filter_le _ _) (by simp)
      generalize (headsOf n (sT n T).h).length = m at h hl
      have e2 : binSem .LShift (.int 1) (.int (m : Nat)) = some (.int ((2 ^ m : Nat) : Int)) := by
        show (if (1 : Int).natAbs < 2 ^ 64 ∧ 0 ≤ (m : Int) ∧ (m : Int) ≤ 1000000 then some (PyData.int (1 * 2 ^ (m : Int).toNat)) else none) = _
        rw [if_pos ⟨by decide, by omega, by omega⟩, Int.toNat_natCast, Int.one_mul, Int.natCast_pow]
        rfl
      rw [e2, opt_some]
      exact h
theorem ln_tied : ∀ ds Q X, sg_tied.sp ds Q X → (if sg_tied.row then 1 else 0) + ds.length = sg_tied.ps.length := by
  rintro ds Q X ⟨_, _, _, rfl, _⟩; rfl
theorem wp_tied : ∀ ds Q X, sg_tied.sp ds Q X → wpSs gam_tied b_tied (rho0 6 sg_tied.row ds) (postOf Q X) := by
  rintro ds Q X ⟨v, a, b, rfl, hq⟩
  simp [b_tied]
  refine ⟨_, rfl, ?_⟩
  rcases hq with ⟨h, hx⟩ | ⟨n, T, o, rfl, h⟩
  · rw [h]
    simp
    exact demand_b (fun z => by cases z) fun _ => hx
  · rw [facB_dFac o]
    simp
    refine ⟨n, T, [], rfl, o, ?_⟩
    have e : firstO T [] (sprT n T []).y = oddT n T := rfl
    rw [e]
    simp
    rcases h with ⟨h, hx⟩ | ⟨h, hq⟩
    · refine demand_b (fun z => ?_) fun _ => hx
      exact absurd (optI_neg.mp (of_decide_eq_true z)) h
    · refine demand_b (fun _ => ?_) fun z => by rw [h] at z; cases z
      refine ⟨_, _, _, rfl, ?_⟩
      rcases hq with ⟨h1, hx⟩ | ⟨p, hp, rfl, hq⟩
      · exact demand_b (fun z => by rw [h1] at z; cases z) fun _ => hx
      have ep : ∀ p : Nat, p < n → isIntB (.int (p : Nat)) 0 ((n : Int) - 1) = true := fun p hp => by simp [isIntB]; omega
      refine demand_b (fun _ => ?_) fun z => by rw [ep p hp] at z; cases z
      refine ⟨_, _, _, rfl, ?_⟩
      rcases hq with ⟨h1, hx⟩ | ⟨q, hq, rfl, hQ⟩
      · exact demand_b (fun z => by rw [h1] at z; cases z) fun _ => hx
      refine demand_b (fun _ => ?_) fun z => by rw [ep q hq] at z; cases z
      refine ⟨n, T, [], rfl, o, ?_⟩
      dsimp only
      rw [sprD_tab]
      unfold tiedD sT at hQ
      generalize sprT n T [] = s at hQ
      simp
      rw [tab_get hp, opt_some, tab_get hq, opt_some, show cmpSem .Eq (cN (s.h p)) (cN (s.h q)) = some (((s.h p : Nat) : Int) == ((s.h q : Nat) : Int)) from rfl, opt_some]
      by_cases c : s.h p = s.h q
      · rw [if_pos c] at hQ
        rw [c, if_pos (by simp), tab_get hp, opt_some, tab_get hq, opt_some, show cmpSem .Eq (cI (s.y p)) (cI (s.y q)) = some ((s.y p) == (s.y q)) from rfl, opt_some, ieq]
        exact hQ
      · rw [if_neg c] at hQ
        rw [if_neg (by simp; omega)]
        exact hQ
theorem ln_is_odd_round : ∀ ds Q X, sg_is_odd_round.sp ds Q X → (if sg_is_odd_round.row then 1 else 0) + ds.length = sg_is_odd_round.ps.length := by
  rintro ds Q X ⟨_, _, rfl, _⟩; rfl
theorem wp_is_odd_round : ∀ ds Q X, sg_is_odd_round.sp ds Q X → wpSs gam_is_odd_round b_is_odd_round (rho0 5 sg_is_odd_round.row ds) (postOf Q X) := by
  rintro ds Q X ⟨v, u, rfl, hq⟩
  simp [b_is_odd_round]
  refine ⟨_, rfl, facOr_demand hq fun n T o e h => ?_⟩
  subst e
  simp
  refine ⟨_, _, _, rfl, ?_⟩
  dsimp only
  rcases h with ⟨h, hQ⟩ | ⟨s, rfl, h1, h2, h3, hQ⟩
  · cases hb : isTupB u 1 40 with
    | false => simp; exact hQ
    | true =>
      unfold ridB at h
      rw [hb] at h
      simp
      obtain ⟨es, rfl, _, _⟩ := isTupB_tup hb
      simp
      refine ⟨_, _, _, _, rfl, ?_⟩
      have e : isIntsB (.tuple es) (es.length : Int) 0 ((T.length : Int) - 1) = false := by simpa [lenD] using h
      rw [e]
      simp
      exact hQ
  · rw [show isTupB (tI s) 1 40 = true by simp; omega]
    simp
    refine ⟨_, _, _, _, rfl, ?_⟩
    rw [isIntsB_tI.mpr ⟨rfl, fun m hm => by have := h3 m hm; omega⟩]
    simp
    intro _
    refine wpL_of (g := fun i : Int => if (!(at0 T i.toNat d0).2.2) = true then some (.int i) else none) (fun i hi k hk => ?_) ?_
    · have := h3 i hi
      obtain ⟨j, rfl⟩ : ∃ j : Nat, i = j := ⟨i.toNat, by omega⟩
      have hj : j < T.length := by omega
      rw [Int.toNat_natCast] at hk
      rw [fac_at hj, opt_some]
      cases hs : (at0 T j d0).2.2 <;> rw [hs] at hk <;> simp [hs] <;> exact hk
    · rw [filterMap_b, List.length_map]
      have em : ∀ c : Nat, binSem .Mod (.int (c : Nat)) (.int 2) = some (.int ((c % 2 : Nat) : Int)) := fun c => by
        show (if (2 : Int) = 0 then none else _) = _
        rw [if_neg (by decide)]
        rfl
      rw [em, opt_some]
      have eo : (s.filter fun i => !(at0 T i.toNat d0).2.2).length = oddN T s := rfl
      rw [eo]
      unfold isRound at hQ
      by_cases c : oddN T s % 2 = 1
      · rw [if_pos (by simp; omega)]
        refine ⟨by have := o.2.1; omega, ?_⟩
        rw [rangeL0]
        refine wpL_ofS (h := fun p : Nat => .bool (decide (folw T s p = some p))) (fun p hp k hk => ⟨n, T, s, p, rfl, o, h3, hk⟩) ?_
        rw [any_map, opt_some]
        simpa [c, goR] using hQ
      · rw [if_neg (by simp; omega)]
        have e2 : PyData.eqv (.int ((oddN T s % 2 : Nat) : Int)) (.int 1) = false := by simp; omega
        rw [e2]
        simpa [c] using hQ
/-! ### rising rows -/
theorem rs_len : ∀ m, m ≤ 8 → ∀ k, k ≤ 8 → (rs m k).length ≤ 80 := by decide +kernel
theorem rs_mem {m : Nat} : ∀ {k : Nat} {s : List Int}, s ∈ rs m k → s.length = k ∧ ∀ v ∈ s, 0 ≤ v ∧ v < m
  | 0, s, h => by rw [List.mem_singleton.mp h]; exact ⟨rfl, by simp⟩
  | k + 1, s, h => by
    obtain ⟨r, hr, h⟩ := List.mem_flatMap.mp h
    obtain ⟨a, ha, rfl⟩ := List.mem_map.mp h
    obtain ⟨h1, h2⟩ := rs_mem hr
    have ha := List.mem_range.mp (List.mem_filter.mp ha).1
    refine ⟨by simp [h1], fun v hv => ?_⟩
    rcases List.mem_append.mp hv with hv | hv
    · exact h2 v hv
    · rw [List.mem_singleton.mp hv]; omega
theorem ix_lastD {s : List Int} (h : s ≠ []) : ixSem (tI s) (.int (-1)) = some (.int (lastD s)) := by
  rcases List.eq_nil_or_concat s with rfl | ⟨r, v, rfl⟩
  · exact absurd rfl h
  · rw [List.concat_eq_append]
    have e : lastD (r ++ [v]) = v := by
      unfold lastD
      rw [show (r ++ [v]).length - 1 = r.length by simp, at0_end]
    rw [e]
    show atI ((r ++ [v]).map PyData.int) (-1) = _
    rw [List.map_append]
    exact ix_last
/-- what a row is followed by -/
def nxt (m : Nat) (s : List Int) : List (List Int) := ((List.range m).filter fun (a : Nat) => decide (s = [] ∨ lastD s < (a : Int))).map fun (a : Nat) => s ++ [(a : Int)]
theorem rs_succ {m k : Nat} : rs m (k + 1) = (rs m k).flatMap (nxt m) := rfl
theorem nxt_range {m : Nat} {s : List Int} (hs : ∀ v ∈ s, 0 ≤ v ∧ v < m) : nxt m s = (List.range (m - (if s = [] then 0 else (lastD s).toNat + 1))).map fun (i : Nat) => s ++ [(if s = [] then (0 : Int) else lastD s + 1) + (i : Int)] := by
  have key : ∀ (m lo : Nat) (P : Nat → Bool), (∀ a, P a = decide (lo ≤ a)) → (List.range m).filter P = (List.range (m - lo)).map fun i => lo + i := by
    intro m lo P hP
    induction m with
    | zero => simp
    | succ m ih =>
      rw [List.range_succ, List.filter_append, ih]
      by_cases c : lo ≤ m
      · rw [show m + 1 - lo = (m - lo) + 1 by omega, List.range_succ, List.map_append, List.filter_cons, hP m, if_pos (decide_eq_true c)]
        simp
        omega
      · rw [show m + 1 - lo = 0 by omega, show m - lo = 0 by omega, List.filter_cons, hP m, if_neg (by simpa using c)]
        rfl
  have h0 : s ≠ [] → 0 ≤ lastD s := fun h => by
    unfold lastD
    exact (hs _ (at0_mem (by have := List.length_pos_iff.mpr h; omega))).1
  unfold nxt
  by_cases c : s = []
  · rw [if_pos c, if_pos c, key m 0 _ (fun a => by simp [c]), List.map_map]
    refine List.map_congr_left fun i _ => ?_
    simp
  · have := h0 c
    rw [if_neg c, if_neg c, key m ((lastD s).toNat + 1) _ (fun a => decide_eq_decide.mpr ⟨fun h => by rcases h with h | h; exact absurd h c; omega, fun h => .inr (by omega)⟩), List.map_map]
    refine List.map_congr_left fun i _ => ?_
    show s ++ [(((lastD s).toNat + 1 + i : Nat) : Int)] = _
    congr 2
    omega
theorem ln_chosen : ∀ i ds Q X, (sg_chosen i).sp ds Q X → (if (sg_chosen i).row then 1 else 0) + ds.length = (sg_chosen i).ps.length := by
  rintro i ds Q X ⟨_, _, rfl, _⟩; rfl
theorem wp_chosen : ∀ i ds Q X, (sg_chosen i).sp ds Q X → wpSs (gam_chosen i) b_chosen (rho0 5 (sg_chosen i).row ds) (postOf Q X) := by
  rintro i ds Q X ⟨m, k, rfl, hm, hk, hi, hq⟩
  simp [b_chosen]
  cases k with
  | zero => simp; exact hq
  | succ k =>
    obtain ⟨i, rfl⟩ : ∃ i', i = i' + 1 := ⟨i - 1, by omega⟩
    rw [s_for]
    simp
    refine ⟨m, k, rfl, hm, by omega, by omega, ?_⟩
    simp
    intro _
    refine forL_pre (fun pre ρ => ∃ (x3 x4 : B), ρ = [.val (.int (m : Nat)), .val (.int ((k : Int) + 1)), .own ((pre.flatMap (nxt m)).map tI), x3, x4]) ⟨_, _, rfl⟩ ?_ ?_
    · rintro pre s post he ρ k2 ⟨x3, x4, rfl⟩ hk2
      have hs := rs_mem (m := m) (k := k) (s := s) (by rw [he]; simp)
      have hlen := rs_len m hm (k + 1) hk
      rw [rs_succ, he, List.flatMap_append, List.flatMap_cons, List.length_append, List.length_append] at hlen
      rw [List.flatMap_append, List.flatMap_cons, List.flatMap_nil, List.append_nil] at hk2
      have en := nxt_range hs.2
      generalize pre.flatMap (nxt m) = F at hlen hk2
      have step : ∀ lo : Nat, nxt m s = (List.range (m - lo)).map (fun (i : Nat) => s ++ [(lo : Int) + (i : Int)]) → wpL (fun x k => opt (binSem .Add (tI s) (.tuple [x])) fun y => k (some y)) (rangeL (lo : Int) 1 ((m : Int) - (lo : Int)).toNat) fun ys => F.length + ys.length ≤ 16777216 ∧ k2 [.val (.int (m : Nat)), .val (.int ((k : Int) + 1)), .own (F.map tI ++ ys), .val (tI s), x4] := by
        intro lo e
        rw [show ((m : Int) - (lo : Int)).toNat = m - lo by omega, rangeL_eq]
        refine wpL_ofS (h := fun i : Nat => tI (s ++ [(lo : Int) + (i : Int)])) (fun i hi k hk => ?_) ?_
        · rw [show binSem .Add (tI s) (.tuple [.int ((lo : Int) + (i : Int))]) = some (tI (s ++ [(lo : Int) + (i : Int)])) from cat_tI (b := [(lo : Int) + (i : Int)]) (by simp; omega), opt_some]
          exact hk
        · have e2 : (List.range (m - lo)).map (fun i : Nat => tI (s ++ [(lo : Int) + (i : Int)])) = (nxt m s).map tI := by rw [e, List.map_map]; rfl
          rw [e2]
          refine ⟨by simp only [List.length_map]; omega, hk2 _ ⟨.val (tI s), x4, ?_⟩⟩
          rw [List.map_append]
      simp
      by_cases c : s = []
      · subst c
        simp
        refine ⟨by omega, ?_⟩
        have := step 0 (by rw [en]; simp)
        simpa using this
      · have h0 : 0 ≤ lastD s ∧ lastD s < m := by
          unfold lastD
          exact hs.2 _ (at0_mem (by have := List.length_pos_iff.mpr c; omega))
        have e1 : (((lastD s).toNat + 1 : Nat) : Int) = lastD s + 1 := by omega
        have := step ((lastD s).toNat + 1) (by rw [en, if_neg c, if_neg c, e1])
        rw [e1] at this
        rw [if_neg c]
        rw [ix_lastD c, opt_some]
        simp
        refine ⟨by omega, ?_⟩
        exact this
    · rintro ρ ⟨x3, x4, rfl⟩
      simp
      exact hq
theorem ln_subsets : ∀ ds Q X, sg_subsets.sp ds Q X → (if sg_subsets.row then 1 else 0) + ds.length = sg_subsets.ps.length := by
  rintro ds Q X ⟨_, _, rfl, _⟩; rfl
theorem wp_subsets : ∀ ds Q X, sg_subsets.sp ds Q X → wpSs gam_subsets b_subsets (rho0 2 sg_subsets.row ds) (postOf Q X) := by
  rintro ds Q X ⟨a, b, rfl, hq⟩
  simp [b_subsets]
  refine ⟨_, _, _, rfl, ?_⟩
  have en : ∀ m : Nat, m ≤ 8 → isIntB (.int (m : Nat)) 0 14 = true := fun m hm => by simp [isIntB]; omega
  rcases hq with ⟨h1, hx⟩ | ⟨h1, h2, hx⟩ | ⟨m, k, hm, hk, rfl, rfl, hQ⟩
  · exact demand_b (fun z => by rw [h1] at z; cases z) fun _ => hx
  · refine demand_b (fun _ => ?_) fun z => by rw [h1] at z; cases z
    refine ⟨_, _, _, rfl, ?_⟩
    exact demand_b (fun z => by rw [h2] at z; cases z) fun _ => hx
  · refine demand_b (fun _ => ?_) fun z => by rw [en m hm] at z; cases z
    refine ⟨_, _, _, rfl, ?_⟩
    refine demand_b (fun _ => ?_) fun z => by rw [en k hk] at z; cases z
    refine ⟨m, k, rfl, hm, hk, by omega, ?_⟩
    dsimp only
    rw [show bltSem .tuple [.list ((rs m k).map tI)] = some (.tuple ((rs m k).map tI)) from rfl, opt_some]
    exact hQ
theorem ln_fewest_cut : ∀ ds Q X, sg_fewest_cut.sp ds Q X → (if sg_fewest_cut.row then 1 else 0) + ds.length = sg_fewest_cut.ps.length := by
  rintro ds Q X ⟨_, rfl, _⟩; rfl
theorem wp_fewest_cut : ∀ ds Q X, sg_fewest_cut.sp ds Q X → wpSs gam_fewest_cut b_fewest_cut (rho0 3 sg_fewest_cut.row ds) (postOf Q X) := by
  rintro ds Q X ⟨v, rfl, hq⟩
  simp [b_fewest_cut]
  refine ⟨_, rfl, facOr_demand hq fun n T o e h => ?_⟩
  subst e
  obtain ⟨h8, h⟩ := h
  rw [s_whl]
  refine ⟨fun f ρ => ∃ (k : Nat) (x2 : B), ρ = [.val (dFac n T), .val (.int (k : Nat)), x2] ∧ k ≤ T.length ∧ f = T.length - k ∧ ∀ j, j < k → cutAt n T j = none, ⟨_, 0, _, rfl, Nat.zero_le _, rfl, fun j hj => absurd hj (Nat.not_lt_zero _)⟩, ?_⟩
  rintro f ρ ⟨k, x2, rfl, hk, rfl, hn⟩
  simp
  rw [s_for]
  simp
  refine ⟨T.length, k, rfl, h8, by omega, by omega, ?_⟩
  simp
  intro _
  refine forL_find (fun ρ => ∃ x2 : B, ρ = [.val (dFac n T), .val (.int (k : Nat)), x2]) (cutOk n T) ⟨_, rfl⟩ ?_ ?_ ?_
  · rintro s hs hp hf ρ k2 ⟨x2, rfl⟩
    simp
    refine ⟨n, T, s, rfl, o, ?_⟩
    unfold cutOk at hp
    have hp := of_decide_eq_true hp
    rw [hp]
    simp
    rw [if_pos (show optI none < 0 by decide)]
    exact h k s hn hf
  · rintro s hs hp ρ k2 ⟨x2, rfl⟩ hk2
    simp
    refine ⟨n, T, s, rfl, o, ?_⟩
    unfold cutOk at hp
    have hp := of_decide_eq_false hp
    simp
    rw [if_neg (fun z => hp (optI_neg.mp z))]
    exact hk2 _ ⟨_, rfl⟩
  · rintro hf ρ ⟨x2, rfl⟩
    have hne : k ≠ T.length := fun z => by
      obtain ⟨s, hs⟩ := cut_ex (n := n) (T := T)
      rw [← z] at hs
      have hf : cutAt n T k = none := hf
      rw [hf] at hs
      cases hs
    simp
    refine ⟨T.length - (k + 1), by omega, k + 1, ?_, by omega, rfl, fun j hj => ?_⟩
    · omega
    · by_cases c : j = k
      · rw [c]; exact hf
      · exact hn j (by omega)
end Dl

set_option Elab.async false
set_option linter.all false
set_option maxRecDepth 100000
set_option maxHeartbeats 8000000
namespace Dl
open PySem PySem.Spec PyProof.Rows L2
theorem wpLL_of {α : Type} {f : PyData → (List PyData → Prop) → Prop} {c : α → PyData} {g : α → List PyData} {ns : List α} {Q : List PyData → Prop} (hf : ∀ n ∈ ns, ∀ k, k (g n) → f (c n) k) (q : Q (ns.flatMap g)) : wpLL f (ns.map c) Q := by
  induction ns generalizing Q with
  | nil => exact q
  | cons n r ih =>
    refine hf n List.mem_cons_self _ ?_
    refine ih (fun m hm => hf m (List.mem_cons_of_mem _ hm)) ?_
    rw [List.flatMap_cons] at q
    exact q
theorem w_lc2 {Γ : Gam} {ρ : Env1} {X : Str → Prop} {elt : E} {own : List (Str × Nat)} {tg : Pat} {it : It1} {cs : EL} {vs1 : List Nat} {tg1 : Pat} {it1 : It1} {cs1 : EL} {Q : PyData → Prop} : wpE Γ (.lc2 elt own tg it cs vs1 tg1 it1 cs1) ρ Q X =
    wpI Γ it ρ (fun items => items.length ≤ 4096 ∧ wpLL (fun x k => opt (bindP tg x (wipeB ρ (own.map (·.2)))) fun ρ' =>
      wpTAnds Γ cs ρ' (fun b => if b = true then wpI Γ it1 ρ' (fun items1 => items1.length ≤ 4096 ∧ wpL (fun x1 k1 => opt (bindP tg1 x1 (wipeB ρ' vs1)) fun ρ1 =>
        wpTAnds Γ cs1 ρ1 (fun b1 => if b1 = true then wpE Γ elt ρ1 (fun y => k1 (some y)) (fun _ => False) else k1 none) (fun _ => False)) items1 k) (fun _ => False) else k []) (fun _ => False)) items fun ys => Q (.list ys)) X := rfl
theorem ln__law_facing : ∀ ds Q X, sg__law_facing.sp ds Q X → (if sg__law_facing.row then 1 else 0) + ds.length = sg__law_facing.ps.length := by
  rintro ds Q X ⟨rfl, _⟩; rfl
theorem wp__law_facing : ∀ ds Q X, sg__law_facing.sp ds Q X → wpSs gam__law_facing b__law_facing (rho0 10 sg__law_facing.row ds) (postOf Q X) := by
  rintro ds Q X ⟨rfl, hq⟩
  show wpSs gam__law_facing b__law_facing [.row, .bad, .bad, .bad, .bad, .bad, .bad, .bad, .bad, .bad] _
  simp [b__law_facing]
  refine taken_all (by decide) (by decide) fun r r0 r1 => ?_
  simp
  refine ⟨by omega, by omega, ?_⟩
  refine wpL_rel (R := fun y => ∃ v : Int, y = .int v) (fun x hx k hk => ?_) ?_
  · exact taken_all (by decide) (by decide) fun r r0 r1 => hk _ ⟨_, rfl⟩
  · intro ys hl hys
    obtain ⟨ns, rfl, _⟩ := rel_of (c := PyData.int) (R := fun _ => True) (fun y hy => by obtain ⟨v, rfl⟩ := hys y hy; exact ⟨v, rfl, trivial⟩)
    obtain ⟨m, hm⟩ : ∃ m : Nat, 1 + r = m := ⟨(1 + r).toNat, by omega⟩
    have hl : ns.length = m := by
      rw [List.length_map] at hl
      unfold rangeL at hl
      simp at hl
      omega
    rw [hm]
    refine taken_all (by decide) (by decide) fun kd d0 d1 => ?_
    rw [s_for]
    simp
    by_cases ck : kd < 2
    · rw [if_pos ck]
      refine taken_all (by decide) (by decide) fun c c0 c1 => ?_
      dsimp only
      refine ⟨by omega, by omega, ?_⟩
      rw [rangeL0]
      refine forL_pre (fun pre ρ => ∃ (T : List Tie) (x4 x6 x7 x8 x9 : B), ρ = [.row, .val (.int (m : Nat)), .val (.list (ns.map .int)), .val (.int kd), x4, .own (T.map dTie), x6, x7, x8, x9] ∧ T.length = pre.length ∧ ∀ t ∈ T, t.1 < m ∧ t.2.1 < m) ⟨[], _, _, _, _, _, rfl, rfl, fun t h => by cases h⟩ ?_ ?_
      · rintro pre i post he ρ k ⟨T, x4, x6, x7, x8, x9, rfl, h1, h2⟩ hk
        obtain ⟨rfl, hi⟩ := range_pre he
        simp
        refine taken_all (by omega) (by omega) fun a a0 a1 => ?_
        refine taken_all (by omega) (by omega) fun b b0 b1 => ?_
        obtain ⟨a, rfl⟩ : ∃ n : Nat, a = n := ⟨a.toNat, by omega⟩
        obtain ⟨b, rfl⟩ : ∃ n : Nat, b = n := ⟨b.toNat, by omega⟩
        have fin : ∀ (v : Bool) (ρ' : Env1), ρ' = [.row, .val (.int (m : Nat)), .val (.list (ns.map .int)), .val (.int kd), x4, .own (T.map dTie ++ [.tuple [.int (a : Nat), .int (b : Nat), .bool v]]), .val (.int (pre.length : Nat)), .val (.int (a : Nat)), .val (.int (b : Nat)), .val (.bool v)] → k ρ' := fun v ρ' e => by
          refine hk _ ⟨T ++ [(a, b, v)], x4, .val (.int (pre.length : Nat)), .val (.int (a : Nat)), .val (.int (b : Nat)), .val (.bool v), ?_, by simp [h1], fun t ht => ?_⟩
          · rw [e, List.map_append]; rfl
          · rcases List.mem_append.mp ht with ht | ht
            · exact h2 t ht
            · rw [List.mem_singleton.mp ht]; exact ⟨by show a < m; omega, by show b < m; omega⟩
        have hT : T.length < 16777216 := by omega
        have eI : ∀ x : Nat, x < m → ixSem (.list (ns.map .int)) (.int (x : Nat)) = some (.int (at0 ns x 0)) := fun x hx => ix_lI (by omega)
        rw [eI a (by omega), opt_some, eI b (by omega), opt_some, show cmpSem .Eq (.int (at0 ns a 0)) (.int (at0 ns b 0)) = some (at0 ns a 0 == at0 ns b 0) from rfl, opt_some]
        by_cases k1 : kd = 1
        · rw [if_pos k1]
          refine taken_all (by decide) (by decide) fun d _ _ => ?_
          split
          · refine taken_all (by decide) (by decide) fun d _ _ => ?_
            exact ⟨hT, fin _ _ rfl⟩
          · rw [if_neg (by omega)]
            exact ⟨hT, fin _ _ rfl⟩
        · rw [if_neg k1]
          split
          · refine taken_all (by decide) (by decide) fun d _ _ => ?_
            exact ⟨hT, fin _ _ rfl⟩
          · exact ⟨hT, fin _ _ rfl⟩
      · rintro ρ ⟨T, x4, x6, x7, x8, x9, rfl, h1, h2⟩
        rw [List.length_range] at h1
        simp
        intro _
        exact hq m T ⟨by omega, by omega, by omega, h2⟩
    · rw [if_neg ck]
      refine taken_all (by decide) (by decide) fun c c0 c1 => ?_
      dsimp only
      refine ⟨by omega, by omega, ?_⟩
      rw [rangeL0]
      refine forL_pre (fun pre ρ => ∃ (T : List Tie) (x4 x6 x7 x8 x9 : B), ρ = [.row, .val (.int (m : Nat)), .val (.list (ns.map .int)), .val (.int kd), x4, .own (T.map dTie), x6, x7, x8, x9] ∧ T.length = pre.length ∧ ∀ t ∈ T, t.1 < m ∧ t.2.1 < m) ⟨[], _, _, _, _, _, rfl, rfl, fun t h => by cases h⟩ ?_ ?_
      · rintro pre i post he ρ k ⟨T, x4, x6, x7, x8, x9, rfl, h1, h2⟩ hk
        obtain ⟨rfl, hi⟩ := range_pre he
        simp
        refine taken_all (by omega) (by omega) fun a a0 a1 => ?_
        refine taken_all (by omega) (by omega) fun b b0 b1 => ?_
        obtain ⟨a, rfl⟩ : ∃ n : Nat, a = n := ⟨a.toNat, by omega⟩
        obtain ⟨b, rfl⟩ : ∃ n : Nat, b = n := ⟨b.toNat, by omega⟩
        have fin : ∀ (v : Bool) (ρ' : Env1), ρ' = [.row, .val (.int (m : Nat)), .val (.list (ns.map .int)), .val (.int kd), x4, .own (T.map dTie ++ [.tuple [.int (a : Nat), .int (b : Nat), .bool v]]), .val (.int (pre.length : Nat)), .val (.int (a : Nat)), .val (.int (b : Nat)), .val (.bool v)] → k ρ' := fun v ρ' e => by
          refine hk _ ⟨T ++ [(a, b, v)], x4, .val (.int (pre.length : Nat)), .val (.int (a : Nat)), .val (.int (b : Nat)), .val (.bool v), ?_, by simp [h1], fun t ht => ?_⟩
          · rw [e, List.map_append]; rfl
          · rcases List.mem_append.mp ht with ht | ht
            · exact h2 t ht
            · rw [List.mem_singleton.mp ht]; exact ⟨by show a < m; omega, by show b < m; omega⟩
        have hT : T.length < 16777216 := by omega
        have eI : ∀ x : Nat, x < m → ixSem (.list (ns.map .int)) (.int (x : Nat)) = some (.int (at0 ns x 0)) := fun x hx => ix_lI (by omega)
        rw [eI a (by omega), opt_some, eI b (by omega), opt_some, show cmpSem .Eq (.int (at0 ns a 0)) (.int (at0 ns b 0)) = some (at0 ns a 0 == at0 ns b 0) from rfl, opt_some]
        by_cases k1 : kd = 1
        · rw [if_pos k1]
          refine taken_all (by decide) (by decide) fun d _ _ => ?_
          split
          · refine taken_all (by decide) (by decide) fun d _ _ => ?_
            exact ⟨hT, fin _ _ rfl⟩
          · rw [if_neg (by omega)]
            exact ⟨hT, fin _ _ rfl⟩
        · rw [if_neg k1]
          split
          · refine taken_all (by decide) (by decide) fun d _ _ => ?_
            exact ⟨hT, fin _ _ rfl⟩
          · exact ⟨hT, fin _ _ rfl⟩
      · rintro ρ ⟨T, x4, x6, x7, x8, x9, rfl, h1, h2⟩
        rw [List.length_range] at h1
        simp
        intro _
        exact hq m T ⟨by omega, by omega, by omega, h2⟩
theorem mx2 {a b : Nat} : bltSem .max [tI [(a : Int), (b : Int)]] = some (.int ((max a b : Nat) : Int)) := by
  show some (PyData.int (if (b : Int) > (a : Int) then (b : Int) else (a : Int))) = _
  congr 2
  split <;> omega
theorem in_pair {v a b : Int} : cmpSem .In (.int v) (.tuple [.int a, .int b]) = some (decide (v = a ∨ v = b)) := by
  rw [show PyData.tuple [.int a, .int b] = PyData.tuple ([a, b].map PyData.int) from rfl, in_tmap (c := PyData.int) (k := 0) eqv_int2 (fun a => Nat.le_refl _) (by decide)]
  congr 1
  refine decide_eq_decide.mpr ?_
  simp
theorem ln__law_groups : ∀ ds Q X, sg__law_groups.sp ds Q X → (if sg__law_groups.row then 1 else 0) + ds.length = sg__law_groups.ps.length := by
  rintro ds Q X ⟨_, _, rfl, _⟩; rfl
theorem wp__law_groups : ∀ ds Q X, sg__law_groups.sp ds Q X → wpSs gam__law_groups b__law_groups (rho0 7 sg__law_groups.row ds) (postOf Q X) := by
  rintro ds Q X ⟨n, T, rfl, o, hq⟩
  simp [b__law_groups]
  have o2 := o.2.1
  refine ⟨by omega, ?_⟩
  rw [s_for]
  simp
  refine ⟨by omega, ?_⟩
  rw [rangeL0, show (List.range n).map (fun (i : Nat) => PyData.int (i : Int)) = tab n cN id from rfl]
  have F : Forest n T [] (sT n T) := sprT_forest o.2.2.2
  refine forL_pre (fun pre ρ => ∃ (K : Nat) (g : Nat → Nat) (x2 x3 x4 x5 x6 : B), ρ = [.val (dFac n T), .val (.list (tab n cN g)), x2, x3, x4, x5, x6] ∧ (pre ≠ [] → K = T.length) ∧ K ≤ T.length ∧ GInv n T (sT n T) K g) ⟨0, id, _, _, _, _, _, rfl, fun h => absurd rfl h, Nat.zero_le _, ginv_0 n T _⟩ ?_ ?_
  · rintro pre i post he ρ k ⟨K, g, x2, x3, x4, x5, x6, rfl, _, hK, G⟩ hk
    simp
    rw [s_for]
    simp
    intro _
    refine forL_pre (fun pre ρ => ∃ (K : Nat) (g : Nat → Nat) (x2 x3 x4 x5 x6 : B), ρ = [.val (dFac n T), .val (.list (tab n cN g)), x2, x3, x4, x5, x6] ∧ pre.length ≤ K ∧ K ≤ T.length ∧ GInv n T (sT n T) K g) ⟨K, g, _, _, _, _, _, rfl, Nat.zero_le _, hK, G⟩ ?_ ?_
    · rintro pre t post he ρ k2 ⟨K, g, x2, x3, x4, x5, x6, rfl, h1, hK, G⟩ hk2
      have hi : pre.length < T.length := by rw [he]; simp
      have et : at0 T pre.length d0 = t := at0_get' (by rw [he]; simp)
      obtain ⟨G1, G2⟩ := mrg_inv o.2.2.2 F hK hi G
      have hm := o.2.2.2 t (by rw [he]; simp)
      rw [et] at G1 G2
      unfold dTie
      simp
      intro _
      refine wpL_ofS (ns := List.range n) (c := fun p => cN (g p)) (h := fun p => cN (mrg g t p)) (fun p hp k3 hk3 => ?_) ?_
      · rw [tab_get hm.1, opt_some, tab_get hm.2, opt_some]
        have e : cmpSem .In (cN (g p)) (.tuple [cN (g t.1), cN (g t.2.1)]) = some (decide (((g p : Nat) : Int) = (g t.1 : Nat) ∨ ((g p : Nat) : Int) = (g t.2.1 : Nat))) := in_pair
        rw [e, opt_some, opt_some, opt_some]
        have e2 : bltSem .min [cN (g t.1), cN (g t.2.1)] = some (.int (min ((g t.1 : Nat) : Int) ((g t.2.1 : Nat) : Int))) := by
          show some (PyData.int (if ((g t.2.1 : Nat) : Int) < ((g t.1 : Nat) : Int) then ((g t.2.1 : Nat) : Int) else ((g t.1 : Nat) : Int))) = _
          congr 2
          split <;> omega
        rw [e2, opt_some]
        unfold mrg at hk3
        by_cases c : g p = g t.1 ∨ g p = g t.2.1
        · rw [if_pos (by rw [decide_eq_true_eq]; omega)]
          rw [if_pos c] at hk3
          rw [show min ((g t.1 : Nat) : Int) ((g t.2.1 : Nat) : Int) = ((min (g t.1) (g t.2.1) : Nat) : Int) by omega]
          exact hk3
        · rw [if_neg (by rw [decide_eq_true_eq]; omega)]
          rw [if_neg c] at hk3
          exact hk3
      · refine hk2 _ ⟨max K (pre.length + 1), mrg g t, _, _, _, _, _, rfl, by simp; omega, by omega, G1.1, fun j hj => ?_⟩
        by_cases c : j < K
        · exact G1.2 j c
        · rw [show j = pre.length by omega, et]; exact G2
    · rintro ρ ⟨K, g, x2, x3, x4, x5, x6, rfl, h1, hK, G⟩
      exact hk _ ⟨K, g, _, _, _, _, _, rfl, fun _ => by omega, hK, G⟩
  · rintro ρ ⟨K, g, x2, x3, x4, x5, x6, rfl, h1, hK, G⟩
    have := h1 (fun z => by have := congrArg List.length z; simp at this; have := o.1; omega)
    subst this
    have e := ginv_all o.2.2.2 F G
    simp
    have e2 : tab n cN g = (List.range n).map fun p => PyData.int ((sT n T).h p : Nat) := by
      unfold tab
      exact List.map_congr_left fun p hp => by rw [e p (List.mem_range.mp hp)]; rfl
    rw [e2]
    exact hq
def prN (x : Nat × Nat) : PyData := .tuple [.int (x.1 : Nat), .int (x.2 : Nat)]
def ends (n : Nat) (T : List Tie) (s : List Int) : List (Nat × Nat) := (List.range n).filterMap fun p => (folw T s p).map fun q => (p, q)
theorem ends_snoc {n : Nat} {T : List Tie} {s : List Int} {i : Nat} : ((ends n T s).filterMap fun x => if decide (isAt (at0 T i d0) x.2) = true then some (prN (x.1, oth (at0 T i d0) x.2)) else none) = (ends n T (s ++ [(i : Int)])).map prN := by
  unfold ends
  rw [List.filterMap_filterMap, List.map_filterMap]
  congr 1
  funext p
  rw [folw_app]
  cases folw T s p with
  | none => rfl
  | some q =>
    show (if decide (isAt (at0 T i d0) q) = true then some (prN (p, oth (at0 T i d0) q)) else none) = (((folw T [(i : Int)] q).map fun q => (p, q)).map prN)
    show _ = (((if isAt (at0 T (i : Int).toNat d0) q then some (oth (at0 T (i : Int).toNat d0) q) else none).map fun q => (p, q)).map prN)
    rw [Int.toNat_natCast]
    by_cases c : isAt (at0 T i d0) q
    · rw [if_pos (by simpa using c), if_pos c]; rfl
    · rw [if_neg (by simpa using c), if_neg c]; rfl
theorem ne_mem {α : Type} {l : List α} : (!l.isEmpty) = true ↔ ∃ x, x ∈ l := by
  cases l with
  | nil => simp
  | cons a r => simp
theorem goR_ends {n : Nat} {T : List Tie} {s : List Int} : (!(((ends n T s).filter fun x => decide (x.1 = x.2)).map prN).isEmpty) = goR n T s := by
  rw [Bool.eq_iff_iff, ne_mem]
  unfold goR ends
  rw [List.any_eq_true]
  constructor
  · rintro ⟨y, hy⟩
    obtain ⟨x, hx, _⟩ := List.mem_map.mp hy
    obtain ⟨h1, h2⟩ := List.mem_filter.mp hx
    obtain ⟨p, hp, e⟩ := List.mem_filterMap.mp h1
    refine ⟨p, hp, ?_⟩
    cases hf : folw T s p with
    | none => rw [hf] at e; cases e
    | some q =>
      rw [hf] at e
      cases e
      have h2 := of_decide_eq_true h2
      simp at h2
      rw [h2]; simp
  · rintro ⟨p, hp, e⟩
    have e := of_decide_eq_true e
    exact ⟨prN (p, p), List.mem_map.mpr ⟨(p, p), List.mem_filter.mpr ⟨List.mem_filterMap.mpr ⟨p, hp, by rw [e]; rfl⟩, by simp⟩, rfl⟩⟩
theorem ln__law_round : ∀ ds Q X, sg__law_round.sp ds Q X → (if sg__law_round.row then 1 else 0) + ds.length = sg__law_round.ps.length := by
  rintro ds Q X ⟨_, _, _, rfl, _⟩; rfl
theorem wp__law_round : ∀ ds Q X, sg__law_round.sp ds Q X → wpSs gam__law_round b__law_round (rho0 11 sg__law_round.row ds) (postOf Q X) := by
  rintro ds Q X ⟨n, T, s, rfl, o, hs, hl, hq⟩
  simp [b__law_round]
  have o2 := o.2.1
  refine ⟨by omega, ?_⟩
  rw [rangeL0]
  refine wpL_ofS (h := fun p : Nat => prN (p, p)) (fun p hp k hk => hk) ?_
  have e0 : (List.range n).map (fun p : Nat => prN (p, p)) = (ends n T []).map prN := by
    unfold ends
    rw [List.map_filterMap]
    rw [show (fun p => Option.map prN (Option.map (fun q => (p, q)) (folw T [] p))) = fun p => some (prN (p, p)) from rfl, List.filterMap_eq_map']
  rw [e0, s_for]
  simp
  intro _
  refine forL_pre (fun pre ρ => ∃ (x3 x4 x5 x6 x7 x8 x9 x10 : B), ρ = [.val (dFac n T), .val (tI s), .val (.list ((ends n T pre).map prN)), x3, x4, x5, x6, x7, x8, x9, x10]) ⟨_, _, _, _, _, _, _, _, rfl⟩ ?_ ?_
  · rintro pre i post he ρ k ⟨x3, x4, x5, x6, x7, x8, x9, x10, rfl⟩ hk
    have hi : 0 ≤ i ∧ i < T.length := hs i (by rw [he]; simp)
    obtain ⟨j, rfl⟩ : ∃ j : Nat, i = j := ⟨i.toNat, by omega⟩
    have hj : j < T.length := by omega
    simp
    rw [at0_get (d := d0) hj, Option.map_some, opt_some]
    rw [← ends_snoc] at hk
    generalize at0 T j d0 = t at hk
    unfold dTie
    simp
    intro _
    refine wpL_of (g := fun x : Nat × Nat => if decide (isAt t x.2) = true then some (prN (x.1, oth t x.2)) else none) (fun x hx k2 hk2 => ?_) ?_
    · unfold prN
      simp
      rw [in_pair, opt_some]
      by_cases c : isAt t x.2
      · rw [if_pos (by rw [decide_eq_true_eq]; unfold isAt at c; omega)]
        rw [if_pos (by simpa using c)] at hk2
        unfold oth at hk2
        by_cases c2 : t.1 = x.2
        · rw [if_pos (by omega)]
          rw [if_pos c2] at hk2
          exact hk2
        · rw [if_neg (by omega)]
          rw [if_neg c2] at hk2
          exact hk2
      · rw [if_neg (by rw [decide_eq_true_eq]; unfold isAt at c; omega)]
        rw [if_neg (by simpa using c)] at hk2
        exact hk2
    · exact hk _ ⟨_, _, _, _, _, _, _, _, rfl⟩
  · rintro ρ ⟨x3, x4, x5, x6, x7, x8, x9, x10, rfl⟩
    simp
    intro _
    refine wpL_of (g := fun i : Int => if (!(at0 T i.toNat d0).2.2) = true then some (.int i) else none) (fun i hi k hk => ?_) ?_
    · have := hs i hi
      obtain ⟨j, rfl⟩ : ∃ j : Nat, i = j := ⟨i.toNat, by omega⟩
      have hj : j < T.length := by omega
      rw [Int.toNat_natCast] at hk
      rw [fac_at hj, opt_some]
      cases hs : (at0 T j d0).2.2 <;> rw [hs] at hk <;> simp [hs] <;> exact hk
    · rw [filterMap_b, List.length_map]
      have em : ∀ c : Nat, binSem .Mod (.int (c : Nat)) (.int 2) = some (.int ((c % 2 : Nat) : Int)) := fun c => by
        show (if (2 : Int) = 0 then none else _) = _
        rw [if_neg (by decide)]
        rfl
      rw [em, opt_some]
      have eo : (s.filter fun i => !(at0 T i.toNat d0).2.2).length = oddN T s := rfl
      rw [eo]
      unfold isRound at hq
      by_cases c : oddN T s % 2 = 1
      · rw [if_pos (by simp; omega)]
        intro _
        refine wpL_of (g := fun x : Nat × Nat => if decide (x.1 = x.2) = true then some (prN x) else none) (fun x hx k hk => ?_) ?_
        · rw [show ixSem (prN x) (.int 0) = some (.int (x.1 : Nat)) from rfl, opt_some, show ixSem (prN x) (.int 1) = some (.int (x.2 : Nat)) from rfl, opt_some]
          simp
          by_cases c : x.1 = x.2
          · rw [if_pos (by omega)]
            rw [if_pos (by simpa using c)] at hk
            exact hk
          · rw [if_neg (by omega)]
            rw [if_neg (by simpa using c)] at hk
            exact hk
        · rw [filterMap_b, goR_ends]
          simpa [c] using hq
      · rw [if_neg (by simp; omega)]
        have e2 : PyData.eqv (.int ((oddN T s % 2 : Nat) : Int)) (.int 1) = false := by simp; omega
        rw [e2]
        simpa [c] using hq
theorem waysL_le {T : List Tie} {lf : List Int} : ∀ q, (waysL T lf q).length ≤ 2 ^ q
  | 0 => Nat.le_refl _
  | q + 1 => by
    have := waysL_le (T := T) (lf := lf) q
    refine Nat.le_trans (List.length_filter_le _ _) ?_
    rw [ext01_len, Nat.pow_succ]; omega
theorem ln__law_ways : ∀ ds Q X, sg__law_ways.sp ds Q X → (if sg__law_ways.row then 1 else 0) + ds.length = sg__law_ways.ps.length := by
  rintro ds Q X ⟨_, _, _, rfl, _⟩; rfl
theorem wp__law_ways : ∀ ds Q X, sg__law_ways.sp ds Q X → wpSs gam__law_ways b__law_ways (rho0 8 sg__law_ways.row ds) (postOf Q X) := by
  rintro ds Q X ⟨n, T, lf, rfl, o, hq⟩
  simp [b__law_ways]
  have o2 := o.2.1
  rw [s_for]
  simp
  refine ⟨by omega, ?_⟩
  rw [rangeL0]
  refine forL_pre (fun pre ρ => ∃ (x3 x4 x5 x6 x7 : B), ρ = [.val (dFac n T), .val (tI lf), .val (.list ((waysL T lf pre.length).map tI)), x3, x4, x5, x6, x7]) ⟨_, _, _, _, _, rfl⟩ ?_ ?_
  · rintro pre i post he ρ k ⟨x3, x4, x5, x6, x7, rfl⟩ hk
    obtain ⟨rfl, hi⟩ := range_pre he
    have hle := waysL_le (T := T) (lf := lf) pre.length
    have h28 : 2 ^ pre.length ≤ 2 ^ 8 := Nat.pow_le_pow_right (by decide) (by omega)
    rw [List.length_append, List.length_singleton] at hk
    have hrow : ∀ s ∈ waysL T lf pre.length, s.length = pre.length := fun s hs => (mem_waysL.mp hs).1
    change ∀ ρ', (∃ (x3 x4 x5 x6 x7 : B), ρ' = [.val (dFac n T), .val (tI lf), .val (.list (((ext01 (waysL T lf pre.length)).filter fun x => (List.range T.length).all fun i => okAt T lf pre.length i x).map tI)), x3, x4, x5, x6, x7]) → k ρ' at hk
    generalize waysL T lf pre.length = W at hle hrow hk
    generalize pre.length = q at *
    rw [w_lc2]
    simp
    intro _
    refine ⟨by omega, ?_⟩
    refine wpLL_of (g := fun s => [tI (s ++ [0]), tI (s ++ [1])]) (fun s hs k2 hk2 => ?_) ?_
    · have := hrow s hs
      refine wpL_ofS (ns := [(0 : Int), 1]) (c := PyData.int) (h := fun v => tI (s ++ [v])) (fun v hv k3 hk3 => ?_) hk2
      rw [show binSem .Add (tI s) (.tuple [.int v]) = some (tI (s ++ [v])) from cat_tI (b := [v]) (by simp; omega), opt_some]
      exact hk3
    · have e1 : W.flatMap (fun s => [tI (s ++ [0]), tI (s ++ [1])]) = (ext01 W).map tI := by
        unfold ext01
        rw [List.map_flatMap]; rfl
      have hrow2 : ∀ s ∈ ext01 W, s.length = q + 1 := fun s hs => by
        obtain ⟨r, hr, v, _, rfl⟩ := mem_ext01.mp hs
        simp [hrow r hr]
      rw [e1, s_for]
      generalize ext01 W = L at hk hrow2
      simp
      intro _
      rw [enum_T]
      refine forL_pre (fun pre ρ => ∃ (x4 x5 x6 x7 : B), ρ = [.val (dFac n T), .val (tI lf), .val (.list ((L.filter fun x => (List.range pre.length).all fun i => okAt T lf q i x).map tI)), .val (.int (q : Nat)), x4, x5, x6, x7]) ⟨x4, x5, x6, x7, by rw [show (L.filter fun x => (List.range ([] : List Nat).length).all fun i => okAt T lf q i x) = L from List.filter_eq_self.mpr (fun _ _ => rfl)]⟩ ?_ ?_
      · rintro pre i post he ρ k2 ⟨x4, x5, x6, x7, rfl⟩ hk2
        obtain ⟨rfl, hi⟩ := range_pre he
        rw [List.length_append, List.length_singleton] at hk2
        generalize pre.length = i at *
        have esn : (L.filter fun x => (List.range (i + 1)).all fun i => okAt T lf q i x) = (L.filter fun x => (List.range i).all fun i => okAt T lf q i x).filter fun x => okAt T lf q i x := by
          rw [List.filter_filter]
          refine List.filter_congr fun x _ => ?_
          rw [List.range_succ, List.all_append]
          simp [Bool.and_comm]
        rw [esn] at hk2
        have hsub : ∀ s ∈ (L.filter fun x => (List.range i).all fun i => okAt T lf q i x), s.length = q + 1 := fun s hs => hrow2 s (List.mem_filter.mp hs).1
        generalize (L.filter fun x => (List.range i).all fun i => okAt T lf q i x) = G at hk2 hsub
        have hm := o.2.2.2 _ (at0_mem (d := d0) hi)
        unfold okAt fitI at hk2
        simp
        generalize at0 T i d0 = t at hk2 hm
        by_cases c0 : (i : Int) ∈ lf
        · rw [if_pos c0]
          refine hk2 _ ⟨x4, x5, .val (.int (i : Nat)), .val (dTie t), ?_⟩
          rw [show (G.filter _) = G from List.filter_eq_self.mpr (fun _ _ => by simp [c0])]
        · rw [if_neg c0, mx2, opt_some]
          by_cases c1 : max t.1 t.2.1 = q
          · rw [if_pos (by simp; omega)]
            intro _
            refine wpL_of (g := fun x : List Int => if (decide (at0 x t.1 0 = at0 x t.2.1 0) == t.2.2) = true then some (tI x) else none) (fun x hx k3 hk3 => ?_) ?_
            · have := hsub x hx
              rw [ix_tI (d := 0) (by omega), opt_some, ix_tI (d := 0) (by omega), opt_some]
              simp
              rw [ieq]
              by_cases c2 : decide (at0 x t.1 0 = at0 x t.2.1 0) = t.2.2
              · rw [if_pos c2]
                rw [if_pos (by rw [c2]; simp)] at hk3
                exact hk3
              · rw [if_neg c2]
                rw [if_neg (by simpa using c2)] at hk3
                exact hk3
            · rw [filterMap_b]
              refine hk2 _ ⟨x4, x5, .val (.int (i : Nat)), .val (dTie t), ?_⟩
              rw [show (G.filter fun x => decide ((i : Int) ∈ lf) || (!decide (max t.1 t.2.1 = q) || decide (at0 x t.1 0 = at0 x t.2.1 0) == t.2.2)) = G.filter fun x => (decide (at0 x t.1 0 = at0 x t.2.1 0) == t.2.2) from List.filter_congr (fun _ _ => by simp [c0, c1])]
          · rw [if_neg (by simp; omega)]
            refine hk2 _ ⟨x4, x5, .val (.int (i : Nat)), .val (dTie t), ?_⟩
            rw [show (G.filter _) = G from List.filter_eq_self.mpr (fun _ _ => by simp [c0, c1])]
      · rintro ρ ⟨x4, x5, x6, x7, rfl⟩
        rw [List.length_range]
        exact hk _ ⟨_, _, _, _, _, rfl⟩
  · rintro ρ ⟨x3, x4, x5, x6, x7, rfl⟩
    rw [List.length_range]
    simp
    exact hq
theorem ln__law_cut : ∀ ds Q X, sg__law_cut.sp ds Q X → (if sg__law_cut.row then 1 else 0) + ds.length = sg__law_cut.ps.length := by
  rintro ds Q X ⟨_, _, rfl, _⟩; rfl
theorem wp__law_cut : ∀ ds Q X, sg__law_cut.sp ds Q X → wpSs gam__law_cut b__law_cut (rho0 4 sg__law_cut.row ds) (postOf Q X) := by
  rintro ds Q X ⟨n, T, rfl, o, h8, hq⟩
  simp [b__law_cut]
  rw [s_whl]
  refine ⟨fun f ρ => ∃ (k : Nat) (x2 x3 : B), ρ = [.val (dFac n T), .val (.list ((rs T.length k).map tI)), x2, x3] ∧ k ≤ T.length ∧ f = T.length - k ∧ ∀ j, j < k → cutAt n T j = none, ⟨_, 0, _, _, rfl, Nat.zero_le _, rfl, fun j hj => absurd hj (Nat.not_lt_zero _)⟩, ?_⟩
  rintro f ρ ⟨k, x2, x3, rfl, hk, rfl, hn⟩
  simp
  rw [s_for]
  simp
  intro _
  refine forL_find (fun ρ => ∃ x2 x3 : B, ρ = [.val (dFac n T), .val (.list ((rs T.length k).map tI)), x2, x3]) (cutOk n T) ⟨_, _, rfl⟩ ?_ ?_ ?_
  · rintro s hs hp hf ρ k2 ⟨x2, x3, rfl⟩
    simp
    refine ⟨n, T, s, rfl, o, ?_⟩
    rw [cutOk_ways o.2.2.2] at hp
    have hp := of_decide_eq_true hp
    have e : (PyData.list (List.map tI (waysL T s n))).eqv (PyData.list []) = decide (waysL T s n = []) := eqv_lmap eqv_tI (ys := [])
    rw [e, if_neg (by simpa using hp)]
    exact hq k s hn hf
  · rintro s hs hp ρ k2 ⟨x2, x3, rfl⟩ hk2
    simp
    refine ⟨n, T, s, rfl, o, ?_⟩
    rw [cutOk_ways o.2.2.2] at hp
    have hp := of_decide_eq_false hp
    have e : (PyData.list (List.map tI (waysL T s n))).eqv (PyData.list []) = decide (waysL T s n = []) := eqv_lmap eqv_tI (ys := [])
    rw [e, if_pos (by simpa using hp)]
    exact hk2 _ ⟨_, _, rfl⟩
  · rintro hf ρ ⟨x2, x3, rfl⟩
    have hne : k ≠ T.length := fun z => by
      obtain ⟨s, hs⟩ := cut_ex (n := n) (T := T)
      rw [← z] at hs
      have hf : cutAt n T k = none := hf
      rw [hf] at hs
      cases hs
    have hlen := rs_len T.length h8 k (by omega)
    rw [w_lc2]
    simp
    intro _
    refine ⟨by omega, ?_⟩
    refine wpLL_of (g := fun s => (nxt T.length s).map tI) (fun s hs k2 hk2 => ?_) ?_
    · obtain ⟨h1, h2⟩ := rs_mem hs
      refine ⟨by omega, by unfold rangeL; simp; omega, ?_⟩
      rw [rangeL0]
      refine wpL_of (g := fun a : Nat => if decide (s = [] ∨ lastD s < (a : Int)) = true then some (tI (s ++ [(a : Int)])) else none) (fun a ha k3 hk3 => ?_) ?_
      · have ea : binSem .Add (tI s) (.tuple [.int (a : Nat)]) = some (tI (s ++ [(a : Int)])) := cat_tI (b := [(a : Int)]) (by simp; omega)
        rw [ea]
        have es : (tI s).eqv (.tuple []) = decide (s = []) := eqv_tI s []
        rw [es]
        by_cases c : s = []
        · rw [if_pos (by simpa using c)]
          rw [if_pos (by simp [c])] at hk3
          rw [opt_some]
          exact hk3
        · rw [if_neg (by simpa using c), ix_lastD c, opt_some, show cmpSem .Gt (.int (a : Nat)) (.int (lastD s)) = some (decide (lastD s < (a : Int))) from rfl, opt_some, opt_some]
          by_cases c2 : lastD s < (a : Int)
          · rw [if_pos (by simpa using c2)]
            rw [if_pos (by simp [c2])] at hk3
            exact hk3
          · rw [if_neg (by simpa using c2)]
            rw [if_neg (by simp [c, c2])] at hk3
            exact hk3
      · rw [filterMap_b]
        have e : (nxt T.length s).map tI = ((List.range T.length).filter fun (a : Nat) => decide (s = [] ∨ lastD s < (a : Int))).map fun a : Nat => tI (s ++ [(a : Int)]) := by
          unfold nxt
          rw [List.map_map]; rfl
        rw [← e]
        exact hk2
    · refine ⟨T.length - (k + 1), by omega, k + 1, ?_, by omega, rfl, fun j hj => ?_⟩
      · rw [rs_succ, List.map_flatMap]
      · by_cases c : j = k
        · rw [c]; exact hf
        · exact hn j (by omega)
end Dl

set_option Elab.async false
set_option linter.all false
set_option maxRecDepth 100000
set_option maxHeartbeats 8000000
namespace Dl
open PySem PySem.Spec PyProof.Rows L2
theorem ln__law_tied : ∀ ds Q X, sg__law_tied.sp ds Q X → (if sg__law_tied.row then 1 else 0) + ds.length = sg__law_tied.ps.length := by
  rintro ds Q X ⟨_, _, rfl, _⟩; rfl
theorem wp__law_tied : ∀ ds Q X, sg__law_tied.sp ds Q X → wpSs gam__law_tied b__law_tied (rho0 9 sg__law_tied.row ds) (postOf Q X) := by
  rintro ds Q X ⟨n, T, rfl, o, hq⟩
  show wpSs gam__law_tied b__law_tied [.row, .val (dFac n T), .val (.list ((waysL T [] n).map tI)), .bad, .bad, .bad, .bad, .bad, .bad] _
  simp [b__law_tied]
  have o1 := o.1
  have o2 := o.2.1
  refine taken_all (by omega) (by omega) fun a a0 a1 => ?_
  refine taken_all (by omega) (by omega) fun b b0 b1 => ?_
  obtain ⟨a, rfl⟩ : ∃ n : Nat, a = n := ⟨a.toNat, by omega⟩
  obtain ⟨b, rfl⟩ : ∃ n : Nat, b = n := ⟨b.toNat, by omega⟩
  have ha : a < n := by omega
  have hb : b < n := by omega
  have F : Forest n T [] (sT n T) := sprT_forest o.2.2.2
  have hnil : waysL T [] n ≠ [] ↔ oddT n T = none := by
    rw [ways_nil o.2.2.2 F]; exact firstO_none.symm
  have hbad : isIntB (.int (n : Nat)) 0 ((n : Int) - 1) = false := by simp [isIntB]; omega
  by_cases c : waysL T [] n = []
  · rw [if_pos c]
    refine ⟨_, _, _, rfl, .inr ⟨n, T, o, rfl, .inl ⟨fun z => hnil.mpr z c, ?_⟩⟩⟩
    simp
    exact hq
  · rw [if_neg c]
    have hodd := hnil.mp c
    intro _
    refine wpL_ofS (h := fun x : List Int => .bool (decide (at0 x a 0 = at0 x b 0))) (fun x hx k hk => ?_) ?_
    · have := ((ways_sol o.2.2.2).mp hx).1
      rw [ix_tI (d := 0) (by omega), opt_some, ix_tI (d := 0) (by omega), opt_some, show cmpSem .Eq (.int (at0 x a 0)) (.int (at0 x b 0)) = some (at0 x a 0 == at0 x b 0) from rfl, opt_some, ieq]
      exact hk
    · have eb : ∀ p q : Bool, PyData.eqv (.bool p) (.bool q) = decide (p = q) := by decide
      have ey : (waysL T [] n).map (fun x => PyData.bool (decide (at0 x a 0 = at0 x b 0))) = ((waysL T [] n).map fun x => decide (at0 x a 0 = at0 x b 0)).map PyData.bool := by rw [List.map_map]; rfl
      rw [ey]
      have hmem : ∀ v, v ∈ ((waysL T [] n).map fun x => decide (at0 x a 0 = at0 x b 0)) ↔ ∃ x ∈ waysL T [] n, decide (at0 x a 0 = at0 x b 0) = v := fun v => List.mem_map
      have hne : ((waysL T [] n).map fun x => decide (at0 x a 0 = at0 x b 0)) ≠ [] := by simpa using c
      have hsame := fun x hx => tied_same o.2.2.2 F (x := x) hx ha hb
      have hboth := tied_both o.2.2.2 F (firstO_none.mp hodd) ha hb
      generalize ((waysL T [] n).map fun x => decide (at0 x a 0 = at0 x b 0)) = B at hmem hne
      have ein : ∀ v : Bool, cmpSem .In (.bool v) (.list (B.map PyData.bool)) = some (decide (v ∈ B)) := fun v => in_lmap (c := PyData.bool) (k := 0) eb (fun a => Nat.le_refl _) (by decide)
      rw [ein, ein, opt_some, opt_some]
      by_cases e : (sT n T).h a = (sT n T).h b
      · have hall : ∀ v ∈ B, v = decide ((sT n T).y a = (sT n T).y b) := fun v hv => by
          obtain ⟨x, hx, rfl⟩ := (hmem v).mp hv
          exact hsame x hx e
        have et : tiedD n T a b = .bool (decide ((sT n T).y a = (sT n T).y b)) := by unfold tiedD; rw [if_pos e]
        generalize decide ((sT n T).y a = (sT n T).y b) = v0 at hall et
        obtain ⟨w, r, rfl⟩ := List.exists_cons_of_ne_nil hne
        have hw := hall w (.head _)
        subst hw
        have eat : atI ((w :: r).map PyData.bool) 0 = some (.bool w) := by
          show (ixN ((w :: r).map PyData.bool).length ((0 : Nat) : Int)).bind _ = _
          rw [ixN_nat (by simp)]; rfl
        rw [eat]
        cases w with
        | true =>
          have hf : false ∉ true :: r := fun z => by cases hall _ z
          rw [if_pos (by simp), if_neg (by simpa using hf), opt_some]
          refine ⟨_, _, _, rfl, .inr ⟨n, T, o, rfl, .inr ⟨hodd, .inl ⟨hbad, ?_⟩⟩⟩⟩
          refine ⟨_, _, _, rfl, .inr ⟨n, T, o, rfl, .inr ⟨hodd, .inr ⟨a, ha, rfl, .inl ⟨rfl, ?_⟩⟩⟩⟩⟩
          refine ⟨rfl, _, _, _, rfl, .inr ⟨n, T, o, rfl, .inr ⟨hodd, .inr ⟨a, ha, rfl, .inr ⟨b, hb, rfl, ?_⟩⟩⟩⟩⟩
          refine alike_eq et rfl ?_
          simp
          rw [show cmpSem .Eq (.list [.str (Str.ofString "one"), .str (Str.ofString "other")]) (.list [.str (Str.ofString "one"), .str (Str.ofString "other")]) = some true from rfl, opt_some]
          exact hq
        | false =>
          have hf : true ∉ false :: r := fun z => by cases hall _ z
          rw [if_neg (by simpa using hf), opt_some]
          refine ⟨_, _, _, rfl, .inr ⟨n, T, o, rfl, .inr ⟨hodd, .inl ⟨hbad, ?_⟩⟩⟩⟩
          refine ⟨_, _, _, rfl, .inr ⟨n, T, o, rfl, .inr ⟨hodd, .inr ⟨a, ha, rfl, .inl ⟨rfl, ?_⟩⟩⟩⟩⟩
          refine ⟨rfl, _, _, _, rfl, .inr ⟨n, T, o, rfl, .inr ⟨hodd, .inr ⟨a, ha, rfl, .inr ⟨b, hb, rfl, ?_⟩⟩⟩⟩⟩
          refine alike_eq et rfl ?_
          simp
          rw [show cmpSem .Eq (.list [.str (Str.ofString "one"), .str (Str.ofString "other")]) (.list [.str (Str.ofString "one"), .str (Str.ofString "other")]) = some true from rfl, opt_some]
          exact hq
      · have h1 : true ∈ B := (hmem _).mpr (hboth e true)
        have h2 : false ∈ B := (hmem _).mpr (hboth e false)
        have et : tiedD n T a b = .none := by unfold tiedD; rw [if_neg e]
        rw [if_pos (by simpa using h1), if_pos (by simpa using h2)]
        refine ⟨_, _, _, rfl, .inr ⟨n, T, o, rfl, .inr ⟨hodd, .inl ⟨hbad, ?_⟩⟩⟩⟩
        refine ⟨_, _, _, rfl, .inr ⟨n, T, o, rfl, .inr ⟨hodd, .inr ⟨a, ha, rfl, .inl ⟨rfl, ?_⟩⟩⟩⟩⟩
        refine ⟨rfl, _, _, _, rfl, .inr ⟨n, T, o, rfl, .inr ⟨hodd, .inr ⟨a, ha, rfl, .inr ⟨b, hb, rfl, ?_⟩⟩⟩⟩⟩
        refine alike_eq et rfl ?_
        simp
        rw [show cmpSem .Eq (.list [.str (Str.ofString "one"), .str (Str.ofString "other")]) (.list [.str (Str.ofString "one"), .str (Str.ofString "other")]) = some true from rfl, opt_some]
        exact hq
theorem sl_any {s : List Int} {lo hi : Option Int} : ∃ a b, slSem lo hi (tI s) = some (tI ((s.drop a).take b)) := by
  refine ⟨HT.sIx s.length 0 lo, HT.sIx s.length s.length hi - HT.sIx s.length 0 lo, ?_⟩
  show some (PyData.tuple (cutD (s.map PyData.int) lo hi)) = _
  unfold cutD
  rw [List.length_map, ← List.map_drop, ← List.map_take]; rfl
theorem bad_odd {n : Nat} {T : List Tie} {d : PyData} (o : FacOk n T) (hd : d ∈ [PyData.none, PyData.tuple [], PyData.tuple [PyData.int 99], PyData.list [PyData.int 0], PyData.tuple [PyData.bool true], PyData.tuple [PyData.int (-1)]]) : ridB T.length d = false := by
  have o3 := o.2.2.1
  simp only [List.mem_cons, List.not_mem_nil, or_false] at hd
  rcases hd with rfl | rfl | rfl | rfl | rfl | rfl
  · rfl
  · rfl
  · simp [ridB, isTupB, isIntsB, isIntB, lenD]; omega
  · rfl
  · simp [ridB, isTupB, isIntsB, isIntB, lenD]
  · simp [ridB, isTupB, isIntsB, isIntB, lenD]
theorem ne_nilT {T : List Tie} : cmpSem .NotEq (.tuple (T.map dTie)) (.tuple []) = some (!T.isEmpty) := by
  show (if min _ (PyData.depth (.tuple [])) ≤ 60 then some (!PyData.eqv (.tuple (T.map dTie)) (.tuple [])) else none) = _
  rw [if_pos (Nat.le_trans (Nat.min_le_right _ _) (by decide))]
  cases T <;> rfl
theorem ne_nilI {s : List Int} : cmpSem .NotEq (tI s) (.tuple []) = some (!s.isEmpty) := by
  show (if min _ (PyData.depth (.tuple [])) ≤ 60 then some (!PyData.eqv (tI s) (.tuple [])) else none) = _
  rw [if_pos (Nat.le_trans (Nat.min_le_right _ _) (by decide))]
  cases s <;> rfl
theorem isnot_eq {a b : Bool} (h : a = b) : cmpSem .IsNot (.bool a) (.bool b) = some false := by subst h; cases a <;> rfl
theorem isnot_same {b : Bool} : cmpSem .IsNot (.bool b) (.bool b) = some false := by cases b <;> rfl
/-- the steps of a round are within bounds -/
theorem steps_ok {n : Nat} {T : List Tie} {s : List Int} (o : FacOk n T) (h : roundT n T = some s) : StOk T s ∧ 1 ≤ s.length ∧ s.length ≤ 20 ∧ isRound n T s = true := by
  have F : Forest n T [] (sT n T) := sprT_forest o.2.2.2
  unfold roundT at h
  cases ho : oddT n T with
  | none => rw [ho] at h; cases h
  | some i =>
    rw [ho] at h
    cases h
    obtain ⟨hi, _, hodd⟩ := firstO_some ho
    have hm := o.2.2.2 _ (at0_mem (d := d0) hi)
    have l1 := F.wlen _ hm.1
    have l2 := F.wlen _ hm.2
    have o2 := o.2.1
    obtain ⟨r1, r2⟩ := round_ok o.2.2.2 F hi hodd
    exact ⟨r2, by simp; omega, by simp; omega, r1⟩
theorem ln__law_judged : ∀ ds Q X, sg__law_judged.sp ds Q X → (if sg__law_judged.row then 1 else 0) + ds.length = sg__law_judged.ps.length := by
  rintro ds Q X ⟨_, _, rfl, _⟩; rfl
theorem wp__law_judged : ∀ ds Q X, sg__law_judged.sp ds Q X → wpSs gam__law_judged b__law_judged (rho0 11 sg__law_judged.row ds) (postOf Q X) := by
  rintro ds Q X ⟨n, T, rfl, o, hq⟩
  show wpSs gam__law_judged b__law_judged [.row, .val (dFac n T), .val (.list ((waysL T [] n).map tI)), .val (optD (roundT n T)), .bad, .bad, .bad, .bad, .bad, .bad, .bad] _
  simp [b__law_judged]
  rw [s_for]
  simp
  refine forL_pre (c := fun i : Nat => PyData.int (0 + (i : Int) * 1)) (xs := List.range 4) (fun pre ρ => ∃ (x4 x5 x6 x7 x8 x9 x10 : B), ρ = [.row, .val (dFac n T), .val (.list ((waysL T [] n).map tI)), .val (optD (roundT n T)), x4, x5, x6, x7, x8, x9, x10]) ⟨_, _, _, _, _, _, _, rfl⟩ ?_ ?_
  · rintro pre i post he ρ k ⟨x4, x5, x6, x7, x8, x9, x10, rfl⟩ hk
    have o1 := o.1
    have o2 := o.2.1
    have o3 := o.2.2.1
    simp
    refine ⟨by omega, ?_⟩
    refine wpL_rel (R := fun y => ∃ v : Int, y = .int v ∧ 0 ≤ v ∧ v ≤ 1) (fun x hx k2 hk2 => taken_all (by decide) (by decide) fun r r0 r1 => hk2 _ ⟨_, rfl, r0, by omega⟩) fun ys hl hys => ?_
    obtain ⟨x, rfl, hx⟩ := rel_ints hys
    have hl : x.length = n := by
      rw [List.length_map] at hl
      unfold rangeL at hl
      simpa using hl
    rw [tuple_ints]
    refine ⟨_, _, rfl, .inr ⟨n, T, o, rfl, .inr ⟨x, rfl, hl, fun v hv => by have := hx v hv; omega, ?_⟩⟩⟩
    dsimp only
    rw [in_lmap (c := tI) (k := 1) eqv_tI (fun a => tI_depth) (by decide), opt_some, isnot_eq (decide_eq_decide.mpr Iff.rfl), opt_some, if_neg (by decide), ne_nilT, opt_some]
    by_cases c : T = []
    · rw [if_neg (by simp [c])]
      exact hk _ ⟨_, _, _, _, _, _, _, rfl⟩
    · rw [if_pos (by simpa using c)]
      have hpos : 0 < T.length := List.length_pos_iff.mpr c
      refine taken_all (by decide) (by decide) fun e e0 e1 => ?_
      simp
      refine ⟨by omega, by omega, ?_⟩
      refine wpL_rel (R := fun y => ∃ v : Int, y = .int v ∧ 0 ≤ v ∧ v ≤ (T.length : Int) - 1) (fun x hx k2 hk2 => taken_all (by omega) (by omega) fun r r0 r1 => hk2 _ ⟨_, rfl, r0, by omega⟩) fun zs hl2 hzs => ?_
      obtain ⟨s, rfl, hs⟩ := rel_ints hzs
      have hl2 : (s.length : Int) = 1 + e := by
        rw [List.length_map] at hl2
        unfold rangeL at hl2
        rw [List.length_map, List.length_range] at hl2
        omega
      have hst : StOk T s := fun v hv => by have := hs v hv; omega
      rw [tuple_ints]
      refine ⟨_, _, rfl, .inr ⟨n, T, o, rfl, .inr ⟨s, rfl, by omega, by omega, hst, ?_⟩⟩⟩
      refine ⟨n, T, s, rfl, o, hst, by omega, ?_⟩
      dsimp only
      rw [isnot_same, opt_some, if_neg (by decide)]
      exact hk _ ⟨_, _, _, _, _, _, _, rfl⟩
  · rintro ρ ⟨x4, x5, x6, x7, x8, x9, x10, rfl⟩
    have o1 := o.1
    have o2 := o.2.1
    have h2 : isIntsB (.tuple (List.replicate n (.int 2))) n 0 1 = false := by
      obtain ⟨m, rfl⟩ : ∃ m, n = m + 1 := ⟨n - 1, by omega⟩
      rw [List.replicate_succ]
      simp [isIntsB, isIntB]
    simp
    cases hr : roundT n T with
    | none =>
      rw [if_pos (show isNone (optD none) = true from rfl)]
      refine pick_all (by simp) (by simp) fun d hd => ?_
      have hb := bad_odd o hd
      refine ⟨_, _, rfl, .inr ⟨n, T, o, rfl, .inl ⟨hb, ?_⟩⟩⟩
      simp
      refine ⟨rfl, ?_⟩
      rw [rep_t (by omega), opt_some]
      refine ⟨_, _, rfl, .inr ⟨n, T, o, rfl, .inl ⟨h2, ?_⟩⟩⟩
      simp
      refine ⟨_, _, rfl, .inr ⟨n, T, o, rfl, .inl ⟨rfl, ?_⟩⟩⟩
      simp
      exact hq
    | some s =>
      obtain ⟨h3, h4, h5, h6⟩ := steps_ok o hr
      rw [if_neg (show ¬ isNone (optD (some s)) = true from fun z => by cases z), show optD (some s) = tI s from rfl]
      obtain ⟨p1, q1, e1⟩ := sl_any (s := s) (lo := some 1) (hi := none)
      obtain ⟨p2, q2, e2⟩ := sl_any (s := s) (lo := none) (hi := some 1)
      obtain ⟨p3, q3, e3⟩ := sl_any (s := s) (lo := none) (hi := some 0)
      obtain ⟨p4, q4, e4⟩ := sl_any (s := s) (lo := none) (hi := some (-1))
      have ok : ∀ p q, StOk T ((s.drop p).take q) ∧ ((s.drop p).take q).length ≤ 20 := fun p q => ⟨fun v hv => h3 v (List.mem_of_mem_drop (List.mem_of_mem_take hv)), by simp; omega⟩
      have ok2 : ∀ {a b : List Int}, StOk T a ∧ a.length ≤ 20 → StOk T b ∧ b.length ≤ 20 → StOk T (a ++ b) ∧ (a ++ b).length ≤ 40 := fun ha hb => ⟨fun v hv => by rcases List.mem_append.mp hv with h | h; exact ha.1 v h; exact hb.1 v h, by rw [List.length_append]; omega⟩
      have ok1 : ∀ {a : List Int}, StOk T a ∧ a.length ≤ 20 → StOk T a ∧ a.length ≤ 40 := fun ha => ⟨ha.1, by omega⟩
      have os : StOk T s ∧ s.length ≤ 20 := ⟨h3, h5⟩
      have k1 := ok p1 q1
      have k2 := ok p2 q2
      have k3 := ok p3 q3
      have k4 := ok p4 q4
      rw [s_for]
      generalize (s.drop p1).take q1 = t1 at *
      generalize (s.drop p2).take q2 = t2 at *
      generalize (s.drop p3).take q3 = t3 at *
      generalize (s.drop p4).take q4 = t4 at *
      simp
      rw [e1, opt_some, e2, opt_some, cat_tI (by omega), opt_some, cat_tI (by omega), opt_some, e3, opt_some, cat_tI (by omega), opt_some, e4, opt_some]
      refine forL_pre (c := tI) (xs := [s, t1 ++ t2, s ++ s, s ++ t3, t4]) (fun pre ρ => ∃ (x9 x10 : B), ρ = [.row, .val (dFac n T), .val (.list ((waysL T [] n).map tI)), .val (tI s), x4, x5, x6, x7, x8, x9, x10]) ⟨_, _, rfl⟩ ?_ ?_
      · rintro pre z post he ρ k ⟨x9, x10, rfl⟩ hk
        have hz : StOk T z ∧ z.length ≤ 40 := by
          have hz : z ∈ [s, t1 ++ t2, s ++ s, s ++ t3, t4] := by rw [he]; simp
          simp only [List.mem_cons, List.not_mem_nil, or_false] at hz
          rcases hz with rfl | rfl | rfl | rfl | rfl
          · exact ok1 os
          · exact ok2 k1 k2
          · exact ok2 os os
          · exact ok2 os k3
          · exact ok1 k4
        simp
        by_cases c : z = []
        · subst c
          refine ⟨_, _, rfl, .inr ⟨n, T, o, rfl, .inl ⟨rfl, ?_⟩⟩⟩
          dsimp only
          rw [ne_nilI, opt_some, if_neg (by decide), show cmpSem .IsNot (.bool false) (.bool (!([] : List Int).isEmpty)) = some false from rfl, opt_some, if_neg (by decide)]
          exact hk _ ⟨_, _, rfl⟩
        · refine ⟨_, _, rfl, .inr ⟨n, T, o, rfl, .inr ⟨z, rfl, List.length_pos_iff.mpr c, hz.2, hz.1, ?_⟩⟩⟩
          dsimp only
          rw [ne_nilI, opt_some, if_pos (by simpa using c)]
          refine ⟨n, T, z, rfl, o, hz.1, hz.2, ?_⟩
          dsimp only
          rw [isnot_same, opt_some, if_neg (by decide)]
          exact hk _ ⟨_, _, rfl⟩
      · rintro ρ ⟨x9, x10, rfl⟩
        simp
        refine pick_all (by simp) (by simp) fun d hd => ?_
        have hb := bad_odd o hd
        refine ⟨_, _, rfl, .inr ⟨n, T, o, rfl, .inl ⟨hb, ?_⟩⟩⟩
        simp
        refine ⟨rfl, ?_⟩
        rw [rep_t (by omega), opt_some]
        refine ⟨_, _, rfl, .inr ⟨n, T, o, rfl, .inl ⟨h2, ?_⟩⟩⟩
        simp
        refine ⟨_, _, rfl, .inr ⟨n, T, o, rfl, .inl ⟨rfl, ?_⟩⟩⟩
        simp
        exact hq
end Dl

set_option Elab.async false
set_option linter.all false
set_option maxRecDepth 100000
set_option maxHeartbeats 8000000
namespace Dl
open PySem PySem.Spec PyProof.Rows L2
def wD (n : Nat) (T : List Tie) : PyData := .list ((waysL T [] n).map tI)
def hD (n : Nat) (T : List Tie) : PyData := .list (tab n cN (sT n T).h)
def toldL : PyData := .list [.str (.ofString "facing"), .str (.ofString "facing"), .str (.ofString "facing"), .str (.ofString "facing"), .str (.ofString "many"), .str (.ofString "size")]
theorem wnil {n : Nat} {T : List Tie} (o : FacOk n T) : waysL T [] n = [] ↔ oddT n T ≠ none := by
  have F : Forest n T [] (sT n T) := sprT_forest o.2.2.2
  have h : waysL T [] n ≠ [] ↔ oddT n T = none := by
    rw [ways_nil o.2.2.2 F]; exact firstO_none.symm
  constructor
  · intro e z; exact h.mpr z e
  · intro z
    by_cases c : waysL T [] n = []
    · exact c
    · exact absurd (h.mp c) z
theorem many_eq {n : Nat} {T : List Tie} (o : FacOk n T) : (match oddT n T with | some _ => 0 | none => 2 ^ (headsOf n (sT n T).h).length : Nat) = (waysL T [] n).length := by
  have F : Forest n T [] (sT n T) := sprT_forest o.2.2.2
  cases h : oddT n T with
  | some i =>
    rw [(wnil o).mpr (by rw [h]; exact fun z => by cases z)]; rfl
  | none => exact (ways_len o.2.2.2 F (firstO_none.mp h)).symm
theorem w_eqnil {n : Nat} {T : List Tie} : PyData.eqv (wD n T) (.list []) = decide (waysL T [] n = []) := eqv_lmap eqv_tI (ys := [])
/-- no facing -/
def badFac : List PyData := [.none, .tuple [.int 0, .tuple []], .tuple [.int 9, .tuple []], .tuple [.int 2, .tuple [.tuple [.int 0, .int 2, .bool true]]], .tuple [.int 2, .tuple [.tuple [.int 0, .int 1, .int 1]]], .list [.int 1, .tuple []], .tuple [.int 1, .tuple [.tuple [.int 0, .int 0]]]]
theorem bad_fac {d : PyData} (h : d ∈ badFac) : facB d = false := by
  simp only [badFac, List.mem_cons, List.not_mem_nil, or_false] at h
  rcases h with rfl | rfl | rfl | rfl | rfl | rfl | rfl <;> rfl
theorem okDs_tI {n : Nat} : ∀ {ts : List (List Int)}, (∀ t ∈ ts, t.length ≤ 1000000) → okDs (n + 1) (ts.map tI) = true
  | [], _ => rfl
  | t :: r, h => by
    simp only [List.map_cons, okDs, okD_tI (n := n) (h t List.mem_cons_self), okDs_tI (n := n) fun x hx => h x (List.mem_cons_of_mem _ hx), Bool.and_self]
theorem okD_rows {n : Nat} {ts : List (List Int)} (h : ∀ t ∈ ts, t.length ≤ 1000000) (hl : ts.length ≤ 1000000) : okD (n + 2) (.tuple (ts.map tI)) = true := by
  simp only [okD, List.length_map, hl, decide_true, Bool.true_and]
  exact okDs_tI h
section
variable {P : Post} {n : Nat} {T : List Tie}
theorem cs0 {x2 x3 x4 x5 x6 x7 x8 x9 x10 x11 x12 x13 x14 x15 x16 : B} (hh : ∀ n T, FacOk n T → P.nx [B.row, .val (dFac n T), x2, x3, x4, x5, x6, x7, x8, x9, x10, x11, x12, x13, x14, x15, x16]) : wpS gam__law_case b__law_case_0 [B.row, x1, x2, x3, x4, x5, x6, x7, x8, x9, x10, x11, x12, x13, x14, x15, x16] P := by
  simp [b__law_case_0]
  exact ⟨rfl, hh⟩
theorem cs1 {x4 x5 x6 x7 x8 x9 x10 x11 x12 x13 x14 x15 x16 : B} (o : FacOk n T) (hh : P.nx [B.row, .val (dFac n T), .val (wD n T), .val (hD n T), x4, x5, x6, x7, x8, x9, x10, x11, x12, x13, x14, x15, x16]) : wpS gam__law_case b__law_case_1 [B.row, .val (dFac n T), x2, x3, x4, x5, x6, x7, x8, x9, x10, x11, x12, x13, x14, x15, x16] P := by
  simp [b__law_case_1]
  refine ⟨n, T, [], rfl, o, ?_⟩
  refine ⟨n, T, rfl, o, ?_⟩
  exact hh
theorem cs2 {x2 x3 x6 x7 x8 x9 x10 x11 x12 x13 x14 x15 x16 : B} (o : FacOk n T) (hh : P.nx [B.row, .val (dFac n T), x2, x3, .val (optD (lieT n T)), .val (optD (roundT n T)), x6, x7, x8, x9, x10, x11, x12, x13, x14, x15, x16]) : wpS gam__law_case b__law_case_2 [B.row, .val (dFac n T), x2, x3, x4, x5, x6, x7, x8, x9, x10, x11, x12, x13, x14, x15, x16] P := by
  simp [b__law_case_2]
  refine ⟨_, rfl, .inr ⟨n, T, o, rfl, ?_⟩⟩
  refine ⟨_, rfl, .inr ⟨n, T, o, rfl, ?_⟩⟩
  exact hh
theorem cs3 {x3 x6 x7 x8 x9 x10 x11 x12 x13 x14 x15 x16 : B} (o : FacOk n T) (hh : P.nx [B.row, .val (dFac n T), .val (wD n T), x3, .val (optD (lieT n T)), .val (optD (roundT n T)), x6, x7, x8, x9, x10, x11, x12, x13, x14, x15, x16]) : wpS gam__law_case b__law_case_3 [B.row, .val (dFac n T), .val (wD n T), x3, .val (optD (lieT n T)), .val (optD (roundT n T)), x6, x7, x8, x9, x10, x11, x12, x13, x14, x15, x16] P := by
  simp [b__law_case_3]
  refine ⟨_, rfl, .inr ⟨n, T, o, rfl, ?_⟩⟩
  rw [show bltSem .len [wD n T] = some (.int ((waysL T [] n).length : Nat)) by simp [wD]]
  dsimp only
  rw [opt_some]
  refine alike_eq (congrArg (fun z : Nat => PyData.int (z : Nat)) (many_eq o)) rfl ?_
  simp
  rw [w_eqnil]
  cases ho : oddT n T with
  | some i =>
    have hl : lieT n T = none := by unfold lieT; rw [ho]
    have hr : ∃ s, roundT n T = some s := ⟨_, by unfold roundT; rw [ho]; rfl⟩
    obtain ⟨s, hr⟩ := hr
    rw [hl, hr] at hh ⊢
    rw [decide_eq_true ((wnil o).mpr (by rw [ho]; exact fun z => by cases z)), if_pos (show isNone (optD none) = true from rfl), if_pos (show isNone (optD (some s)) = !true from rfl)]
    exact hh
  | none =>
    have hl : ∃ s, lieT n T = some s := ⟨_, by unfold lieT; rw [ho]⟩
    have hr : roundT n T = none := by unfold roundT; rw [ho]; rfl
    obtain ⟨s, hl⟩ := hl
    rw [hl, hr] at hh ⊢
    rw [decide_eq_false (fun z => (wnil o).mp z ho), if_pos (show isNone (optD (some s)) = false from rfl), if_pos (show isNone (optD none) = !false from rfl)]
    exact hh
theorem cs4 {x2 x5 x8 x9 x10 x11 x12 x13 x14 x15 x16 : B} (o : FacOk n T) (hh : P.nx [B.row, .val (dFac n T), x2, .val (hD n T), .val (optD (lieT n T)), x5, .val (.list []), x7, x8, x9, x10, x11, x12, x13, x14, x15, x16]) : wpS gam__law_case b__law_case_4 [B.row, .val (dFac n T), x2, .val (hD n T), .val (optD (lieT n T)), x5, x6, x7, x8, x9, x10, x11, x12, x13, x14, x15, x16] P := by
  have o2 := o.2.1
  simp [b__law_case_4]
  refine ⟨by omega, ?_⟩
  rw [rangeL0]
  refine wpL_of (g := fun p : Nat => none) (fun p hp k hk => ?_) ?_
  · have hp := List.mem_range.mp hp
    have F : Forest n T [] (sT n T) := sprT_forest o.2.2.2
    cases ho : oddT n T with
    | some i =>
      have hl : lieT n T = none := by unfold lieT; rw [ho]
      rw [hl, if_pos (show isNone (optD none) = true from rfl)]
      exact hk
    | none =>
      have hl : lieT n T = some ((List.range n).map (sT n T).y) := by unfold lieT; rw [ho]
      rw [hl, if_neg (show ¬ isNone (optD (some ((List.range n).map (sT n T).y))) = true from fun z => by cases z)]
      rw [show ixSem (hD n T) (.int (p : Nat)) = some (cN ((sT n T).h p)) from tab_ix hp, opt_some, show cmpSem .Eq (cN ((sT n T).h p)) (.int (p : Nat)) = some ((((sT n T).h p : Nat) : Int) == (p : Int)) from rfl, opt_some]
      by_cases c : (sT n T).h p = p
      · rw [if_pos (by simp; omega)]
        have y0 := F.yh p hp
        rw [c] at y0
        have e : ixSem (optD (some ((List.range n).map (sT n T).y))) (.int (p : Nat)) = some (.int (at0 ((List.range n).map (sT n T).y) p 0)) := ix_tI (by simpa using hp)
        have e2 : at0 ((List.range n).map (sT n T).y) p 0 = (sT n T).y p := fn_map hp
        rw [e, opt_some, e2, y0, if_pos (show PyData.eqv (.int 0) (.int 0) = true from rfl)]
        exact hk
      · rw [if_neg (by simp; omega)]
        exact hk
  · rw [show (List.range n).filterMap (fun _ => (none : Option PyData)) = [] by simp]
    exact hh
theorem cs5 {x1 x3 x5 x7 x8 x9 x10 x11 x12 x13 x14 x15 x16 : B} (o : FacOk n T) (hh : P.nx [B.row, x1, .val (wD n T), x3, .val (optD (lieT n T)), x5, .val (.list []), x7, x8, x9, x10, x11, x12, x13, x14, x15, x16]) : wpS gam__law_case b__law_case_5 [B.row, x1, .val (wD n T), x3, .val (optD (lieT n T)), x5, .val (.list []), x7, x8, x9, x10, x11, x12, x13, x14, x15, x16] P := by
  simp [b__law_case_5]
  have F : Forest n T [] (sT n T) := sprT_forest o.2.2.2
  cases ho : oddT n T with
  | some i =>
    have hl : lieT n T = none := by unfold lieT; rw [ho]
    rw [hl] at hh ⊢
    rw [if_pos (show isNone (optD none) = true from rfl)]
    exact hh
  | none =>
    have hl : lieT n T = some ((List.range n).map (sT n T).y) := by unfold lieT; rw [ho]
    have hin : (List.range n).map (sT n T).y ∈ waysL T [] n := row_sol o.2.2.2 (sol_spr F (firstO_none.mp ho))
    rw [hl] at hh ⊢
    rw [if_neg (show ¬ isNone (optD (some ((List.range n).map (sT n T).y))) = true from fun z => by cases z)]
    rw [show optD (some ((List.range n).map (sT n T).y)) = tI ((List.range n).map (sT n T).y) from rfl, show wD n T = .list ((waysL T [] n).map tI) from rfl, notin_lmap (c := tI) (k := 1) eqv_tI (fun a => tI_depth) (by decide), opt_some, if_neg (by simpa using hin)]
    exact hh
theorem cs6 {x2 x3 x4 x6 x7 x8 x9 x10 x11 x12 x13 x14 x15 x16 : B} (o : FacOk n T) (hh : P.nx [B.row, .val (dFac n T), x2, x3, x4, .val (optD (roundT n T)), x6, x7, x8, x9, x10, x11, x12, x13, x14, x15, x16]) : wpS gam__law_case b__law_case_6 [B.row, .val (dFac n T), x2, x3, x4, .val (optD (roundT n T)), x6, x7, x8, x9, x10, x11, x12, x13, x14, x15, x16] P := by
  simp [b__law_case_6]
  cases hr : roundT n T with
  | none =>
    rw [hr] at hh
    rw [if_pos (show isNone (optD none) = true from rfl)]
    exact hh
  | some s =>
    obtain ⟨h3, h4, h5, h6⟩ := steps_ok o hr
    rw [hr] at hh
    rw [if_neg (show ¬ isNone (optD (some s)) = true from fun z => by cases z)]
    refine ⟨n, T, s, rfl, o, h3, by omega, ?_⟩
    rw [h6]
    simp
    refine ⟨_, _, rfl, .inr ⟨n, T, o, rfl, .inr ⟨s, rfl, h4, by omega, h3, ?_⟩⟩⟩
    rw [h6]
    simp
    exact hh
theorem cs7 {x3 x4 x6 x7 x8 x9 x10 x11 x12 x13 x14 x15 x16 : B} (o : FacOk n T) (hh : P.nx [B.row, .val (dFac n T), .val (wD n T), x3, x4, .val (optD (roundT n T)), x6, x7, x8, x9, x10, x11, x12, x13, x14, x15, x16]) : wpS gam__law_case b__law_case_7 [B.row, .val (dFac n T), .val (wD n T), x3, x4, .val (optD (roundT n T)), x6, x7, x8, x9, x10, x11, x12, x13, x14, x15, x16] P := by
  simp [b__law_case_7]
  refine ⟨n, T, rfl, o, ?_⟩
  simp
  refine ⟨n, T, rfl, o, ?_⟩
  simp
  exact hh
theorem cs8 {x2 x3 x4 x5 x6 x7 x8 x9 x10 x11 x12 x13 x14 x15 x16 : B} (o : FacOk n T) (hh : P.nx [B.row, .val (dFac n T), x2, x3, x4, x5, x6, x7, x8, x9, x10, x11, x12, x13, x14, x15, x16]) : wpS gam__law_case b__law_case_8 [B.row, .val (dFac n T), x2, x3, x4, x5, x6, x7, x8, x9, x10, x11, x12, x13, x14, x15, x16] P := by
  simp [b__law_case_8]
  by_cases c : (T.length : Int) ≤ 8
  · rw [if_pos c]
    have c : T.length ≤ 8 := by omega
    refine ⟨_, rfl, .inr ⟨n, T, o, rfl, c, fun k s h1 h2 => ?_⟩⟩
    refine ⟨n, T, rfl, o, c, fun k' s' h1' h2' => ?_⟩
    have e := CutR_uniq h1 h2 h1' h2'
    subst e
    have hl := (rs_mem (List.mem_of_find?_eq_some h2)).1
    have hk : k ≤ T.length := by
      refine Nat.le_of_not_lt fun z => ?_
      obtain ⟨u, hu⟩ := cut_ex (n := n) (T := T)
      rw [h1 _ z] at hu
      cases hu
    refine alike_same (okD_tI (by omega)) ?_
    simp
    exact hh
  · rw [if_neg c]
    exact hh
theorem cs9 {x1 x2 x3 x4 x5 x6 x7 x10 x11 x12 x13 x14 x15 x16 : B} (hh : ∀ m k : Nat, m ≤ 5 → k ≤ 4 → P.nx [B.row, x1, x2, x3, x4, x5, x6, x7, .val (.int (m : Nat)), .val (.int (k : Nat)), x10, x11, x12, x13, x14, x15, x16]) : wpS gam__law_case b__law_case_9 [B.row, x1, x2, x3, x4, x5, x6, x7, x8, x9, x10, x11, x12, x13, x14, x15, x16] P := by
  simp [b__law_case_9]
  refine taken_all (by decide) (by decide) fun a a0 a1 => ?_
  refine taken_all (by decide) (by decide) fun b b0 b1 => ?_
  have := hh a.toNat b.toNat (by omega) (by omega)
  rw [Int.toNat_of_nonneg a0, Int.toNat_of_nonneg b0] at this
  exact this
theorem cs10 {x1 x2 x3 x4 x5 x6 x7 x8 x9 x11 x12 x13 x14 x15 x16 : B} (hh : P.nx [B.row, x1, x2, x3, x4, x5, x6, x7, x8, x9, .val (.list [.tuple []]), x11, x12, x13, x14, x15, x16]) : wpS gam__law_case b__law_case_10 [B.row, x1, x2, x3, x4, x5, x6, x7, x8, x9, x10, x11, x12, x13, x14, x15, x16] P := by
  simp [b__law_case_10]
  exact hh
theorem cs11 {x1 x2 x3 x4 x5 x6 x7 x14 x15 x16 : B} {m k : Nat} (hm : m ≤ 5) (hk : k ≤ 4) (hh : ∀ x11 x12 x13, P.nx [B.row, x1, x2, x3, x4, x5, x6, x7, .val (.int (m : Nat)), .val (.int (k : Nat)), .val (.list ((rs m k).map tI)), x11, x12, x13, x14, x15, x16]) : wpS gam__law_case b__law_case_11 [B.row, x1, x2, x3, x4, x5, x6, x7, .val (.int (m : Nat)), .val (.int (k : Nat)), .val (.list [.tuple []]), x11, x12, x13, x14, x15, x16] P := by
  simp [b__law_case_11]
  rw [s_for]
  simp
  refine ⟨by omega, ?_⟩
  rw [rangeL0]
  refine forL_pre (fun pre ρ => ∃ x11 x12 x13, ρ = [B.row, x1, x2, x3, x4, x5, x6, x7, .val (.int (m : Nat)), .val (.int (k : Nat)), .val (.list ((rs m pre.length).map tI)), x11, x12, x13, x14, x15, x16]) ⟨_, _, _, rfl⟩ ?_ ?_
  · rintro pre i post he ρ k2 ⟨x11, x12, x13, rfl⟩ hk2
    obtain ⟨rfl, hi⟩ := range_pre he
    rw [List.length_append, List.length_singleton] at hk2
    have hlen := rs_len m (by omega) pre.length (by omega)
    rw [w_lc2]
    simp
    intro _
    refine ⟨by omega, ?_⟩
    refine wpLL_of (g := fun s => (nxt m s).map tI) (fun s hs k2 hk2 => ?_) ?_
    · obtain ⟨h1, h2⟩ := rs_mem hs
      refine ⟨by omega, by unfold rangeL; simp; omega, ?_⟩
      rw [rangeL0]
      refine wpL_of (g := fun a : Nat => if decide (s = [] ∨ lastD s < (a : Int)) = true then some (tI (s ++ [(a : Int)])) else none) (fun a ha k3 hk3 => ?_) ?_
      · have ea : binSem .Add (tI s) (.tuple [.int (a : Nat)]) = some (tI (s ++ [(a : Int)])) := cat_tI (b := [(a : Int)]) (by simp; omega)
        rw [ea]
        have es : (tI s).eqv (.tuple []) = decide (s = []) := eqv_tI s []
        rw [es]
        by_cases c : s = []
        · rw [if_pos (by simpa using c)]
          rw [if_pos (by simp [c])] at hk3
          rw [opt_some]
          exact hk3
        · rw [if_neg (by simpa using c), ix_lastD c, opt_some, show cmpSem .Gt (.int (a : Nat)) (.int (lastD s)) = some (decide (lastD s < (a : Int))) from rfl, opt_some, opt_some]
          by_cases c2 : lastD s < (a : Int)
          · rw [if_pos (by simpa using c2)]
            rw [if_pos (by simp [c2])] at hk3
            exact hk3
          · rw [if_neg (by simpa using c2)]
            rw [if_neg (by simp [c, c2])] at hk3
            exact hk3
      · rw [filterMap_b]
        have e : (nxt m s).map tI = ((List.range m).filter fun (a : Nat) => decide (s = [] ∨ lastD s < (a : Int))).map fun a : Nat => tI (s ++ [(a : Int)]) := by
          unfold nxt
          rw [List.map_map]; rfl
        rw [← e]
        exact hk2
    · rw [show (rs m pre.length).flatMap (fun s => (nxt m s).map tI) = (rs m (pre.length + 1)).map tI by rw [rs_succ, List.map_flatMap]]
      exact hk2 _ ⟨_, _, _, rfl⟩
  · rintro ρ ⟨x11, x12, x13, rfl⟩
    rw [List.length_range]
    exact hh _ _ _
theorem cs12 {x1 x2 x3 x4 x5 x6 x7 x8 x9 x10 x11 x12 x13 x15 x16 : B} (hh : ∀ d, facB d = false → P.nx [B.row, x1, x2, x3, x4, x5, x6, x7, x8, x9, x10, x11, x12, x13, .val d, x15, x16]) : wpS gam__law_case b__law_case_12 [B.row, x1, x2, x3, x4, x5, x6, x7, x8, x9, x10, x11, x12, x13, x14, x15, x16] P := by
  simp [b__law_case_12]
  exact pick_all (by simp) (by simp) fun d hd => hh d (bad_fac hd)
theorem cs13 {x1 x2 x3 x4 x5 x6 x7 x8 x9 x10 x11 x12 x13 x16 : B} {d : PyData} (hd : facB d = false) (hh : P.nx [B.row, x1, x2, x3, x4, x5, x6, x7, x8, x9, x10, x11, x12, x13, .val d, .val toldL, x16]) : wpS gam__law_case b__law_case_13 [B.row, x1, x2, x3, x4, x5, x6, x7, x8, x9, x10, x11, x12, x13, .val d, x15, x16] P := by
  simp [b__law_case_13]
  refine ⟨_, rfl, .inl ⟨hd, ?_⟩⟩
  refine ⟨_, rfl, .inl ⟨hd, ?_⟩⟩
  refine ⟨_, rfl, .inl ⟨hd, ?_⟩⟩
  refine ⟨_, rfl, .inl ⟨hd, ?_⟩⟩
  refine ⟨_, _, rfl, .inl ⟨rfl, ?_⟩⟩
  refine ⟨_, _, rfl, .inr (.inl ⟨rfl, rfl, ?_⟩)⟩
  exact hh
theorem cs14 {x1 x2 x3 x4 x5 x6 x7 x8 x9 x10 x11 x12 x13 x14 x15 : B} (hh : P.nx [B.row, x1, x2, x3, x4, x5, x6, x7, x8, x9, x10, x11, x12, x13, x14, x15, .val toldL]) : wpS gam__law_case b__law_case_14 [B.row, x1, x2, x3, x4, x5, x6, x7, x8, x9, x10, x11, x12, x13, x14, x15, x16] P := by
  simp [b__law_case_14]
  exact hh
theorem cs15 {x2 x3 x4 x5 x6 x7 x11 x12 x13 : B} {m k : Nat} {d : PyData} (o : FacOk n T) (hm : m ≤ 5) (hk : k ≤ 4) (hd : facB d = false) (hh : P.rt (.bool true)) : wpS gam__law_case b__law_case_15 [B.row, .val (dFac n T), x2, x3, x4, x5, x6, x7, .val (.int (m : Nat)), .val (.int (k : Nat)), .val (.list ((rs m k).map tI)), x11, x12, x13, .val d, .val toldL, .val toldL] P := by
  simp [b__law_case_15]
  refine ⟨rfl, _, _, rfl, .inr (.inr ⟨m, k, by omega, by omega, rfl, rfl, ?_⟩)⟩
  dsimp only
  have hlen := rs_len m (by omega) k (by omega)
  refine alike_same (okD_rows (fun t ht => by have := (rs_mem ht).1; omega) (by omega)) ?_
  simp
  rw [show cmpSem .Eq toldL toldL = some true from rfl, opt_some, if_pos rfl]
  refine ⟨_, rfl, ?_⟩
  rw [facB_dFac o]
  simp
  refine ⟨_, rfl, ?_⟩
  rw [hd]
  simp
  exact hh
end
theorem ln__law_case : ∀ ds Q X, (sgCase).sp ds Q X → (if (sgCase).row then 1 else 0) + ds.length = (sgCase).ps.length := by
  rintro ds Q X ⟨rfl, _⟩; rfl
theorem wp__law_case : ∀ ds Q X, (sgCase).sp ds Q X → wpSs gam__law_case b__law_case (rho0 17 (sgCase).row ds) (postOf Q X) := by
  rintro ds Q X ⟨rfl, hq⟩
  unfold b__law_case
  refine cs0 fun n T o => ?_
  show wpSs gam__law_case (SL.cons b__law_case_1 _) _ _
  rw [ss_cons]
  refine cs1 o ?_
  refine cs2 o ?_
  refine cs3 o ?_
  refine cs4 o ?_
  refine cs5 o ?_
  refine cs6 o ?_
  refine cs7 o ?_
  refine cs8 o ?_
  refine cs9 fun m k hm hk => ?_
  show wpSs gam__law_case (SL.cons b__law_case_10 _) _ _
  rw [ss_cons]
  refine cs10 ?_
  refine cs11 hm hk ?_
  intro _ _ _
  show wpSs gam__law_case (SL.cons b__law_case_12 _) _ _
  rw [ss_cons]
  refine cs12 fun d hd => ?_
  show wpSs gam__law_case (SL.cons b__law_case_13 _) _ _
  rw [ss_cons]
  refine cs13 hd ?_
  show wpSs gam__law_case (SL.cons b__law_case_14 _) _ _
  rw [ss_cons]
  refine cs14 ?_
  refine cs15 o hm hk hd ?_
  exact hq

end Dl

set_option Elab.async false
set_option linter.all false
set_option maxRecDepth 100000
set_option maxHeartbeats 8000000
namespace Dl
open PySem PySem.Spec PyProof.Rows L2

section
variable {P : Program} {w : World} {K : PySem.W.Frag} {mg : Str → Option Value} {base : Heap} {W : Wd}
theorem ok_is_integer {f : Addr} {fd : FuncData} (B : Bas K mg W)   (F : Fun K "is_integer" "is_integer" s_is_integer f fd) (hm : mg "is_integer" = some (.ref f)) (hk : PySem.W.keepIn K (.ref f) = true) (bd : Binds K fd (sg_is_integer).ps []) (kw : ∀ ks ∈ (sg_is_integer).kws, KBinds K fd (sg_is_integer).ps ks (kwG ks.length) (kwG ks.length)) : FnAt P w K mg base 1 W "is_integer" sg_is_integer :=
  fnAt (def_ok (Γ := gam_is_integer) (k := 0) (m := 0) (N := ["value", "least", "most"]) (l := false) (B.glb (show AllFn P w K mg base W 0 [] from trivial) (show AllCon mg W [] from trivial)) F sc_is_integer ck_is_integer ln_is_integer wp_is_integer (Nat.le_refl _) (fun z => (by cases z))) hm hk bd kw
theorem ok_is_tuple {f : Addr} {fd : FuncData} (B : Bas K mg W)   (F : Fun K "is_tuple" "is_tuple" s_is_tuple f fd) (hm : mg "is_tuple" = some (.ref f)) (hk : PySem.W.keepIn K (.ref f) = true) (bd : Binds K fd (sg_is_tuple).ps []) (kw : ∀ ks ∈ (sg_is_tuple).kws, KBinds K fd (sg_is_tuple).ps ks (kwG ks.length) (kwG ks.length)) : FnAt P w K mg base 1 W "is_tuple" sg_is_tuple :=
  fnAt (def_ok (Γ := gam_is_tuple) (k := 0) (m := 0) (N := ["value", "least", "most"]) (l := false) (B.glb (show AllFn P w K mg base W 0 [] from trivial) (show AllCon mg W [] from trivial)) F sc_is_tuple ck_is_tuple ln_is_tuple wp_is_tuple (Nat.le_refl _) (fun z => (by cases z))) hm hk bd kw
theorem ok_is_flag {f : Addr} {fd : FuncData} (B : Bas K mg W)   (F : Fun K "is_flag" "is_flag" s_is_flag f fd) (hm : mg "is_flag" = some (.ref f)) (hk : PySem.W.keepIn K (.ref f) = true) (bd : Binds K fd (sg_is_flag).ps []) (kw : ∀ ks ∈ (sg_is_flag).kws, KBinds K fd (sg_is_flag).ps ks (kwG ks.length) (kwG ks.length)) : FnAt P w K mg base 1 W "is_flag" sg_is_flag :=
  fnAt (def_ok (Γ := gam_is_flag) (k := 0) (m := 0) (N := ["value"]) (l := false) (B.glb (show AllFn P w K mg base W 0 [] from trivial) (show AllCon mg W [] from trivial)) F sc_is_flag ck_is_flag ln_is_flag wp_is_flag (Nat.le_refl _) (fun z => (by cases z))) hm hk bd kw
theorem ok_spread {f : Addr} {fd : FuncData} (B : Bas K mg W)   (F : Fun K "spread" "spread" s_spread f fd) (hm : mg "spread" = some (.ref f)) (hk : PySem.W.keepIn K (.ref f) = true) (bd : Binds K fd (sg_spread).ps []) (kw : ∀ ks ∈ (sg_spread).kws, KBinds K fd (sg_spread).ps ks (kwG ks.length) (kwG ks.length)) : FnAt P w K mg base 1 W "spread" sg_spread :=
  fnAt (def_ok (Γ := gam_spread) (k := 0) (m := 0) (N := ["facing", "left", "lying", "heads", "ways", "first", "line", "piece", "at", "tie", "other"]) (l := false) (B.glb (show AllFn P w K mg base W 0 [] from trivial) (show AllCon mg W [] from trivial)) F sc_spread ck_spread ln_spread wp_spread (Nat.le_refl _) (fun z => (by cases z))) hm hk bd kw
theorem ok_goes_round {f : Addr} {fd : FuncData} (B : Bas K mg W)   (F : Fun K "goes_round" "goes_round" s_goes_round f fd) (hm : mg "goes_round" = some (.ref f)) (hk : PySem.W.keepIn K (.ref f) = true) (bd : Binds K fd (sg_goes_round).ps []) (kw : ∀ ks ∈ (sg_goes_round).kws, KBinds K fd (sg_goes_round).ps ks (kwG ks.length) (kwG ks.length)) : FnAt P w K mg base 1 W "goes_round" sg_goes_round :=
  fnAt (def_ok (Γ := gam_goes_round) (k := 0) (m := 0) (N := ["facing", "steps", "start", "here", "at", "tie"]) (l := false) (B.glb (show AllFn P w K mg base W 0 [] from trivial) (show AllCon mg W [] from trivial)) F sc_goes_round ck_goes_round ln_goes_round wp_goes_round (Nat.le_refl _) (fun z => (by cases z))) hm hk bd kw
theorem ok__law_ways {f : Addr} {fd : FuncData} (B : Bas K mg W)   (F : Fun K "_law_ways" "_law_ways" s__law_ways f fd) (hm : mg "_law_ways" = some (.ref f)) (hk : PySem.W.keepIn K (.ref f) = true) (bd : Binds K fd (sg__law_ways).ps []) (kw : ∀ ks ∈ (sg__law_ways).kws, KBinds K fd (sg__law_ways).ps ks (kwG ks.length) (kwG ks.length)) : FnAt P w K mg base 1 W "_law_ways" sg__law_ways :=
  fnAt (def_ok (Γ := gam__law_ways) (k := 0) (m := 0) (N := ["facing", "left", "found", "piece", "some", "side", "at", "tie"]) (l := false) (B.glb (show AllFn P w K mg base W 0 [] from trivial) (show AllCon mg W [] from trivial)) F sc__law_ways ck__law_ways ln__law_ways wp__law_ways (Nat.le_refl _) (fun z => (by cases z))) hm hk bd kw
theorem ok__law_round {f : Addr} {fd : FuncData} (B : Bas K mg W)   (F : Fun K "_law_round" "_law_round" s__law_round f fd) (hm : mg "_law_round" = some (.ref f)) (hk : PySem.W.keepIn K (.ref f) = true) (bd : Binds K fd (sg__law_round).ps []) (kw : ∀ ks ∈ (sg__law_round).kws, KBinds K fd (sg__law_round).ps ks (kwG ks.length) (kwG ks.length)) : FnAt P w K mg base 1 W "_law_round" sg__law_round :=
  fnAt (def_ok (Γ := gam__law_round) (k := 0) (m := 0) (N := ["facing", "steps", "ends", "start", "at", "one", "two", "is_same", "here", "odd", "pair"]) (l := false) (B.glb (show AllFn P w K mg base W 0 [] from trivial) (show AllCon mg W [] from trivial)) F sc__law_round ck__law_round ln__law_round wp__law_round (Nat.le_refl _) (fun z => (by cases z))) hm hk bd kw
theorem ok__law_groups {f : Addr} {fd : FuncData} (B : Bas K mg W)   (F : Fun K "_law_groups" "_law_groups" s__law_groups f fd) (hm : mg "_law_groups" = some (.ref f)) (hk : PySem.W.keepIn K (.ref f) = true) (bd : Binds K fd (sg__law_groups).ps []) (kw : ∀ ks ∈ (sg__law_groups).kws, KBinds K fd (sg__law_groups).ps ks (kwG ks.length) (kwG ks.length)) : FnAt P w K mg base 1 W "_law_groups" sg__law_groups :=
  fnAt (def_ok (Γ := gam__law_groups) (k := 0) (m := 0) (N := ["facing", "heads", "turn", "one", "two", "is_same", "head"]) (l := false) (B.glb (show AllFn P w K mg base W 0 [] from trivial) (show AllCon mg W [] from trivial)) F sc__law_groups ck__law_groups ln__law_groups wp__law_groups (Nat.le_refl _) (fun z => (by cases z))) hm hk bd kw
theorem ok_is_integers {f : Addr} {fd : FuncData} (B : Bas K mg W) (h0 : FnAt P w K mg base 1 W "is_integer" sg_is_integer)  (F : Fun K "is_integers" "is_integers" s_is_integers f fd) (hm : mg "is_integers" = some (.ref f)) (hk : PySem.W.keepIn K (.ref f) = true) (bd : Binds K fd (sg_is_integers).ps []) (kw : ∀ ks ∈ (sg_is_integers).kws, KBinds K fd (sg_is_integers).ps ks (kwG ks.length) (kwG ks.length)) : FnAt P w K mg base 2 W "is_integers" sg_is_integers :=
  fnAt (def_ok (Γ := gam_is_integers) (k := 1) (m := 1) (N := ["value", "many", "least", "most", "one"]) (l := false) (B.glb (show AllFn P w K mg base W 1 [("is_integer", sg_is_integer)] from ⟨h0.mono (by decide), trivial⟩) (show AllCon mg W [] from trivial)) F sc_is_integers ck_is_integers ln_is_integers wp_is_integers (Nat.le_refl _) (fun z => (by cases z))) hm hk bd kw
theorem ok_is_tie {f : Addr} {fd : FuncData} (B : Bas K mg W) (h0 : FnAt P w K mg base 1 W "is_tuple" sg_is_tuple) (h1 : FnAt P w K mg base 1 W "is_flag" sg_is_flag) (h2 : FnAt P w K mg base 1 W "is_integer" sg_is_integer)  (F : Fun K "is_tie" "is_tie" s_is_tie f fd) (hm : mg "is_tie" = some (.ref f)) (hk : PySem.W.keepIn K (.ref f) = true) (bd : Binds K fd (sg_is_tie).ps []) (kw : ∀ ks ∈ (sg_is_tie).kws, KBinds K fd (sg_is_tie).ps ks (kwG ks.length) (kwG ks.length)) : FnAt P w K mg base 2 W "is_tie" sg_is_tie :=
  fnAt (def_ok (Γ := gam_is_tie) (k := 1) (m := 1) (N := ["value", "many", "piece"]) (l := false) (B.glb (show AllFn P w K mg base W 1 [("is_tuple", sg_is_tuple), ("is_flag", sg_is_flag), ("is_integer", sg_is_integer)] from ⟨h0.mono (by decide), h1.mono (by decide), h2.mono (by decide), trivial⟩) (show AllCon mg W [] from trivial)) F sc_is_tie ck_is_tie ln_is_tie wp_is_tie (Nat.le_refl _) (fun z => (by cases z))) hm hk bd kw
theorem ok_first_odd {f : Addr} {fd : FuncData} (B : Bas K mg W) (h0 : FnAt P w K mg base 1 W "spread" sg_spread)  (F : Fun K "first_odd" "first_odd" s_first_odd f fd) (hm : mg "first_odd" = some (.ref f)) (hk : PySem.W.keepIn K (.ref f) = true) (bd : Binds K fd (sg_first_odd).ps []) (kw : ∀ ks ∈ (sg_first_odd).kws, KBinds K fd (sg_first_odd).ps ks (kwG ks.length) (kwG ks.length)) : FnAt P w K mg base 2 W "first_odd" sg_first_odd :=
  fnAt (def_ok (Γ := gam_first_odd) (k := 1) (m := 1) (N := ["facing", "left", "lying", "at", "tie"]) (l := false) (B.glb (show AllFn P w K mg base W 1 [("spread", sg_spread)] from ⟨h0.mono (by decide), trivial⟩) (show AllCon mg W [] from trivial)) F sc_first_odd ck_first_odd ln_first_odd wp_first_odd (Nat.le_refl _) (fun z => (by cases z))) hm hk bd kw
theorem ok__law_pick {f : Addr} {fd : FuncData} (B : Bas K mg W) (h0 : FnAt P w K mg base 1 W "_law_taken" sgTaken)  (F : Fun K "_law_pick" "_law_pick" s__law_pick f fd) (hm : mg "_law_pick" = some (.ref f)) (hk : PySem.W.keepIn K (.ref f) = true) (bd : Binds K fd (sgPick).ps []) (kw : ∀ ks ∈ (sgPick).kws, KBinds K fd (sgPick).ps ks (kwG ks.length) (kwG ks.length)) : FnAt P w K mg base 2 W "_law_pick" sgPick :=
  fnAt (def_ok (Γ := gam__law_pick) (k := 1) (m := 1) (N := ["row", "some"]) (l := false) (B.glb (show AllFn P w K mg base W 1 [("_law_taken", sgTaken)] from ⟨h0.mono (by decide), trivial⟩) (show AllCon mg W [] from trivial)) F sc__law_pick ck__law_pick ln__law_pick wp__law_pick (Nat.le_refl _) (fun z => (by cases z))) hm hk bd kw
theorem ok__law_facing {f : Addr} {fd : FuncData} (B : Bas K mg W) (h0 : FnAt P w K mg base 1 W "_law_taken" sgTaken)  (F : Fun K "_law_facing" "_law_facing" s__law_facing f fd) (hm : mg "_law_facing" = some (.ref f)) (hk : PySem.W.keepIn K (.ref f) = true) (bd : Binds K fd (sg__law_facing).ps []) (kw : ∀ ks ∈ (sg__law_facing).kws, KBinds K fd (sg__law_facing).ps ks (kwG ks.length) (kwG ks.length)) : FnAt P w K mg base 2 W "_law_facing" sg__law_facing :=
  fnAt (def_ok (Γ := gam__law_facing) (k := 1) (m := 1) (N := ["row", "many", "sides", "kind", "piece", "ties", "turn", "one", "two", "is_same"]) (l := false) (B.glb (show AllFn P w K mg base W 1 [("_law_taken", sgTaken)] from ⟨h0.mono (by decide), trivial⟩) (show AllCon mg W [] from trivial)) F sc__law_facing ck__law_facing ln__law_facing wp__law_facing (Nat.le_refl _) (fun z => (by cases z))) hm hk bd kw
theorem ok__law_cut {f : Addr} {fd : FuncData} (B : Bas K mg W) (h0 : FnAt P w K mg base 1 W "_law_ways" sg__law_ways)  (F : Fun K "_law_cut" "_law_cut" s__law_cut f fd) (hm : mg "_law_cut" = some (.ref f)) (hk : PySem.W.keepIn K (.ref f) = true) (bd : Binds K fd (sg__law_cut).ps []) (kw : ∀ ks ∈ (sg__law_cut).kws, KBinds K fd (sg__law_cut).ps ks (kwG ks.length) (kwG ks.length)) : FnAt P w K mg base 2 W "_law_cut" sg__law_cut :=
  fnAt (def_ok (Γ := gam__law_cut) (k := 1) (m := 1) (N := ["facing", "line", "some", "at"]) (l := false) (B.glb (show AllFn P w K mg base W 1 [("_law_ways", sg__law_ways)] from ⟨h0.mono (by decide), trivial⟩) (show AllCon mg W [] from trivial)) F sc__law_cut ck__law_cut ln__law_cut wp__law_cut (Nat.le_refl _) (fun z => (by cases z))) hm hk bd kw
theorem ok_is_facing {f : Addr} {fd : FuncData} (B : Bas K mg W) (h0 : FnAt P w K mg base 1 W "is_tuple" sg_is_tuple) (h1 : FnAt P w K mg base 1 W "is_integer" sg_is_integer) (h2 : FnAt P w K mg base 2 W "is_tie" sg_is_tie) (z0 : ConAt mg W "MOST_PIECES" (.int (8))) (z1 : ConAt mg W "MOST_TIES" (.int (14))) (F : Fun K "is_facing" "is_facing" s_is_facing f fd) (hm : mg "is_facing" = some (.ref f)) (hk : PySem.W.keepIn K (.ref f) = true) (bd : Binds K fd (sg_is_facing).ps []) (kw : ∀ ks ∈ (sg_is_facing).kws, KBinds K fd (sg_is_facing).ps ks (kwG ks.length) (kwG ks.length)) : FnAt P w K mg base 3 W "is_facing" sg_is_facing :=
  fnAt (def_ok (Γ := gam_is_facing) (k := 2) (m := 2) (N := ["value", "tie"]) (l := false) (B.glb (show AllFn P w K mg base W 2 [("is_tuple", sg_is_tuple), ("is_integer", sg_is_integer), ("is_tie", sg_is_tie)] from ⟨h0.mono (by decide), h1.mono (by decide), h2.mono (by decide), trivial⟩) (show AllCon mg W [("MOST_PIECES", .int (8)), ("MOST_TIES", .int (14))] from ⟨z0, z1, trivial⟩)) F sc_is_facing ck_is_facing ln_is_facing wp_is_facing (Nat.le_refl _) (fun z => (by cases z))) hm hk bd kw
theorem ok_lying {f : Addr} {fd : FuncData} (B : Bas K mg W) (h0 : FnAt P w K mg base 3 W "demand" sgDemand) (h1 : FnAt P w K mg base 3 W "is_facing" sg_is_facing) (h2 : FnAt P w K mg base 2 W "first_odd" sg_first_odd) (h3 : FnAt P w K mg base 1 W "spread" sg_spread)  (F : Fun K "lying" "lying" s_lying f fd) (hm : mg "lying" = some (.ref f)) (hk : PySem.W.keepIn K (.ref f) = true) (bd : Binds K fd (sg_lying).ps []) (kw : ∀ ks ∈ (sg_lying).kws, KBinds K fd (sg_lying).ps ks (kwG ks.length) (kwG ks.length)) : FnAt P w K mg base 4 W "lying" sg_lying :=
  fnAt (def_ok (Γ := gam_lying) (k := 3) (m := 3) (N := ["facing"]) (l := false) (B.glb (show AllFn P w K mg base W 3 [("demand", sgDemand), ("is_facing", sg_is_facing), ("first_odd", sg_first_odd), ("spread", sg_spread)] from ⟨h0.mono (by decide), h1.mono (by decide), h2.mono (by decide), h3.mono (by decide), trivial⟩) (show AllCon mg W [] from trivial)) F sc_lying ck_lying ln_lying wp_lying (Nat.le_refl _) (fun z => (by cases z))) hm hk bd kw
theorem ok_is_lying {f : Addr} {fd : FuncData} (B : Bas K mg W) (h0 : FnAt P w K mg base 3 W "demand" sgDemand) (h1 : FnAt P w K mg base 3 W "is_facing" sg_is_facing) (h2 : FnAt P w K mg base 2 W "is_integers" sg_is_integers)  (F : Fun K "is_lying" "is_lying" s_is_lying f fd) (hm : mg "is_lying" = some (.ref f)) (hk : PySem.W.keepIn K (.ref f) = true) (bd : Binds K fd (sg_is_lying).ps []) (kw : ∀ ks ∈ (sg_is_lying).kws, KBinds K fd (sg_is_lying).ps ks (kwG ks.length) (kwG ks.length)) : FnAt P w K mg base 4 W "is_lying" sg_is_lying :=
  fnAt (def_ok (Γ := gam_is_lying) (k := 3) (m := 3) (N := ["facing", "value", "tie"]) (l := false) (B.glb (show AllFn P w K mg base W 3 [("demand", sgDemand), ("is_facing", sg_is_facing), ("is_integers", sg_is_integers)] from ⟨h0.mono (by decide), h1.mono (by decide), h2.mono (by decide), trivial⟩) (show AllCon mg W [] from trivial)) F sc_is_lying ck_is_lying ln_is_lying wp_is_lying (Nat.le_refl _) (fun z => (by cases z))) hm hk bd kw
theorem ok_odd_round {f : Addr} {fd : FuncData} (B : Bas K mg W) (h0 : FnAt P w K mg base 3 W "demand" sgDemand) (h1 : FnAt P w K mg base 2 W "first_odd" sg_first_odd) (h2 : FnAt P w K mg base 3 W "is_facing" sg_is_facing) (h3 : FnAt P w K mg base 1 W "spread" sg_spread)  (F : Fun K "odd_round" "odd_round" s_odd_round f fd) (hm : mg "odd_round" = some (.ref f)) (hk : PySem.W.keepIn K (.ref f) = true) (bd : Binds K fd (sg_odd_round).ps []) (kw : ∀ ks ∈ (sg_odd_round).kws, KBinds K fd (sg_odd_round).ps ks (kwG ks.length) (kwG ks.length)) : FnAt P w K mg base 4 W "odd_round" sg_odd_round :=
  fnAt (def_ok (Γ := gam_odd_round) (k := 3) (m := 3) (N := ["facing", "at", "ways", "tie"]) (l := false) (B.glb (show AllFn P w K mg base W 3 [("demand", sgDemand), ("first_odd", sg_first_odd), ("is_facing", sg_is_facing), ("spread", sg_spread)] from ⟨h0.mono (by decide), h1.mono (by decide), h2.mono (by decide), h3.mono (by decide), trivial⟩) (show AllCon mg W [] from trivial)) F sc_odd_round ck_odd_round ln_odd_round wp_odd_round (Nat.le_refl _) (fun z => (by cases z))) hm hk bd kw
theorem ok_is_odd_round {f : Addr} {fd : FuncData} (B : Bas K mg W) (h0 : FnAt P w K mg base 3 W "demand" sgDemand) (h1 : FnAt P w K mg base 3 W "is_facing" sg_is_facing) (h2 : FnAt P w K mg base 1 W "is_tuple" sg_is_tuple) (h3 : FnAt P w K mg base 2 W "is_integers" sg_is_integers) (h4 : FnAt P w K mg base 1 W "goes_round" sg_goes_round)  (F : Fun K "is_odd_round" "is_odd_round" s_is_odd_round f fd) (hm : mg "is_odd_round" = some (.ref f)) (hk : PySem.W.keepIn K (.ref f) = true) (bd : Binds K fd (sg_is_odd_round).ps []) (kw : ∀ ks ∈ (sg_is_odd_round).kws, KBinds K fd (sg_is_odd_round).ps ks (kwG ks.length) (kwG ks.length)) : FnAt P w K mg base 4 W "is_odd_round" sg_is_odd_round :=
  fnAt (def_ok (Γ := gam_is_odd_round) (k := 3) (m := 3) (N := ["facing", "value", "many", "at", "start"]) (l := false) (B.glb (show AllFn P w K mg base W 3 [("demand", sgDemand), ("is_facing", sg_is_facing), ("is_tuple", sg_is_tuple), ("is_integers", sg_is_integers), ("goes_round", sg_goes_round)] from ⟨h0.mono (by decide), h1.mono (by decide), h2.mono (by decide), h3.mono (by decide), h4.mono (by decide), trivial⟩) (show AllCon mg W [] from trivial)) F sc_is_odd_round ck_is_odd_round ln_is_odd_round wp_is_odd_round (Nat.le_refl _) (fun z => (by cases z))) hm hk bd kw
theorem ok_ways_to_lie {f : Addr} {fd : FuncData} (B : Bas K mg W) (h0 : FnAt P w K mg base 3 W "demand" sgDemand) (h1 : FnAt P w K mg base 3 W "is_facing" sg_is_facing) (h2 : FnAt P w K mg base 2 W "first_odd" sg_first_odd) (h3 : FnAt P w K mg base 1 W "spread" sg_spread)  (F : Fun K "ways_to_lie" "ways_to_lie" s_ways_to_lie f fd) (hm : mg "ways_to_lie" = some (.ref f)) (hk : PySem.W.keepIn K (.ref f) = true) (bd : Binds K fd (sg_ways_to_lie).ps []) (kw : ∀ ks ∈ (sg_ways_to_lie).kws, KBinds K fd (sg_ways_to_lie).ps ks (kwG ks.length) (kwG ks.length)) : FnAt P w K mg base 4 W "ways_to_lie" sg_ways_to_lie :=
  fnAt (def_ok (Γ := gam_ways_to_lie) (k := 3) (m := 3) (N := ["facing", "heads", "piece"]) (l := false) (B.glb (show AllFn P w K mg base W 3 [("demand", sgDemand), ("is_facing", sg_is_facing), ("first_odd", sg_first_odd), ("spread", sg_spread)] from ⟨h0.mono (by decide), h1.mono (by decide), h2.mono (by decide), h3.mono (by decide), trivial⟩) (show AllCon mg W [] from trivial)) F sc_ways_to_lie ck_ways_to_lie ln_ways_to_lie wp_ways_to_lie (Nat.le_refl _) (fun z => (by cases z))) hm hk bd kw
theorem ok_tied {f : Addr} {fd : FuncData} (B : Bas K mg W) (h0 : FnAt P w K mg base 3 W "demand" sgDemand) (h1 : FnAt P w K mg base 1 W "spread" sg_spread) (h2 : FnAt P w K mg base 1 W "is_integer" sg_is_integer) (h3 : FnAt P w K mg base 3 W "is_facing" sg_is_facing) (h4 : FnAt P w K mg base 2 W "first_odd" sg_first_odd)  (F : Fun K "tied" "tied" s_tied f fd) (hm : mg "tied" = some (.ref f)) (hk : PySem.W.keepIn K (.ref f) = true) (bd : Binds K fd (sg_tied).ps []) (kw : ∀ ks ∈ (sg_tied).kws, KBinds K fd (sg_tied).ps ks (kwG ks.length) (kwG ks.length)) : FnAt P w K mg base 4 W "tied" sg_tied :=
  fnAt (def_ok (Γ := gam_tied) (k := 3) (m := 3) (N := ["facing", "one", "other", "found", "heads", "ways"]) (l := false) (B.glb (show AllFn P w K mg base W 3 [("demand", sgDemand), ("spread", sg_spread), ("is_integer", sg_is_integer), ("is_facing", sg_is_facing), ("first_odd", sg_first_odd)] from ⟨h0.mono (by decide), h1.mono (by decide), h2.mono (by decide), h3.mono (by decide), h4.mono (by decide), trivial⟩) (show AllCon mg W [] from trivial)) F sc_tied ck_tied ln_tied wp_tied (Nat.le_refl _) (fun z => (by cases z))) hm hk bd kw
theorem ok__law_judged {f : Addr} {fd : FuncData} (B : Bas K mg W) (h0 : FnAt P w K mg base 2 W "_law_pick" sgPick) (h1 : FnAt P w K mg base 4 W "is_lying" sg_is_lying) (h2 : FnAt P w K mg base 4 W "is_odd_round" sg_is_odd_round) (h3 : FnAt P w K mg base 1 W "_law_taken" sgTaken) (h4 : FnAt P w K mg base 1 W "_law_round" sg__law_round)  (F : Fun K "_law_judged" "_law_judged" s__law_judged f fd) (hm : mg "_law_judged" = some (.ref f)) (hk : PySem.W.keepIn K (.ref f) = true) (bd : Binds K fd (sg__law_judged).ps []) (kw : ∀ ks ∈ (sg__law_judged).kws, KBinds K fd (sg__law_judged).ps ks (kwG ks.length) (kwG ks.length)) : FnAt P w K mg base 5 W "_law_judged" sg__law_judged :=
  fnAt (def_ok (Γ := gam__law_judged) (k := 4) (m := 4) (N := ["row", "facing", "ways", "steps", "turn", "way", "piece", "walk", "step", "some", "odd"]) (l := false) (B.glb (show AllFn P w K mg base W 4 [("_law_pick", sgPick), ("is_lying", sg_is_lying), ("is_odd_round", sg_is_odd_round), ("_law_taken", sgTaken), ("_law_round", sg__law_round)] from ⟨h0.mono (by decide), h1.mono (by decide), h2.mono (by decide), h3.mono (by decide), h4.mono (by decide), trivial⟩) (show AllCon mg W [] from trivial)) F sc__law_judged ck__law_judged ln__law_judged wp__law_judged (Nat.le_refl _) (fun z => (by cases z))) hm hk bd kw
theorem ok__law_tied {f c : Addr} {oc kV doc pm ct : Value} {od an : Option Addr} {osl : Array (Option Value)} (B : Bas K mg W) (h0 : FnAt P w K mg base 1 W "_law_taken" sgTaken) (h1 : FnAt P w K mg base 5 W "_law_alike" (sgAlike 4)) (h2 : FnAt P w K mg base 4 W "tied" sg_tied)  (lk : K.lookup f = some ⟨oc, od, .func (PySem.W.fnOf "_law_tied" "_law_tied" (defArgs s__law_tied) (defBody s__law_tied) (defScope s__law_tied) .none kV doc pm an (.ref c) ct), osl⟩) (hcd : PySem.W.codeIn K (.ref c) "_law_tied" = true) (hl : ∀ (A : Around) (outer : List Env) (s : Shared) (H : Hp) (E : XK), LamAt W (cxOf (L2.CX P w) P w K mg base ["row", "facing", "ways", "one", "two", "seen", "way", "due", "told"] "_law_tied" (defScope s__law_tied) f (.ref c) A outer s H E)) (hm : mg "_law_tied" = some (.ref f)) (hk : PySem.W.keepIn K (.ref f) = true) (bd : Binds K (PySem.W.fnOf "_law_tied" "_law_tied" (defArgs s__law_tied) (defBody s__law_tied) (defScope s__law_tied) .none kV doc pm an (.ref c) ct) (sg__law_tied).ps []) : FnAt P w K mg base 8 W "_law_tied" sg__law_tied :=
  fnAt (def_okL (Γ := gam__law_tied) (k := 5) (m := 7) (N := ["row", "facing", "ways", "one", "two", "seen", "way", "due", "told"]) (B.glb (show AllFn P w K mg base W 5 [("_law_taken", sgTaken), ("_law_alike", (sgAlike 4)), ("tied", sg_tied)] from ⟨h0.mono (by decide), h1.mono (by decide), h2.mono (by decide), trivial⟩) (show AllCon mg W [] from trivial)) lk hcd sc__law_tied ck__law_tied ln__law_tied wp__law_tied (Nat.le_refl _) hl) hm hk bd (fun ks z => (by cases z))
theorem ok_chosen {f : Addr} {fd : FuncData} (B : Bas K mg W)  (F : Fun K "chosen" "chosen" s_chosen f fd) (hm : mg "chosen" = some (.ref f)) (hk : PySem.W.keepIn K (.ref f) = true) (bd : Binds K fd ["many", "size"] []) : ∀ n : Nat, FnAt P w K mg base (1 + n) W "chosen" (sg_chosen n)
  | 0 => fnAt (def_ok (Γ := gam_chosen 0) (k := 0) (m := 0) (N := ["many", "size", "found", "some", "at"]) (l := false) (B.glb (show AllFn P w K mg base W 0 [] from trivial) (show AllCon mg W [] from trivial)) F sc_chosen ck_chosen (ln_chosen 0) (wp_chosen 0) (Nat.le_refl _) (fun z => (by cases z))) hm hk bd (fun ks z => (by cases z))
  | n + 1 => fnAt (def_ok (Γ := gam_chosen (n + 1)) (k := 1 + n) (m := 1 + n) (N := ["many", "size", "found", "some", "at"]) (l := false) (B.glb (show AllFn P w K mg base W (1 + n) [("chosen", sg_chosen n)] from ⟨ok_chosen B  F hm hk bd n, trivial⟩) (show AllCon mg W [] from trivial)) F sc_chosen ck_chosen (ln_chosen (n + 1)) (wp_chosen (n + 1)) (Nat.le_refl _) (fun z => (by cases z))) hm hk bd (fun ks z => (by cases z))
theorem ok_subsets {f : Addr} {fd : FuncData} (B : Bas K mg W) (h0 : FnAt P w K mg base 3 W "demand" sgDemand) (h1 : FnAt P w K mg base 1 W "is_integer" sg_is_integer) (h2 : FnAt P w K mg base 15 W "chosen" (sg_chosen 14)) (z0 : ConAt mg W "MOST_TIES" (.int (14))) (F : Fun K "subsets" "subsets" s_subsets f fd) (hm : mg "subsets" = some (.ref f)) (hk : PySem.W.keepIn K (.ref f) = true) (bd : Binds K fd (sg_subsets).ps []) (kw : ∀ ks ∈ (sg_subsets).kws, KBinds K fd (sg_subsets).ps ks (kwG ks.length) (kwG ks.length)) : FnAt P w K mg base 16 W "subsets" sg_subsets :=
  fnAt (def_ok (Γ := gam_subsets) (k := 15) (m := 15) (N := ["many", "size"]) (l := false) (B.glb (show AllFn P w K mg base W 15 [("demand", sgDemand), ("is_integer", sg_is_integer), ("chosen", (sg_chosen 14))] from ⟨h0.mono (by decide), h1.mono (by decide), h2.mono (by decide), trivial⟩) (show AllCon mg W [("MOST_TIES", .int (14))] from ⟨z0, trivial⟩)) F sc_subsets ck_subsets ln_subsets wp_subsets (Nat.le_refl _) (fun z => (by cases z))) hm hk bd kw
theorem ok_fewest_cut {f : Addr} {fd : FuncData} (B : Bas K mg W) (h0 : FnAt P w K mg base 3 W "demand" sgDemand) (h1 : FnAt P w K mg base 3 W "is_facing" sg_is_facing) (h2 : FnAt P w K mg base 15 W "chosen" (sg_chosen 14)) (h3 : FnAt P w K mg base 2 W "first_odd" sg_first_odd)  (F : Fun K "fewest_cut" "fewest_cut" s_fewest_cut f fd) (hm : mg "fewest_cut" = some (.ref f)) (hk : PySem.W.keepIn K (.ref f) = true) (bd : Binds K fd (sg_fewest_cut).ps []) (kw : ∀ ks ∈ (sg_fewest_cut).kws, KBinds K fd (sg_fewest_cut).ps ks (kwG ks.length) (kwG ks.length)) : FnAt P w K mg base 16 W "fewest_cut" sg_fewest_cut :=
  fnAt (def_ok (Γ := gam_fewest_cut) (k := 15) (m := 15) (N := ["facing", "size", "some"]) (l := false) (B.glb (show AllFn P w K mg base W 15 [("demand", sgDemand), ("is_facing", sg_is_facing), ("chosen", (sg_chosen 14)), ("first_odd", sg_first_odd)] from ⟨h0.mono (by decide), h1.mono (by decide), h2.mono (by decide), h3.mono (by decide), trivial⟩) (show AllCon mg W [] from trivial)) F sc_fewest_cut ck_fewest_cut ln_fewest_cut wp_fewest_cut (Nat.le_refl _) (fun z => (by cases z))) hm hk bd kw
theorem ok__law_case {f c : Addr} {oc kV doc pm ct : Value} {od an : Option Addr} {osl : Array (Option Value)} (B : Bas K mg W) (h0 : FnAt P w K mg base 2 W "_law_facing" sg__law_facing) (h1 : FnAt P w K mg base 2 W "_law_pick" sgPick) (h2 : FnAt P w K mg base 1 W "_law_ways" sg__law_ways) (h3 : FnAt P w K mg base 1 W "_law_groups" sg__law_groups) (h4 : FnAt P w K mg base 4 W "lying" sg_lying) (h5 : FnAt P w K mg base 4 W "odd_round" sg_odd_round) (h6 : FnAt P w K mg base 1 W "_law_taken" sgTaken) (h7 : FnAt P w K mg base 5 W "_law_alike" (sgAlike 4)) (h8 : FnAt P w K mg base 8 W "_law_tied" sg__law_tied) (h9 : FnAt P w K mg base 5 W "_law_judged" sg__law_judged) (h10 : FnAt P w K mg base 16 W "subsets" sg_subsets) (h11 : FnAt P w K mg base 3 W "is_facing" sg_is_facing) (h12 : FnAt P w K mg base 4 W "ways_to_lie" sg_ways_to_lie) (h13 : FnAt P w K mg base 1 W "_law_round" sg__law_round) (h14 : FnAt P w K mg base 4 W "is_odd_round" sg_is_odd_round) (h15 : FnAt P w K mg base 16 W "fewest_cut" sg_fewest_cut) (h16 : FnAt P w K mg base 2 W "_law_cut" sg__law_cut)  (lk : K.lookup f = some ⟨oc, od, .func (PySem.W.fnOf "_law_case" "_law_case" (defArgs s__law_case) (defBody s__law_case) (defScope s__law_case) .none kV doc pm an (.ref c) ct), osl⟩) (hcd : PySem.W.codeIn K (.ref c) "_law_case" = true) (hl : ∀ (A : Around) (outer : List Env) (s : Shared) (H : Hp) (E : XK), LamAt W (cxOf (L2.CX P w) P w K mg base ["row", "facing", "ways", "heads", "found", "steps", "wrong", "piece", "many", "size", "line", "turn", "some", "at", "odd", "told", "due"] "_law_case" (defScope s__law_case) f (.ref c) A outer s H E)) (hm : mg "_law_case" = some (.ref f)) (hk : PySem.W.keepIn K (.ref f) = true) (bd : Binds K (PySem.W.fnOf "_law_case" "_law_case" (defArgs s__law_case) (defBody s__law_case) (defScope s__law_case) .none kV doc pm an (.ref c) ct) (sgCase).ps []) : FnAt P w K mg base 19 W "_law_case" sgCase :=
  fnAt (def_okL (Γ := gam__law_case) (k := 16) (m := 18) (N := ["row", "facing", "ways", "heads", "found", "steps", "wrong", "piece", "many", "size", "line", "turn", "some", "at", "odd", "told", "due"]) (B.glb (show AllFn P w K mg base W 16 [("_law_facing", sg__law_facing), ("_law_pick", sgPick), ("_law_ways", sg__law_ways), ("_law_groups", sg__law_groups), ("lying", sg_lying), ("odd_round", sg_odd_round), ("_law_taken", sgTaken), ("_law_alike", (sgAlike 4)), ("_law_tied", sg__law_tied), ("_law_judged", sg__law_judged), ("subsets", sg_subsets), ("is_facing", sg_is_facing), ("ways_to_lie", sg_ways_to_lie), ("_law_round", sg__law_round), ("is_odd_round", sg_is_odd_round), ("fewest_cut", sg_fewest_cut), ("_law_cut", sg__law_cut)] from ⟨h0.mono (by decide), h1.mono (by decide), h2.mono (by decide), h3.mono (by decide), h4.mono (by decide), h5.mono (by decide), h6.mono (by decide), h7.mono (by decide), h8.mono (by decide), h9.mono (by decide), h10.mono (by decide), h11.mono (by decide), h12.mono (by decide), h13.mono (by decide), h14.mono (by decide), h15.mono (by decide), h16.mono (by decide), trivial⟩) (show AllCon mg W [] from trivial)) lk hcd sc__law_case ck__law_case ln__law_case wp__law_case (Nat.le_refl _) hl) hm hk bd (fun ks z => (by cases z))
end
theorem all_mk {l : PySem.W.OpenLaw} {w : World} {K : PySem.W.Frag} {h : Heap} {mg : Str → Option Value} {fa C c0_0 c0_1 : Addr} (X : K.In h) (G : h.Ns mainGlobals mg) (hfa : mg "law" = some (.ref fa))
    {nm qn : Str} {NC : Addr} {bs : List Value} {sn : List Str} {sub : List Value} {ab : Bool} {col : Option Bool} {dd : Option Addr} {m0 m1 m2 m3 m5 : Option Value}
    {f_demand : Addr} {oc_demand kV_demand dc_demand pm_demand ct_demand : Value} {od_demand an_demand : Option Addr} {sl_demand : Array (Option Value)} {cd_demand : Value} {f__law_taken : Addr} {oc__law_taken kV__law_taken dc__law_taken pm__law_taken ct__law_taken : Value} {od__law_taken an__law_taken : Option Addr} {sl__law_taken : Array (Option Value)} {cd__law_taken : Value} {f__law_refused : Addr} {oc__law_refused kV__law_refused dc__law_refused pm__law_refused ct__law_refused : Value} {od__law_refused an__law_refused : Option Addr} {sl__law_refused : Array (Option Value)} {cd__law_refused : Value} {f__law_alike : Addr} {oc__law_alike kV__law_alike dc__law_alike pm__law_alike ct__law_alike : Value} {od__law_alike an__law_alike : Option Addr} {sl__law_alike : Array (Option Value)} {cd__law_alike : Value} {f_is_integer : Addr} {oc_is_integer kV_is_integer dc_is_integer pm_is_integer ct_is_integer : Value} {od_is_integer an_is_integer : Option Addr} {sl_is_integer : Array (Option Value)} {cd_is_integer : Value} {f_is_tuple : Addr} {oc_is_tuple kV_is_tuple dc_is_tuple pm_is_tuple ct_is_tuple : Value} {od_is_tuple an_is_tuple : Option Addr} {sl_is_tuple : Array (Option Value)} {cd_is_tuple : Value} {f_is_flag : Addr} {oc_is_flag kV_is_flag dc_is_flag pm_is_flag ct_is_flag : Value} {od_is_flag an_is_flag : Option Addr} {sl_is_flag : Array (Option Value)} {cd_is_flag : Value} {f_spread : Addr} {oc_spread kV_spread dc_spread pm_spread ct_spread : Value} {od_spread an_spread : Option Addr} {sl_spread : Array (Option Value)} {cd_spread : Value} {f_goes_round : Addr} {oc_goes_round kV_goes_round dc_goes_round pm_goes_round ct_goes_round : Value} {od_goes_round an_goes_round : Option Addr} {sl_goes_round : Array (Option Value)} {cd_goes_round : Value} {f__law_ways : Addr} {oc__law_ways kV__law_ways dc__law_ways pm__law_ways ct__law_ways : Value} {od__law_ways an__law_ways : Option Addr} {sl__law_ways : Array (Option Value)} {cd__law_ways : Value} {f__law_round : Addr} {oc__law_round kV__law_round dc__law_round pm__law_round ct__law_round : Value} {od__law_round an__law_round : Option Addr} {sl__law_round : Array (Option Value)} {cd__law_round : Value} {f__law_groups : Addr} {oc__law_groups kV__law_groups dc__law_groups pm__law_groups ct__law_groups : Value} {od__law_groups an__law_groups : Option Addr} {sl__law_groups : Array (Option Value)} {cd__law_groups : Value} {f_is_integers : Addr} {oc_is_integers kV_is_integers dc_is_integers pm_is_integers ct_is_integers : Value} {od_is_integers an_is_integers : Option Addr} {sl_is_integers : Array (Option Value)} {cd_is_integers : Value} {f_is_tie : Addr} {oc_is_tie kV_is_tie dc_is_tie pm_is_tie ct_is_tie : Value} {od_is_tie an_is_tie : Option Addr} {sl_is_tie : Array (Option Value)} {cd_is_tie : Value} {f_first_odd : Addr} {oc_first_odd kV_first_odd dc_first_odd pm_first_odd ct_first_odd : Value} {od_first_odd an_first_odd : Option Addr} {sl_first_odd : Array (Option Value)} {cd_first_odd : Value} {f__law_pick : Addr} {oc__law_pick kV__law_pick dc__law_pick pm__law_pick ct__law_pick : Value} {od__law_pick an__law_pick : Option Addr} {sl__law_pick : Array (Option Value)} {cd__law_pick : Value} {f__law_facing : Addr} {oc__law_facing kV__law_facing dc__law_facing pm__law_facing ct__law_facing : Value} {od__law_facing an__law_facing : Option Addr} {sl__law_facing : Array (Option Value)} {cd__law_facing : Value} {f__law_cut : Addr} {oc__law_cut kV__law_cut dc__law_cut pm__law_cut ct__law_cut : Value} {od__law_cut an__law_cut : Option Addr} {sl__law_cut : Array (Option Value)} {cd__law_cut : Value} {f_is_facing : Addr} {oc_is_facing kV_is_facing dc_is_facing pm_is_facing ct_is_facing : Value} {od_is_facing an_is_facing : Option Addr} {sl_is_facing : Array (Option Value)} {cd_is_facing : Value} {f_lying : Addr} {oc_lying kV_lying dc_lying pm_lying ct_lying : Value} {od_lying an_lying : Option Addr} {sl_lying : Array (Option Value)} {cd_lying : Value} {f_is_lying : Addr} {oc_is_lying kV_is_lying dc_is_lying pm_is_lying ct_is_lying : Value} {od_is_lying an_is_lying : Option Addr} {sl_is_lying : Array (Option Value)} {cd_is_lying : Value} {f_odd_round : Addr} {oc_odd_round kV_odd_round dc_odd_round pm_odd_round ct_odd_round : Value} {od_odd_round an_odd_round : Option Addr} {sl_odd_round : Array (Option Value)} {cd_odd_round : Value} {f_is_odd_round : Addr} {oc_is_odd_round kV_is_odd_round dc_is_odd_round pm_is_odd_round ct_is_odd_round : Value} {od_is_odd_round an_is_odd_round : Option Addr} {sl_is_odd_round : Array (Option Value)} {cd_is_odd_round : Value} {f_ways_to_lie : Addr} {oc_ways_to_lie kV_ways_to_lie dc_ways_to_lie pm_ways_to_lie ct_ways_to_lie : Value} {od_ways_to_lie an_ways_to_lie : Option Addr} {sl_ways_to_lie : Array (Option Value)} {cd_ways_to_lie : Value} {f_tied : Addr} {oc_tied kV_tied dc_tied pm_tied ct_tied : Value} {od_tied an_tied : Option Addr} {sl_tied : Array (Option Value)} {cd_tied : Value} {f__law_judged : Addr} {oc__law_judged kV__law_judged dc__law_judged pm__law_judged ct__law_judged : Value} {od__law_judged an__law_judged : Option Addr} {sl__law_judged : Array (Option Value)} {cd__law_judged : Value} {f__law_tied : Addr} {oc__law_tied kV__law_tied dc__law_tied pm__law_tied ct__law_tied : Value} {od__law_tied an__law_tied : Option Addr} {sl__law_tied : Array (Option Value)} {f_chosen : Addr} {oc_chosen kV_chosen dc_chosen pm_chosen ct_chosen : Value} {od_chosen an_chosen : Option Addr} {sl_chosen : Array (Option Value)} {cd_chosen : Value} {f_subsets : Addr} {oc_subsets kV_subsets dc_subsets pm_subsets ct_subsets : Value} {od_subsets an_subsets : Option Addr} {sl_subsets : Array (Option Value)} {cd_subsets : Value} {f_fewest_cut : Addr} {oc_fewest_cut kV_fewest_cut dc_fewest_cut pm_fewest_cut ct_fewest_cut : Value} {od_fewest_cut an_fewest_cut : Option Addr} {sl_fewest_cut : Array (Option Value)} {cd_fewest_cut : Value} {f__law_case : Addr} {oc__law_case kV__law_case dc__law_case pm__law_case ct__law_case : Value} {od__law_case an__law_case : Option Addr} {sl__law_case : Array (Option Value)} {f_law : Addr} {oc_law kV_law dc_law pm_law ct_law : Value} {od_law an_law : Option Addr} {sl_law : Array (Option Value)} {cd_law : Value} {f_init : Addr} {oc_init kV_init dc_init pm_init ct_init : Value} {od_init an_init : Option Addr} {sl_init : Array (Option Value)} {cd_init : Value}
    (aC : PySem.W.nsIn K mainGlobals "BadArgument" = some (some (.ref C)))
    (xL : K.lookup C = some (excClassObj nm qn C NC bs [.type "ValueError", .type "Exception", .type "BaseException", .type "object"] true sn sub ab col dd m0 m1 m2 m3 m5 "ValueError.__new__"))
    (sa : PySem.W.findIn K (.ref C) "__setattr__" = some (some (.builtin "object.__setattr__"))) (nb : PySem.W.findIn K (.ref C) "name" = some none) (iC : PySem.W.findIn K (.ref C) "__init__" = some (some (.ref f_init))) (tI : PySem.W.typeIn K (.ref f_init) = some (.type "function"))
    (kC : PySem.W.keepIn K (.ref C) = true) (eC : PySem.W.subIn K (.ref C) (.type "BaseException") = some true) (tC : PySem.W.typeIn K (.ref C) = some (.type "type")) (xfC : xfB K C = true) (icC : PySem.W.isClsIn K C = true) (sC : PySem.W.subIn K (.ref C) (.ref C) = some true)
    (l_init : K.lookup f_init = some ⟨oc_init, od_init, .func (PySem.W.fnOf "__init__" "BadArgument.__init__" (defArgs s_init) (defBody s_init) (defScope s_init) .none kV_init dc_init pm_init an_init cd_init ct_init), sl_init⟩) (c_init : PySem.W.codeIn K cd_init "BadArgument.__init__" = true) (k_init : PySem.W.keepIn K (.ref f_init) = true)
    (a_demand : PySem.W.nsIn K mainGlobals "demand" = some (some (.ref f_demand))) (l_demand : K.lookup f_demand = some ⟨oc_demand, od_demand, .func (PySem.W.fnOf "demand" "demand" (defArgs s_demand) (defBody s_demand) (defScope s_demand) .none kV_demand dc_demand pm_demand an_demand cd_demand ct_demand), sl_demand⟩) (c_demand : PySem.W.codeIn K cd_demand "demand" = true) (k_demand : PySem.W.keepIn K (.ref f_demand) = true)
    (a__law_taken : PySem.W.nsIn K mainGlobals "_law_taken" = some (some (.ref f__law_taken))) (l__law_taken : K.lookup f__law_taken = some ⟨oc__law_taken, od__law_taken, .func (PySem.W.fnOf "_law_taken" "_law_taken" (defArgs s__law_taken) (defBody s__law_taken) (defScope s__law_taken) .none kV__law_taken dc__law_taken pm__law_taken an__law_taken cd__law_taken ct__law_taken), sl__law_taken⟩) (c__law_taken : PySem.W.codeIn K cd__law_taken "_law_taken" = true) (k__law_taken : PySem.W.keepIn K (.ref f__law_taken) = true)
    (a__law_refused : PySem.W.nsIn K mainGlobals "_law_refused" = some (some (.ref f__law_refused))) (l__law_refused : K.lookup f__law_refused = some ⟨oc__law_refused, od__law_refused, .func (PySem.W.fnOf "_law_refused" "_law_refused" (defArgs s__law_refused) (defBody s__law_refused) (defScope s__law_refused) .none kV__law_refused dc__law_refused pm__law_refused an__law_refused cd__law_refused ct__law_refused), sl__law_refused⟩) (c__law_refused : PySem.W.codeIn K cd__law_refused "_law_refused" = true) (k__law_refused : PySem.W.keepIn K (.ref f__law_refused) = true)
    (a__law_alike : PySem.W.nsIn K mainGlobals "_law_alike" = some (some (.ref f__law_alike))) (l__law_alike : K.lookup f__law_alike = some ⟨oc__law_alike, od__law_alike, .func (PySem.W.fnOf "_law_alike" "_law_alike" (defArgs s__law_alike) (defBody s__law_alike) (defScope s__law_alike) .none kV__law_alike dc__law_alike pm__law_alike an__law_alike cd__law_alike ct__law_alike), sl__law_alike⟩) (c__law_alike : PySem.W.codeIn K cd__law_alike "_law_alike" = true) (k__law_alike : PySem.W.keepIn K (.ref f__law_alike) = true)
    (a_is_integer : PySem.W.nsIn K mainGlobals "is_integer" = some (some (.ref f_is_integer))) (l_is_integer : K.lookup f_is_integer = some ⟨oc_is_integer, od_is_integer, .func (PySem.W.fnOf "is_integer" "is_integer" (defArgs s_is_integer) (defBody s_is_integer) (defScope s_is_integer) .none kV_is_integer dc_is_integer pm_is_integer an_is_integer cd_is_integer ct_is_integer), sl_is_integer⟩) (c_is_integer : PySem.W.codeIn K cd_is_integer "is_integer" = true) (k_is_integer : PySem.W.keepIn K (.ref f_is_integer) = true)
    (a_is_tuple : PySem.W.nsIn K mainGlobals "is_tuple" = some (some (.ref f_is_tuple))) (l_is_tuple : K.lookup f_is_tuple = some ⟨oc_is_tuple, od_is_tuple, .func (PySem.W.fnOf "is_tuple" "is_tuple" (defArgs s_is_tuple) (defBody s_is_tuple) (defScope s_is_tuple) .none kV_is_tuple dc_is_tuple pm_is_tuple an_is_tuple cd_is_tuple ct_is_tuple), sl_is_tuple⟩) (c_is_tuple : PySem.W.codeIn K cd_is_tuple "is_tuple" = true) (k_is_tuple : PySem.W.keepIn K (.ref f_is_tuple) = true)
    (a_is_flag : PySem.W.nsIn K mainGlobals "is_flag" = some (some (.ref f_is_flag))) (l_is_flag : K.lookup f_is_flag = some ⟨oc_is_flag, od_is_flag, .func (PySem.W.fnOf "is_flag" "is_flag" (defArgs s_is_flag) (defBody s_is_flag) (defScope s_is_flag) .none kV_is_flag dc_is_flag pm_is_flag an_is_flag cd_is_flag ct_is_flag), sl_is_flag⟩) (c_is_flag : PySem.W.codeIn K cd_is_flag "is_flag" = true) (k_is_flag : PySem.W.keepIn K (.ref f_is_flag) = true)
    (a_spread : PySem.W.nsIn K mainGlobals "spread" = some (some (.ref f_spread))) (l_spread : K.lookup f_spread = some ⟨oc_spread, od_spread, .func (PySem.W.fnOf "spread" "spread" (defArgs s_spread) (defBody s_spread) (defScope s_spread) .none kV_spread dc_spread pm_spread an_spread cd_spread ct_spread), sl_spread⟩) (c_spread : PySem.W.codeIn K cd_spread "spread" = true) (k_spread : PySem.W.keepIn K (.ref f_spread) = true)
    (a_goes_round : PySem.W.nsIn K mainGlobals "goes_round" = some (some (.ref f_goes_round))) (l_goes_round : K.lookup f_goes_round = some ⟨oc_goes_round, od_goes_round, .func (PySem.W.fnOf "goes_round" "goes_round" (defArgs s_goes_round) (defBody s_goes_round) (defScope s_goes_round) .none kV_goes_round dc_goes_round pm_goes_round an_goes_round cd_goes_round ct_goes_round), sl_goes_round⟩) (c_goes_round : PySem.W.codeIn K cd_goes_round "goes_round" = true) (k_goes_round : PySem.W.keepIn K (.ref f_goes_round) = true)
    (a__law_ways : PySem.W.nsIn K mainGlobals "_law_ways" = some (some (.ref f__law_ways))) (l__law_ways : K.lookup f__law_ways = some ⟨oc__law_ways, od__law_ways, .func (PySem.W.fnOf "_law_ways" "_law_ways" (defArgs s__law_ways) (defBody s__law_ways) (defScope s__law_ways) .none kV__law_ways dc__law_ways pm__law_ways an__law_ways cd__law_ways ct__law_ways), sl__law_ways⟩) (c__law_ways : PySem.W.codeIn K cd__law_ways "_law_ways" = true) (k__law_ways : PySem.W.keepIn K (.ref f__law_ways) = true)
    (a__law_round : PySem.W.nsIn K mainGlobals "_law_round" = some (some (.ref f__law_round))) (l__law_round : K.lookup f__law_round = some ⟨oc__law_round, od__law_round, .func (PySem.W.fnOf "_law_round" "_law_round" (defArgs s__law_round) (defBody s__law_round) (defScope s__law_round) .none kV__law_round dc__law_round pm__law_round an__law_round cd__law_round ct__law_round), sl__law_round⟩) (c__law_round : PySem.W.codeIn K cd__law_round "_law_round" = true) (k__law_round : PySem.W.keepIn K (.ref f__law_round) = true)
    (a__law_groups : PySem.W.nsIn K mainGlobals "_law_groups" = some (some (.ref f__law_groups))) (l__law_groups : K.lookup f__law_groups = some ⟨oc__law_groups, od__law_groups, .func (PySem.W.fnOf "_law_groups" "_law_groups" (defArgs s__law_groups) (defBody s__law_groups) (defScope s__law_groups) .none kV__law_groups dc__law_groups pm__law_groups an__law_groups cd__law_groups ct__law_groups), sl__law_groups⟩) (c__law_groups : PySem.W.codeIn K cd__law_groups "_law_groups" = true) (k__law_groups : PySem.W.keepIn K (.ref f__law_groups) = true)
    (a_is_integers : PySem.W.nsIn K mainGlobals "is_integers" = some (some (.ref f_is_integers))) (l_is_integers : K.lookup f_is_integers = some ⟨oc_is_integers, od_is_integers, .func (PySem.W.fnOf "is_integers" "is_integers" (defArgs s_is_integers) (defBody s_is_integers) (defScope s_is_integers) .none kV_is_integers dc_is_integers pm_is_integers an_is_integers cd_is_integers ct_is_integers), sl_is_integers⟩) (c_is_integers : PySem.W.codeIn K cd_is_integers "is_integers" = true) (k_is_integers : PySem.W.keepIn K (.ref f_is_integers) = true)
    (a_is_tie : PySem.W.nsIn K mainGlobals "is_tie" = some (some (.ref f_is_tie))) (l_is_tie : K.lookup f_is_tie = some ⟨oc_is_tie, od_is_tie, .func (PySem.W.fnOf "is_tie" "is_tie" (defArgs s_is_tie) (defBody s_is_tie) (defScope s_is_tie) .none kV_is_tie dc_is_tie pm_is_tie an_is_tie cd_is_tie ct_is_tie), sl_is_tie⟩) (c_is_tie : PySem.W.codeIn K cd_is_tie "is_tie" = true) (k_is_tie : PySem.W.keepIn K (.ref f_is_tie) = true)
    (a_first_odd : PySem.W.nsIn K mainGlobals "first_odd" = some (some (.ref f_first_odd))) (l_first_odd : K.lookup f_first_odd = some ⟨oc_first_odd, od_first_odd, .func (PySem.W.fnOf "first_odd" "first_odd" (defArgs s_first_odd) (defBody s_first_odd) (defScope s_first_odd) .none kV_first_odd dc_first_odd pm_first_odd an_first_odd cd_first_odd ct_first_odd), sl_first_odd⟩) (c_first_odd : PySem.W.codeIn K cd_first_odd "first_odd" = true) (k_first_odd : PySem.W.keepIn K (.ref f_first_odd) = true)
    (a__law_pick : PySem.W.nsIn K mainGlobals "_law_pick" = some (some (.ref f__law_pick))) (l__law_pick : K.lookup f__law_pick = some ⟨oc__law_pick, od__law_pick, .func (PySem.W.fnOf "_law_pick" "_law_pick" (defArgs s__law_pick) (defBody s__law_pick) (defScope s__law_pick) .none kV__law_pick dc__law_pick pm__law_pick an__law_pick cd__law_pick ct__law_pick), sl__law_pick⟩) (c__law_pick : PySem.W.codeIn K cd__law_pick "_law_pick" = true) (k__law_pick : PySem.W.keepIn K (.ref f__law_pick) = true)
    (a__law_facing : PySem.W.nsIn K mainGlobals "_law_facing" = some (some (.ref f__law_facing))) (l__law_facing : K.lookup f__law_facing = some ⟨oc__law_facing, od__law_facing, .func (PySem.W.fnOf "_law_facing" "_law_facing" (defArgs s__law_facing) (defBody s__law_facing) (defScope s__law_facing) .none kV__law_facing dc__law_facing pm__law_facing an__law_facing cd__law_facing ct__law_facing), sl__law_facing⟩) (c__law_facing : PySem.W.codeIn K cd__law_facing "_law_facing" = true) (k__law_facing : PySem.W.keepIn K (.ref f__law_facing) = true)
    (a__law_cut : PySem.W.nsIn K mainGlobals "_law_cut" = some (some (.ref f__law_cut))) (l__law_cut : K.lookup f__law_cut = some ⟨oc__law_cut, od__law_cut, .func (PySem.W.fnOf "_law_cut" "_law_cut" (defArgs s__law_cut) (defBody s__law_cut) (defScope s__law_cut) .none kV__law_cut dc__law_cut pm__law_cut an__law_cut cd__law_cut ct__law_cut), sl__law_cut⟩) (c__law_cut : PySem.W.codeIn K cd__law_cut "_law_cut" = true) (k__law_cut : PySem.W.keepIn K (.ref f__law_cut) = true)
    (a_is_facing : PySem.W.nsIn K mainGlobals "is_facing" = some (some (.ref f_is_facing))) (l_is_facing : K.lookup f_is_facing = some ⟨oc_is_facing, od_is_facing, .func (PySem.W.fnOf "is_facing" "is_facing" (defArgs s_is_facing) (defBody s_is_facing) (defScope s_is_facing) .none kV_is_facing dc_is_facing pm_is_facing an_is_facing cd_is_facing ct_is_facing), sl_is_facing⟩) (c_is_facing : PySem.W.codeIn K cd_is_facing "is_facing" = true) (k_is_facing : PySem.W.keepIn K (.ref f_is_facing) = true)
    (a_lying : PySem.W.nsIn K mainGlobals "lying" = some (some (.ref f_lying))) (l_lying : K.lookup f_lying = some ⟨oc_lying, od_lying, .func (PySem.W.fnOf "lying" "lying" (defArgs s_lying) (defBody s_lying) (defScope s_lying) .none kV_lying dc_lying pm_lying an_lying cd_lying ct_lying), sl_lying⟩) (c_lying : PySem.W.codeIn K cd_lying "lying" = true) (k_lying : PySem.W.keepIn K (.ref f_lying) = true)
    (a_is_lying : PySem.W.nsIn K mainGlobals "is_lying" = some (some (.ref f_is_lying))) (l_is_lying : K.lookup f_is_lying = some ⟨oc_is_lying, od_is_lying, .func (PySem.W.fnOf "is_lying" "is_lying" (defArgs s_is_lying) (defBody s_is_lying) (defScope s_is_lying) .none kV_is_lying dc_is_lying pm_is_lying an_is_lying cd_is_lying ct_is_lying), sl_is_lying⟩) (c_is_lying : PySem.W.codeIn K cd_is_lying "is_lying" = true) (k_is_lying : PySem.W.keepIn K (.ref f_is_lying) = true)
    (a_odd_round : PySem.W.nsIn K mainGlobals "odd_round" = some (some (.ref f_odd_round))) (l_odd_round : K.lookup f_odd_round = some ⟨oc_odd_round, od_odd_round, .func (PySem.W.fnOf "odd_round" "odd_round" (defArgs s_odd_round) (defBody s_odd_round) (defScope s_odd_round) .none kV_odd_round dc_odd_round pm_odd_round an_odd_round cd_odd_round ct_odd_round), sl_odd_round⟩) (c_odd_round : PySem.W.codeIn K cd_odd_round "odd_round" = true) (k_odd_round : PySem.W.keepIn K (.ref f_odd_round) = true)
    (a_is_odd_round : PySem.W.nsIn K mainGlobals "is_odd_round" = some (some (.ref f_is_odd_round))) (l_is_odd_round : K.lookup f_is_odd_round = some ⟨oc_is_odd_round, od_is_odd_round, .func (PySem.W.fnOf "is_odd_round" "is_odd_round" (defArgs s_is_odd_round) (defBody s_is_odd_round) (defScope s_is_odd_round) .none kV_is_odd_round dc_is_odd_round pm_is_odd_round an_is_odd_round cd_is_odd_round ct_is_odd_round), sl_is_odd_round⟩) (c_is_odd_round : PySem.W.codeIn K cd_is_odd_round "is_odd_round" = true) (k_is_odd_round : PySem.W.keepIn K (.ref f_is_odd_round) = true)
    (a_ways_to_lie : PySem.W.nsIn K mainGlobals "ways_to_lie" = some (some (.ref f_ways_to_lie))) (l_ways_to_lie : K.lookup f_ways_to_lie = some ⟨oc_ways_to_lie, od_ways_to_lie, .func (PySem.W.fnOf "ways_to_lie" "ways_to_lie" (defArgs s_ways_to_lie) (defBody s_ways_to_lie) (defScope s_ways_to_lie) .none kV_ways_to_lie dc_ways_to_lie pm_ways_to_lie an_ways_to_lie cd_ways_to_lie ct_ways_to_lie), sl_ways_to_lie⟩) (c_ways_to_lie : PySem.W.codeIn K cd_ways_to_lie "ways_to_lie" = true) (k_ways_to_lie : PySem.W.keepIn K (.ref f_ways_to_lie) = true)
    (a_tied : PySem.W.nsIn K mainGlobals "tied" = some (some (.ref f_tied))) (l_tied : K.lookup f_tied = some ⟨oc_tied, od_tied, .func (PySem.W.fnOf "tied" "tied" (defArgs s_tied) (defBody s_tied) (defScope s_tied) .none kV_tied dc_tied pm_tied an_tied cd_tied ct_tied), sl_tied⟩) (c_tied : PySem.W.codeIn K cd_tied "tied" = true) (k_tied : PySem.W.keepIn K (.ref f_tied) = true)
    (a__law_judged : PySem.W.nsIn K mainGlobals "_law_judged" = some (some (.ref f__law_judged))) (l__law_judged : K.lookup f__law_judged = some ⟨oc__law_judged, od__law_judged, .func (PySem.W.fnOf "_law_judged" "_law_judged" (defArgs s__law_judged) (defBody s__law_judged) (defScope s__law_judged) .none kV__law_judged dc__law_judged pm__law_judged an__law_judged cd__law_judged ct__law_judged), sl__law_judged⟩) (c__law_judged : PySem.W.codeIn K cd__law_judged "_law_judged" = true) (k__law_judged : PySem.W.keepIn K (.ref f__law_judged) = true)
    (a__law_tied : PySem.W.nsIn K mainGlobals "_law_tied" = some (some (.ref f__law_tied))) (l__law_tied : K.lookup f__law_tied = some ⟨oc__law_tied, od__law_tied, .func (PySem.W.fnOf "_law_tied" "_law_tied" (defArgs s__law_tied) (defBody s__law_tied) (defScope s__law_tied) .none kV__law_tied dc__law_tied pm__law_tied an__law_tied (.ref c0_0) ct__law_tied), sl__law_tied⟩) (c__law_tied : PySem.W.codeIn K (.ref c0_0) "_law_tied" = true) (k__law_tied : PySem.W.keepIn K (.ref f__law_tied) = true)
    (a_chosen : PySem.W.nsIn K mainGlobals "chosen" = some (some (.ref f_chosen))) (l_chosen : K.lookup f_chosen = some ⟨oc_chosen, od_chosen, .func (PySem.W.fnOf "chosen" "chosen" (defArgs s_chosen) (defBody s_chosen) (defScope s_chosen) .none kV_chosen dc_chosen pm_chosen an_chosen cd_chosen ct_chosen), sl_chosen⟩) (c_chosen : PySem.W.codeIn K cd_chosen "chosen" = true) (k_chosen : PySem.W.keepIn K (.ref f_chosen) = true)
    (a_subsets : PySem.W.nsIn K mainGlobals "subsets" = some (some (.ref f_subsets))) (l_subsets : K.lookup f_subsets = some ⟨oc_subsets, od_subsets, .func (PySem.W.fnOf "subsets" "subsets" (defArgs s_subsets) (defBody s_subsets) (defScope s_subsets) .none kV_subsets dc_subsets pm_subsets an_subsets cd_subsets ct_subsets), sl_subsets⟩) (c_subsets : PySem.W.codeIn K cd_subsets "subsets" = true) (k_subsets : PySem.W.keepIn K (.ref f_subsets) = true)
    (a_fewest_cut : PySem.W.nsIn K mainGlobals "fewest_cut" = some (some (.ref f_fewest_cut))) (l_fewest_cut : K.lookup f_fewest_cut = some ⟨oc_fewest_cut, od_fewest_cut, .func (PySem.W.fnOf "fewest_cut" "fewest_cut" (defArgs s_fewest_cut) (defBody s_fewest_cut) (defScope s_fewest_cut) .none kV_fewest_cut dc_fewest_cut pm_fewest_cut an_fewest_cut cd_fewest_cut ct_fewest_cut), sl_fewest_cut⟩) (c_fewest_cut : PySem.W.codeIn K cd_fewest_cut "fewest_cut" = true) (k_fewest_cut : PySem.W.keepIn K (.ref f_fewest_cut) = true)
    (a__law_case : PySem.W.nsIn K mainGlobals "_law_case" = some (some (.ref f__law_case))) (l__law_case : K.lookup f__law_case = some ⟨oc__law_case, od__law_case, .func (PySem.W.fnOf "_law_case" "_law_case" (defArgs s__law_case) (defBody s__law_case) (defScope s__law_case) .none kV__law_case dc__law_case pm__law_case an__law_case (.ref c0_1) ct__law_case), sl__law_case⟩) (c__law_case : PySem.W.codeIn K (.ref c0_1) "_law_case" = true) (k__law_case : PySem.W.keepIn K (.ref f__law_case) = true)
    (a_law : PySem.W.nsIn K mainGlobals "law" = some (some (.ref f_law))) (l_law : K.lookup f_law = some ⟨oc_law, od_law, .func (PySem.W.fnOf "law" "law" (defArgs s_law) (defBody s_law) (defScope s_law) .none kV_law dc_law pm_law an_law cd_law ct_law), sl_law⟩) (c_law : PySem.W.codeIn K cd_law "law" = true) (k_law : PySem.W.keepIn K (.ref f_law) = true)
    {t_MOST_PIECES : Tok} (v_MOST_PIECES : PySem.W.nsIn K mainGlobals "MOST_PIECES" = some (some (.int (8) t_MOST_PIECES)))
    {t_MOST_TIES : Tok} (v_MOST_TIES : PySem.W.nsIn K mainGlobals "MOST_TIES" = some (some (.int (14) t_MOST_TIES)))
    (y_len : PySem.W.nsIn K mainGlobals "len" = some none)
    (y_all : PySem.W.nsIn K mainGlobals "all" = some none)
    (y_any : PySem.W.nsIn K mainGlobals "any" = some none)
    (y_sum : PySem.W.nsIn K mainGlobals "sum" = some none)
    (y_max : PySem.W.nsIn K mainGlobals "max" = some none)
    (y_min : PySem.W.nsIn K mainGlobals "min" = some none)
    (y_abs : PySem.W.nsIn K mainGlobals "abs" = some none)
    (y_int : PySem.W.nsIn K mainGlobals "int" = some none)
    (y_bool : PySem.W.nsIn K mainGlobals "bool" = some none)
    (y_str : PySem.W.nsIn K mainGlobals "str" = some none)
    (y_tuple : PySem.W.nsIn K mainGlobals "tuple" = some none)
    (y_list : PySem.W.nsIn K mainGlobals "list" = some none)
    (y_sorted : PySem.W.nsIn K mainGlobals "sorted" = some none)
    (y_isinstance : PySem.W.nsIn K mainGlobals "isinstance" = some none)
    (y_range : PySem.W.nsIn K mainGlobals "range" = some none)
    (y_enumerate : PySem.W.nsIn K mainGlobals "enumerate" = some none)
    (y_zip : PySem.W.nsIn K mainGlobals "zip" = some none)
    (y_set : PySem.W.nsIn K mainGlobals "set" = some none)
    {Pt_0 : Addr} (hT_0 : h.get? Pt_0 = some (PySem.W.tabObj #[])) (nT_0 : K.lookup Pt_0 = none) (hcd_0 : PySem.W.codeHdIn K c0_0 Pt_0 = true)
    {Pt_1 : Addr} (hT_1 : h.get? Pt_1 = some (PySem.W.tabObj #[])) (nT_1 : K.lookup Pt_1 = none) (hcd_1 : PySem.W.codeHdIn K c0_1 Pt_1 = true)
    (hPne : Pt_0 ≠ Pt_1)
    : LamX.LawAtS l w K (L2.CX l.prog w) 20 63 "script" mg fa h := by
  have e := hfa.symm.trans (PySem.W.mg_of X G a_law)
  cases e
  have blt : ∀ x ∈ bltNames, mg x = none := by
    intro x hx
    unfold bltNames at hx
    simp only [List.mem_cons, List.not_mem_nil, or_false] at hx
    rcases hx with rfl | rfl | rfl | rfl | rfl | rfl | rfl | rfl | rfl | rfl | rfl | rfl | rfl | rfl | rfl | rfl | rfl | rfl
    · exact PySem.W.mg_none_of X G y_len
    · exact PySem.W.mg_none_of X G y_all
    · exact PySem.W.mg_none_of X G y_any
    · exact PySem.W.mg_none_of X G y_sum
    · exact PySem.W.mg_none_of X G y_max
    · exact PySem.W.mg_none_of X G y_min
    · exact PySem.W.mg_none_of X G y_abs
    · exact PySem.W.mg_none_of X G y_int
    · exact PySem.W.mg_none_of X G y_bool
    · exact PySem.W.mg_none_of X G y_str
    · exact PySem.W.mg_none_of X G y_tuple
    · exact PySem.W.mg_none_of X G y_list
    · exact PySem.W.mg_none_of X G y_sorted
    · exact PySem.W.mg_none_of X G y_isinstance
    · exact PySem.W.mg_none_of X G y_range
    · exact PySem.W.mg_none_of X G y_enumerate
    · exact PySem.W.mg_none_of X G y_zip
    · exact PySem.W.mg_none_of X G y_set
  have T : ErrTxt K mg C f_init := ⟨PySem.W.mg_of X G aC, ⟨⟨nm, qn, NC, bs, _, sn, sub, ab, col, dd, m0, m1, m2, m3, m5, xL, by decide +kernel⟩, sa, eC, tC, kC⟩, xfB_ok xfC, nb, iC, tI, exm_own eC icC tC sC⟩
  have F_init := fun_mk (st := s_init) l_init c_init k_init
  have F_demand := fun_mk (st := s_demand) l_demand c_demand k_demand
  have F__law_taken := fun_mk (st := s__law_taken) l__law_taken c__law_taken k__law_taken
  have F__law_refused := fun_mk (st := s__law_refused) l__law_refused c__law_refused k__law_refused
  have F__law_alike := fun_mk (st := s__law_alike) l__law_alike c__law_alike k__law_alike
  have F_is_integer := fun_mk (st := s_is_integer) l_is_integer c_is_integer k_is_integer
  have F_is_tuple := fun_mk (st := s_is_tuple) l_is_tuple c_is_tuple k_is_tuple
  have F_is_flag := fun_mk (st := s_is_flag) l_is_flag c_is_flag k_is_flag
  have F_spread := fun_mk (st := s_spread) l_spread c_spread k_spread
  have F_goes_round := fun_mk (st := s_goes_round) l_goes_round c_goes_round k_goes_round
  have F__law_ways := fun_mk (st := s__law_ways) l__law_ways c__law_ways k__law_ways
  have F__law_round := fun_mk (st := s__law_round) l__law_round c__law_round k__law_round
  have F__law_groups := fun_mk (st := s__law_groups) l__law_groups c__law_groups k__law_groups
  have F_is_integers := fun_mk (st := s_is_integers) l_is_integers c_is_integers k_is_integers
  have F_is_tie := fun_mk (st := s_is_tie) l_is_tie c_is_tie k_is_tie
  have F_first_odd := fun_mk (st := s_first_odd) l_first_odd c_first_odd k_first_odd
  have F__law_pick := fun_mk (st := s__law_pick) l__law_pick c__law_pick k__law_pick
  have F__law_facing := fun_mk (st := s__law_facing) l__law_facing c__law_facing k__law_facing
  have F__law_cut := fun_mk (st := s__law_cut) l__law_cut c__law_cut k__law_cut
  have F_is_facing := fun_mk (st := s_is_facing) l_is_facing c_is_facing k_is_facing
  have F_lying := fun_mk (st := s_lying) l_lying c_lying k_lying
  have F_is_lying := fun_mk (st := s_is_lying) l_is_lying c_is_lying k_is_lying
  have F_odd_round := fun_mk (st := s_odd_round) l_odd_round c_odd_round k_odd_round
  have F_is_odd_round := fun_mk (st := s_is_odd_round) l_is_odd_round c_is_odd_round k_is_odd_round
  have F_ways_to_lie := fun_mk (st := s_ways_to_lie) l_ways_to_lie c_ways_to_lie k_ways_to_lie
  have F_tied := fun_mk (st := s_tied) l_tied c_tied k_tied
  have F__law_judged := fun_mk (st := s__law_judged) l__law_judged c__law_judged k__law_judged
  have F__law_tied := fun_mk (st := s__law_tied) l__law_tied c__law_tied k__law_tied
  have F_chosen := fun_mk (st := s_chosen) l_chosen c_chosen k_chosen
  have F_subsets := fun_mk (st := s_subsets) l_subsets c_subsets k_subsets
  have F_fewest_cut := fun_mk (st := s_fewest_cut) l_fewest_cut c_fewest_cut k_fewest_cut
  have F__law_case := fun_mk (st := s__law_case) l__law_case c__law_case k__law_case
  have F_law := fun_mk (st := s_law) l_law c_law k_law
  have b_init := F_init.binds (ps := ["self", "name"]) fun _ _ _ _ _ _ us hl => by obtain ⟨a, b, rfl⟩ := len2 hl; rfl
  have b_demand := F_demand.binds (ps := ["is_right", "name"]) fun _ _ _ _ _ _ us hl => by obtain ⟨a, b, rfl⟩ := len2 hl; rfl
  have b__law_taken := F__law_taken.binds (ps := ["row", "many"]) fun _ _ _ _ _ _ us hl => by obtain ⟨a, b, rfl⟩ := len2 hl; rfl
  have b__law_refused := F__law_refused.binds (ps := ["call"]) fun _ _ _ _ _ _ us hl => by obtain ⟨a, rfl⟩ := len1 hl; rfl
  have b__law_alike := F__law_alike.binds (ps := ["found", "due"]) fun _ _ _ _ _ _ us hl => by obtain ⟨a, b, rfl⟩ := len2 hl; rfl
  have b_is_integer := F_is_integer.binds (ps := ["value", "least", "most"]) fun _ _ _ _ _ _ us hl => by obtain ⟨a, b, c, rfl⟩ := len3 hl; rfl
  have b_is_tuple := F_is_tuple.binds (ps := ["value", "least", "most"]) fun _ _ _ _ _ _ us hl => by obtain ⟨a, b, c, rfl⟩ := len3 hl; rfl
  have b_is_flag := F_is_flag.binds (ps := ["value"]) fun _ _ _ _ _ _ us hl => by obtain ⟨a, rfl⟩ := len1 hl; rfl
  have b_spread := F_spread.binds (ps := ["facing", "left"]) fun _ _ _ _ _ _ us hl => by obtain ⟨a, b, rfl⟩ := len2 hl; rfl
  have b_goes_round := F_goes_round.binds (ps := ["facing", "steps", "start"]) fun _ _ _ _ _ _ us hl => by obtain ⟨a, b, c, rfl⟩ := len3 hl; rfl
  have b__law_ways := F__law_ways.binds (ps := ["facing", "left"]) fun _ _ _ _ _ _ us hl => by obtain ⟨a, b, rfl⟩ := len2 hl; rfl
  have b__law_round := F__law_round.binds (ps := ["facing", "steps"]) fun _ _ _ _ _ _ us hl => by obtain ⟨a, b, rfl⟩ := len2 hl; rfl
  have b__law_groups := F__law_groups.binds (ps := ["facing"]) fun _ _ _ _ _ _ us hl => by obtain ⟨a, rfl⟩ := len1 hl; rfl
  have b_is_integers := F_is_integers.binds (ps := ["value", "many", "least", "most"]) fun _ _ _ _ _ _ us hl => by obtain ⟨a, b, c, d, rfl⟩ := len4 hl; rfl
  have b_is_tie := F_is_tie.binds (ps := ["value", "many"]) fun _ _ _ _ _ _ us hl => by obtain ⟨a, b, rfl⟩ := len2 hl; rfl
  have b_first_odd := F_first_odd.binds (ps := ["facing", "left"]) fun _ _ _ _ _ _ us hl => by obtain ⟨a, b, rfl⟩ := len2 hl; rfl
  have b__law_pick := F__law_pick.binds (ps := ["row", "some"]) fun _ _ _ _ _ _ us hl => by obtain ⟨a, b, rfl⟩ := len2 hl; rfl
  have b__law_facing := F__law_facing.binds (ps := ["row"]) fun _ _ _ _ _ _ us hl => by obtain ⟨a, rfl⟩ := len1 hl; rfl
  have b__law_cut := F__law_cut.binds (ps := ["facing"]) fun _ _ _ _ _ _ us hl => by obtain ⟨a, rfl⟩ := len1 hl; rfl
  have b_is_facing := F_is_facing.binds (ps := ["value"]) fun _ _ _ _ _ _ us hl => by obtain ⟨a, rfl⟩ := len1 hl; rfl
  have b_lying := F_lying.binds (ps := ["facing"]) fun _ _ _ _ _ _ us hl => by obtain ⟨a, rfl⟩ := len1 hl; rfl
  have b_is_lying := F_is_lying.binds (ps := ["facing", "value"]) fun _ _ _ _ _ _ us hl => by obtain ⟨a, b, rfl⟩ := len2 hl; rfl
  have b_odd_round := F_odd_round.binds (ps := ["facing"]) fun _ _ _ _ _ _ us hl => by obtain ⟨a, rfl⟩ := len1 hl; rfl
  have b_is_odd_round := F_is_odd_round.binds (ps := ["facing", "value"]) fun _ _ _ _ _ _ us hl => by obtain ⟨a, b, rfl⟩ := len2 hl; rfl
  have b_ways_to_lie := F_ways_to_lie.binds (ps := ["facing"]) fun _ _ _ _ _ _ us hl => by obtain ⟨a, rfl⟩ := len1 hl; rfl
  have b_tied := F_tied.binds (ps := ["facing", "one", "other"]) fun _ _ _ _ _ _ us hl => by obtain ⟨a, b, c, rfl⟩ := len3 hl; rfl
  have b__law_judged := F__law_judged.binds (ps := ["row", "facing", "ways", "steps"]) fun _ _ _ _ _ _ us hl => by obtain ⟨a, b, c, d, rfl⟩ := len4 hl; rfl
  have b__law_tied := F__law_tied.binds (ps := ["row", "facing", "ways"]) fun _ _ _ _ _ _ us hl => by obtain ⟨a, b, c, rfl⟩ := len3 hl; rfl
  have b_chosen := F_chosen.binds (ps := ["many", "size"]) fun _ _ _ _ _ _ us hl => by obtain ⟨a, b, rfl⟩ := len2 hl; rfl
  have b_subsets := F_subsets.binds (ps := ["many", "size"]) fun _ _ _ _ _ _ us hl => by obtain ⟨a, b, rfl⟩ := len2 hl; rfl
  have b_fewest_cut := F_fewest_cut.binds (ps := ["facing"]) fun _ _ _ _ _ _ us hl => by obtain ⟨a, rfl⟩ := len1 hl; rfl
  have b__law_case := F__law_case.binds (ps := ["row"]) fun _ _ _ _ _ _ us hl => by obtain ⟨a, rfl⟩ := len1 hl; rfl
  refine ⟨PySem.W.fnOf "law" "law" (defArgs s_law) (defBody s_law) (defScope s_law) .none kV_law dc_law pm_law an_law cd_law ct_law, [(c0_0, Pt_0), (c0_1, Pt_1)], spLaw K [(Pt_0, ("_law_tied.<locals>.<lambda>" : Str)), (Pt_1, ("_law_case.<locals>.<lambda>" : Str))], ?_, ?_, ?_, fun s u => .of_eq rfl, ?_, fun base KB GB TB => ?_⟩
  · intro p hp; rcases List.mem_cons.mp hp with rfl | hp
    · exact hT_0
    · cases List.mem_singleton.mp hp; exact hT_1
  · intro p hp; rcases List.mem_cons.mp hp with rfl | hp
    · exact nT_0
    · cases List.mem_singleton.mp hp; exact nT_1
  · intro p hp; rcases List.mem_cons.mp hp with rfl | hp
    · exact PySem.W.codeHd_of_K X hcd_0
    · cases List.mem_singleton.mp hp; exact PySem.W.codeHd_of_K X hcd_1
  · intro H a ns hl hb ht hs
    refine ⟨a, ns, rfl, hl, hb, hs, fun p hp => ?_, fun _ => rfl⟩
    rcases List.mem_cons.mp hp with rfl | hp
    · exact ⟨#[], ht _ List.mem_cons_self, trivial, fun pos cv z => by cases z⟩
    · cases List.mem_singleton.mp hp
      exact ⟨#[], ht _ (List.mem_cons_of_mem _ List.mem_cons_self), trivial, fun pos cv z => by cases z⟩
  have hcase : ∀ W : Wd, W.K = K → W.mg = mg → W.T = [(Pt_0, ("_law_tied.<locals>.<lambda>" : Str)), (Pt_1, ("_law_case.<locals>.<lambda>" : Str))] → FnAt l.prog w K mg base 19 W "_law_case" sgCase := fun W w1 w2 w3 => by
    have B : Bas K mg W := ⟨w1.symm, w2.symm, blt⟩
    have n_demand : FnAt l.prog w K mg base 3 W "demand" sgDemand := fnAt (ok_demand (m := 2) (j := 1) (k := 0) (Γ := gm [] []) B.hmg B.hK (B.glb (l := []) (c := []) trivial trivial) F_demand sc_demand T (ok_init F_init T sc_init 0 rfl) b_init rfl rfl (by decide) (by decide)) (PySem.W.mg_of X G a_demand) k_demand b_demand (fun ks z => by cases z)
    have n__law_taken : FnAt l.prog w K mg base 1 W "_law_taken" sgTaken := fnAt (ok_taken (m := 0) B.hmg B.hK F__law_taken sc__law_taken rfl rfl rfl rfl (blt _ (by decide)) (blt _ (by decide)) rfl) (PySem.W.mg_of X G a__law_taken) k__law_taken b__law_taken (fun ks z => by cases z)
    have n__law_alike : FnAt l.prog w K mg base 5 W "_law_alike" (sgAlike 4) := ok_alike B.hK B.hmg blt F__law_alike sc__law_alike ck__law_alike (PySem.W.mg_of X G a__law_alike) k__law_alike b__law_alike 4
    have q_MOST_PIECES : ConAt mg W "MOST_PIECES" (.int (8)) := con_int (PySem.W.mg_of X G v_MOST_PIECES)
    have q_MOST_TIES : ConAt mg W "MOST_TIES" (.int (14)) := con_int (PySem.W.mg_of X G v_MOST_TIES)
    have n_is_integer : FnAt l.prog w K mg base 1 W "is_integer" sg_is_integer := ok_is_integer B   F_is_integer (PySem.W.mg_of X G a_is_integer) k_is_integer b_is_integer (fun ks z => by cases z)
    have n_is_tuple : FnAt l.prog w K mg base 1 W "is_tuple" sg_is_tuple := ok_is_tuple B   F_is_tuple (PySem.W.mg_of X G a_is_tuple) k_is_tuple b_is_tuple (fun ks z => by cases z)
    have n_is_flag : FnAt l.prog w K mg base 1 W "is_flag" sg_is_flag := ok_is_flag B   F_is_flag (PySem.W.mg_of X G a_is_flag) k_is_flag b_is_flag (fun ks z => by cases z)
    have n_spread : FnAt l.prog w K mg base 1 W "spread" sg_spread := ok_spread B   F_spread (PySem.W.mg_of X G a_spread) k_spread b_spread (fun ks z => by cases z)
    have n_goes_round : FnAt l.prog w K mg base 1 W "goes_round" sg_goes_round := ok_goes_round B   F_goes_round (PySem.W.mg_of X G a_goes_round) k_goes_round b_goes_round (fun ks z => by cases z)
    have n__law_ways : FnAt l.prog w K mg base 1 W "_law_ways" sg__law_ways := ok__law_ways B   F__law_ways (PySem.W.mg_of X G a__law_ways) k__law_ways b__law_ways (fun ks z => by cases z)
    have n__law_round : FnAt l.prog w K mg base 1 W "_law_round" sg__law_round := ok__law_round B   F__law_round (PySem.W.mg_of X G a__law_round) k__law_round b__law_round (fun ks z => by cases z)
    have n__law_groups : FnAt l.prog w K mg base 1 W "_law_groups" sg__law_groups := ok__law_groups B   F__law_groups (PySem.W.mg_of X G a__law_groups) k__law_groups b__law_groups (fun ks z => by cases z)
    have n_is_integers : FnAt l.prog w K mg base 2 W "is_integers" sg_is_integers := ok_is_integers B n_is_integer  F_is_integers (PySem.W.mg_of X G a_is_integers) k_is_integers b_is_integers (fun ks z => by cases z)
    have n_is_tie : FnAt l.prog w K mg base 2 W "is_tie" sg_is_tie := ok_is_tie B n_is_tuple n_is_flag n_is_integer  F_is_tie (PySem.W.mg_of X G a_is_tie) k_is_tie b_is_tie (fun ks z => by cases z)
    have n_first_odd : FnAt l.prog w K mg base 2 W "first_odd" sg_first_odd := ok_first_odd B n_spread  F_first_odd (PySem.W.mg_of X G a_first_odd) k_first_odd b_first_odd (fun ks z => by cases z)
    have n__law_pick : FnAt l.prog w K mg base 2 W "_law_pick" sgPick := ok__law_pick B n__law_taken  F__law_pick (PySem.W.mg_of X G a__law_pick) k__law_pick b__law_pick (fun ks z => by cases z)
    have n__law_facing : FnAt l.prog w K mg base 2 W "_law_facing" sg__law_facing := ok__law_facing B n__law_taken  F__law_facing (PySem.W.mg_of X G a__law_facing) k__law_facing b__law_facing (fun ks z => by cases z)
    have n__law_cut : FnAt l.prog w K mg base 2 W "_law_cut" sg__law_cut := ok__law_cut B n__law_ways  F__law_cut (PySem.W.mg_of X G a__law_cut) k__law_cut b__law_cut (fun ks z => by cases z)
    have n_is_facing : FnAt l.prog w K mg base 3 W "is_facing" sg_is_facing := ok_is_facing B n_is_tuple n_is_integer n_is_tie q_MOST_PIECES q_MOST_TIES F_is_facing (PySem.W.mg_of X G a_is_facing) k_is_facing b_is_facing (fun ks z => by cases z)
    have n_lying : FnAt l.prog w K mg base 4 W "lying" sg_lying := ok_lying B n_demand n_is_facing n_first_odd n_spread  F_lying (PySem.W.mg_of X G a_lying) k_lying b_lying (fun ks z => by cases z)
    have n_is_lying : FnAt l.prog w K mg base 4 W "is_lying" sg_is_lying := ok_is_lying B n_demand n_is_facing n_is_integers  F_is_lying (PySem.W.mg_of X G a_is_lying) k_is_lying b_is_lying (fun ks z => by cases List.mem_singleton.mp z; exact kb_of (m := 1) rfl (by decide) (fun us ws hu hw => by obtain ⟨a, rfl⟩ := len1 hu; obtain ⟨w, rfl⟩ := len1 hw; rfl))
    have n_odd_round : FnAt l.prog w K mg base 4 W "odd_round" sg_odd_round := ok_odd_round B n_demand n_first_odd n_is_facing n_spread  F_odd_round (PySem.W.mg_of X G a_odd_round) k_odd_round b_odd_round (fun ks z => by cases z)
    have n_is_odd_round : FnAt l.prog w K mg base 4 W "is_odd_round" sg_is_odd_round := ok_is_odd_round B n_demand n_is_facing n_is_tuple n_is_integers n_goes_round  F_is_odd_round (PySem.W.mg_of X G a_is_odd_round) k_is_odd_round b_is_odd_round (fun ks z => by cases z)
    have n_ways_to_lie : FnAt l.prog w K mg base 4 W "ways_to_lie" sg_ways_to_lie := ok_ways_to_lie B n_demand n_is_facing n_first_odd n_spread  F_ways_to_lie (PySem.W.mg_of X G a_ways_to_lie) k_ways_to_lie b_ways_to_lie (fun ks z => by cases z)
    have n_tied : FnAt l.prog w K mg base 4 W "tied" sg_tied := ok_tied B n_demand n_spread n_is_integer n_is_facing n_first_odd  F_tied (PySem.W.mg_of X G a_tied) k_tied b_tied (fun ks z => by cases List.mem_singleton.mp z; exact kb_of (m := 2) rfl (by decide) (fun us ws hu hw => by obtain ⟨a, b, rfl⟩ := len2 hu; obtain ⟨w, rfl⟩ := len1 hw; rfl))
    have n__law_judged : FnAt l.prog w K mg base 5 W "_law_judged" sg__law_judged := ok__law_judged B n__law_pick n_is_lying n_is_odd_round n__law_taken n__law_round  F__law_judged (PySem.W.mg_of X G a__law_judged) k__law_judged b__law_judged (fun ks z => by cases z)
    have n__law_tied : FnAt l.prog w K mg base 8 W "_law_tied" sg__law_tied := ok__law_tied B n__law_taken n__law_alike n_tied  l__law_tied c__law_tied (fun A outer s H E => ⟨c0_0, Pt_0, f__law_refused, C, _, _, _, _, _, _, _, _, _, _, _, _, _, rfl, TB _ List.mem_cons_self, by rw [w3]; exact List.mem_cons_self, fun p hp he => by rw [w3] at hp; rcases List.mem_cons.mp hp with rfl | hp; (rfl); (cases List.mem_singleton.mp hp; exact absurd he (Ne.symm hPne)), PySem.W.mg_of X G a__law_refused, k__law_refused, l__law_refused, c__law_refused, b__law_refused, sc__law_refused, T.gC, refused_gives (W := W) w1.symm w2.symm T rfl rfl⟩) (PySem.W.mg_of X G a__law_tied) k__law_tied b__law_tied
    have n_chosen : FnAt l.prog w K mg base 15 W "chosen" (sg_chosen 14) := ok_chosen B  F_chosen (PySem.W.mg_of X G a_chosen) k_chosen b_chosen 14
    have n_subsets : FnAt l.prog w K mg base 16 W "subsets" sg_subsets := ok_subsets B n_demand n_is_integer n_chosen q_MOST_TIES F_subsets (PySem.W.mg_of X G a_subsets) k_subsets b_subsets (fun ks z => by cases List.mem_singleton.mp z; exact kb_of (m := 1) rfl (by decide) (fun us ws hu hw => by obtain ⟨a, rfl⟩ := len1 hu; obtain ⟨w, rfl⟩ := len1 hw; rfl))
    have n_fewest_cut : FnAt l.prog w K mg base 16 W "fewest_cut" sg_fewest_cut := ok_fewest_cut B n_demand n_is_facing n_chosen n_first_odd  F_fewest_cut (PySem.W.mg_of X G a_fewest_cut) k_fewest_cut b_fewest_cut (fun ks z => by cases z)
    have n__law_case : FnAt l.prog w K mg base 19 W "_law_case" sgCase := ok__law_case B n__law_facing n__law_pick n__law_ways n__law_groups n_lying n_odd_round n__law_taken n__law_alike n__law_tied n__law_judged n_subsets n_is_facing n_ways_to_lie n__law_round n_is_odd_round n_fewest_cut n__law_cut  l__law_case c__law_case (fun A outer s H E => ⟨c0_1, Pt_1, f__law_refused, C, _, _, _, _, _, _, _, _, _, _, _, _, _, rfl, TB _ (List.mem_cons_of_mem _ List.mem_cons_self), by rw [w3]; exact (List.mem_cons_of_mem _ List.mem_cons_self), fun p hp he => by rw [w3] at hp; rcases List.mem_cons.mp hp with rfl | hp; (exact absurd he hPne); (cases List.mem_singleton.mp hp; rfl), PySem.W.mg_of X G a__law_refused, k__law_refused, l__law_refused, c__law_refused, b__law_refused, sc__law_refused, T.gC, refused_gives (W := W) w1.symm w2.symm T rfl rfl⟩) (PySem.W.mg_of X G a__law_case) k__law_case b__law_case
    exact n__law_case
  exact ok_law (n := 4) (k := 19) (m := 19) (by decide) (by decide) blt F_law sc_law rfl rfl (by decide +kernel) (by decide) (by decide) hcase (Nat.le_refl _)
end Dl
open PySem PySem.W PyProof.Rows
set_option maxHeartbeats 0 in
theorem PySem.Challenge.cw_clothlay_k04_whole_ways_of_pieces_holds : PySem.Challenge.rw_clothlay_k04_whole_ways_of_pieces.Holds := by
  w_on; o_law; k_head; (case hw => w_witness2)
  k_fill
  refine LamX.walk_ofTs (l := PySem.Challenge.rw_clothlay_k04_whole_ways_of_pieces) (n := 63) (k := 20) (x := "script") (CX := fun w => L2.CX (PySem.Challenge.rw_clothlay_k04_whole_ways_of_pieces).prog w) rfl (by decide) rfl ⟨rfl, by decide, by decide⟩ (fun w h Y => PySem.W.km_in_of Y) ?F (fun _ _ _ _ _ h => Dl.no_exc h)
  case F =>
    intro w mg fa h Y KX G hmg
    refine' Dl.all_mk (Pt_0 := 201) (Pt_1 := 216) KX G hmg ?aC ?xL ?sa ?nb ?iC ?tI ?kC ?eC ?tC ?xfC ?icC ?sC ?l_init ?c_init ?k_init ?a_demand ?l_demand ?c_demand ?k_demand ?a__law_taken ?l__law_taken ?c__law_taken ?k__law_taken ?a__law_refused ?l__law_refused ?c__law_refused ?k__law_refused ?a__law_alike ?l__law_alike ?c__law_alike ?k__law_alike ?a_is_integer ?l_is_integer ?c_is_integer ?k_is_integer ?a_is_tuple ?l_is_tuple ?c_is_tuple ?k_is_tuple ?a_is_flag ?l_is_flag ?c_is_flag ?k_is_flag ?a_spread ?l_spread ?c_spread ?k_spread ?a_goes_round ?l_goes_round ?c_goes_round ?k_goes_round ?a__law_ways ?l__law_ways ?c__law_ways ?k__law_ways ?a__law_round ?l__law_round ?c__law_round ?k__law_round ?a__law_groups ?l__law_groups ?c__law_groups ?k__law_groups ?a_is_integers ?l_is_integers ?c_is_integers ?k_is_integers ?a_is_tie ?l_is_tie ?c_is_tie ?k_is_tie ?a_first_odd ?l_first_odd ?c_first_odd ?k_first_odd ?a__law_pick ?l__law_pick ?c__law_pick ?k__law_pick ?a__law_facing ?l__law_facing ?c__law_facing ?k__law_facing ?a__law_cut ?l__law_cut ?c__law_cut ?k__law_cut ?a_is_facing ?l_is_facing ?c_is_facing ?k_is_facing ?a_lying ?l_lying ?c_lying ?k_lying ?a_is_lying ?l_is_lying ?c_is_lying ?k_is_lying ?a_odd_round ?l_odd_round ?c_odd_round ?k_odd_round ?a_is_odd_round ?l_is_odd_round ?c_is_odd_round ?k_is_odd_round ?a_ways_to_lie ?l_ways_to_lie ?c_ways_to_lie ?k_ways_to_lie ?a_tied ?l_tied ?c_tied ?k_tied ?a__law_judged ?l__law_judged ?c__law_judged ?k__law_judged ?a__law_tied ?l__law_tied ?c__law_tied ?k__law_tied ?a_chosen ?l_chosen ?c_chosen ?k_chosen ?a_subsets ?l_subsets ?c_subsets ?k_subsets ?a_fewest_cut ?l_fewest_cut ?c_fewest_cut ?k_fewest_cut ?a__law_case ?l__law_case ?c__law_case ?k__law_case ?a_law ?l_law ?c_law ?k_law ?v_MOST_PIECES ?v_MOST_TIES ?y_len ?y_all ?y_any ?y_sum ?y_max ?y_min ?y_abs ?y_int ?y_bool ?y_str ?y_tuple ?y_list ?y_sorted ?y_isinstance ?y_range ?y_enumerate ?y_zip ?y_set (PySem.W.km_tabs_of Y _ (by simp)) ?nT_0 ?hcd_0 (PySem.W.km_tabs_of Y _ (by simp)) ?nT_1 ?hcd_1 (by decide)
    (case aC => k_is)
    (case xL => k_is)
    (case sa => k_is)
    (case nb => k_is)
    (case iC => k_is)
    (case tI => k_is)
    (case kC => k_is)
    (case eC => k_is)
    (case tC => k_is)
    (case xfC => first | rfl | k_is)
    (case icC => k_is)
    (case sC => first | rfl | k_is)
    (case l_init => k_is)
    (case c_init => k_is)
    (case k_init => k_is)
    (case a_demand => k_is)
    (case l_demand => k_is)
    (case c_demand => k_is)
    (case k_demand => k_is)
    (case a__law_taken => k_is)
    (case l__law_taken => k_is)
    (case c__law_taken => k_is)
    (case k__law_taken => k_is)
    (case a__law_refused => k_is)
    (case l__law_refused => k_is)
    (case c__law_refused => k_is)
    (case k__law_refused => k_is)
    (case a__law_alike => k_is)
    (case l__law_alike => k_is)
    (case c__law_alike => k_is)
    (case k__law_alike => k_is)
    (case a_is_integer => k_is)
    (case l_is_integer => k_is)
    (case c_is_integer => k_is)
    (case k_is_integer => k_is)
    (case a_is_tuple => k_is)
    (case l_is_tuple => k_is)
    (case c_is_tuple => k_is)
    (case k_is_tuple => k_is)
    (case a_is_flag => k_is)
    (case l_is_flag => k_is)
    (case c_is_flag => k_is)
    (case k_is_flag => k_is)
    (case a_spread => k_is)
    (case l_spread => k_is)
    (case c_spread => k_is)
    (case k_spread => k_is)
    (case a_goes_round => k_is)
    (case l_goes_round => k_is)
    (case c_goes_round => k_is)
    (case k_goes_round => k_is)
    (case a__law_ways => k_is)
    (case l__law_ways => k_is)
    (case c__law_ways => k_is)
    (case k__law_ways => k_is)
    (case a__law_round => k_is)
    (case l__law_round => k_is)
    (case c__law_round => k_is)
    (case k__law_round => k_is)
    (case a__law_groups => k_is)
    (case l__law_groups => k_is)
    (case c__law_groups => k_is)
    (case k__law_groups => k_is)
    (case a_is_integers => k_is)
    (case l_is_integers => k_is)
    (case c_is_integers => k_is)
    (case k_is_integers => k_is)
    (case a_is_tie => k_is)
    (case l_is_tie => k_is)
    (case c_is_tie => k_is)
    (case k_is_tie => k_is)
    (case a_first_odd => k_is)
    (case l_first_odd => k_is)
    (case c_first_odd => k_is)
    (case k_first_odd => k_is)
    (case a__law_pick => k_is)
    (case l__law_pick => k_is)
    (case c__law_pick => k_is)
    (case k__law_pick => k_is)
    (case a__law_facing => k_is)
    (case l__law_facing => k_is)
    (case c__law_facing => k_is)
    (case k__law_facing => k_is)
    (case a__law_cut => k_is)
    (case l__law_cut => k_is)
    (case c__law_cut => k_is)
    (case k__law_cut => k_is)
    (case a_is_facing => k_is)
    (case l_is_facing => k_is)
    (case c_is_facing => k_is)
    (case k_is_facing => k_is)
    (case a_lying => k_is)
    (case l_lying => k_is)
    (case c_lying => k_is)
    (case k_lying => k_is)
    (case a_is_lying => k_is)
    (case l_is_lying => k_is)
    (case c_is_lying => k_is)
    (case k_is_lying => k_is)
    (case a_odd_round => k_is)
    (case l_odd_round => k_is)
    (case c_odd_round => k_is)
    (case k_odd_round => k_is)
    (case a_is_odd_round => k_is)
    (case l_is_odd_round => k_is)
    (case c_is_odd_round => k_is)
    (case k_is_odd_round => k_is)
    (case a_ways_to_lie => k_is)
    (case l_ways_to_lie => k_is)
    (case c_ways_to_lie => k_is)
    (case k_ways_to_lie => k_is)
    (case a_tied => k_is)
    (case l_tied => k_is)
    (case c_tied => k_is)
    (case k_tied => k_is)
    (case a__law_judged => k_is)
    (case l__law_judged => k_is)
    (case c__law_judged => k_is)
    (case k__law_judged => k_is)
    (case a__law_tied => k_is)
    (case l__law_tied => k_is)
    (case c__law_tied => k_is)
    (case k__law_tied => k_is)
    (case a_chosen => k_is)
    (case l_chosen => k_is)
    (case c_chosen => k_is)
    (case k_chosen => k_is)
    (case a_subsets => k_is)
    (case l_subsets => k_is)
    (case c_subsets => k_is)
    (case k_subsets => k_is)
    (case a_fewest_cut => k_is)
    (case l_fewest_cut => k_is)
    (case c_fewest_cut => k_is)
    (case k_fewest_cut => k_is)
    (case a__law_case => k_is)
    (case l__law_case => k_is)
    (case c__law_case => k_is)
    (case k__law_case => k_is)
    (case a_law => k_is)
    (case l_law => k_is)
    (case c_law => k_is)
    (case k_law => k_is)
    (case v_MOST_PIECES => k_is)
    (case v_MOST_TIES => k_is)
    (case y_len => k_is)
    (case y_all => k_is)
    (case y_any => k_is)
    (case y_sum => k_is)
    (case y_max => k_is)
    (case y_min => k_is)
    (case y_abs => k_is)
    (case y_int => k_is)
    (case y_bool => k_is)
    (case y_str => k_is)
    (case y_tuple => k_is)
    (case y_list => k_is)
    (case y_sorted => k_is)
    (case y_isinstance => k_is)
    (case y_range => k_is)
    (case y_enumerate => k_is)
    (case y_zip => k_is)
    (case y_set => k_is)
    (case nT_0 => first | rfl | k_is)
    (case hcd_0 => first | rfl | k_is)
    (case nT_1 => first | rfl | k_is)
    (case hcd_1 => first | rfl | k_is)
