import PyProof.Rows.All
import Wide.All
import OpenK.AllK
import Wide.FinOn
import PyProof.EqAt
import PyProof.EqKinds
import PyProof.TupleCall
import HandS.ForMost
import HandS.Exc
import HandS.TryOnly
import HandS.ExcOwn
import HandS.WordsExc
import HandS.Walk
import HandS.Zip
import HandS.Conv
import HandS.IsInst
import HandS.Wide
import HandS.Lambda
import HandS.EndTab
import KE.DataEq
import PyProof.StrOps2
import HandS.TupMul
import HandS.Style
import HandS.Deep
import HandS.TupAny
import HandS.TupLe
import KE.KTupSum
import KE.DataMinMax
import HandS.SortInts
import HandS.TupSets
import KE.IntTextLaws
import KE.KIntText
import HandS.SetFor
import HandS.StrMore
import HandS.MapJoin
import HandS.Strs
import KE.KeyNested
import HandS.Flow
import KE.GoesMore
import KE.GoesEnum
import KE.GoesZip
import HandS.Iter
import HandS.More
import HandS.ExcInit
import HandS.ExcField
import KE.IntTextText
import PySem.Challenge.RW_clothlay_k17_whole_places_of_pieces
set_option Elab.async false
set_option linter.all false
set_option maxRecDepth 100000
set_option maxHeartbeats 4000000
/-! the data layer, part 1: data in the frozen part of the abstract heap -/
namespace Dl
open PySem PySem.Spec PyProof.Rows L2

abbrev D := PyData

/-- a tuple that stands: tracked, or the module's own -/
def TupAt (K : PySem.W.Frag) (F : Hp) (a : Addr) (xs : List V) : Prop :=
  F a = some (.tup xs) ∨
    ∃ (o : Obj) (its : Array Value) (n : Nat), K.lookup a = some o ∧ o.cls = .type "tuple" ∧ o.data = .seq its n ∧ its.size ≤ sizeLine ∧ Vals xs its.toList

mutual
inductive Dat (K : PySem.W.Frag) (F : Hp) : V → D → Prop
  | non : Dat K F .non .none
  | bl (b : Bool) : Dat K F (.bl b) (.bool b)
  | int (i : Int) : Dat K F (.int i) (.int i)
  | str (x : Str) : PyData.strOk x = true → Dat K F (.str x) (.str x)
  | lst {a : Addr} {xs : List V} {ds : List D} : F a = some (.lst xs) → Dats K F xs ds → ds.length ≤ 16777216 → Dat K F (.ref a) (.list ds)
  | tup {a : Addr} {xs : List V} {ds : List D} : TupAt K F a xs → Dats K F xs ds → ds.length ≤ 16777216 → Dat K F (.ref a) (.tuple ds)
inductive Dats (K : PySem.W.Frag) (F : Hp) : List V → List D → Prop
  | nil : Dats K F [] []
  | cons {v : V} {vs : List V} {d : D} {ds : List D} : Dat K F v d → Dats K F vs ds → Dats K F (v :: vs) (d :: ds)
end

section
variable {K : PySem.W.Frag} {F F' H H' : Hp}
theorem TupAt.mono {a : Addr} {xs : List V} (h : TupAt K F a xs) (s : Same F F') : TupAt K F' a xs := by
  rcases h with h | h
  · exact .inl (s _ _ h)
  · exact .inr h
theorem TupAt.seq {a : Addr} {xs : List V} (h : TupAt K F a xs) : SqT K F a xs := by
  rcases h with h | h
  · exact .inl (.inl h)
  · exact .inr h
mutual
theorem Dat.mono (s : Same F F') : ∀ (d : D) (v : V), Dat K F v d → Dat K F' v d
  | .none, v, h => by cases h; exact .non
  | .bool _, v, h => by cases h; exact .bl _
  | .int _, v, h => by cases h; exact .int _
  | .str _, v, h => by cases h with | str _ k => exact .str _ k
  | .list ds, v, h => by cases h with | lst e k z => exact .lst (s _ _ e) (Dats.mono s ds _ k) z
  | .tuple ds, v, h => by cases h with | tup e k z => exact .tup (e.mono s) (Dats.mono s ds _ k) z
  | .dict _, v, h => by cases h
theorem Dats.mono (s : Same F F') : ∀ (ds : List D) (vs : List V), Dats K F vs ds → Dats K F' vs ds
  | [], vs, h => by cases h; exact .nil
  | d :: ds, vs, h => by cases h with | cons a b => exact .cons (Dat.mono s d _ a) (Dats.mono s ds _ b)
end
mutual
theorem Dat.dp : ∀ (d : D) (v : V), Dat K F v d → Dp K F v d
  | .none, v, h => by cases h; exact .non
  | .bool _, v, h => by cases h; exact .bl _
  | .int _, v, h => by cases h; exact .int _
  | .str _, v, h => by cases h; exact .str _
  | .list ds, v, h => by cases h with | lst e k _ => exact .lst (.inl (.inl e)) (Dats.dp ds _ k)
  | .tuple ds, v, h => by cases h with | tup e k _ => exact .tup e.seq (Dats.dp ds _ k)
  | .dict _, v, h => by cases h
theorem Dats.dp : ∀ (ds : List D) (vs : List V), Dats K F vs ds → DpAll K F vs ds
  | [], vs, h => by cases h; exact .nil
  | d :: ds, vs, h => by cases h with | cons a b => exact .cons (Dat.dp d _ a) (Dats.dp ds _ b)
end
mutual
theorem Dat.canLay : ∀ (d : D) (v : V), Dat K F v d → d.canLay0 = true
  | .none, v, h => rfl
  | .bool _, v, h => rfl
  | .int _, v, h => rfl
  | .str _, v, h => by cases h with | str _ k => simpa [PyData.canLay0] using k
  | .list ds, v, h => by cases h with | lst e k _ => simpa [PyData.canLay0] using Dats.canLay ds _ k
  | .tuple ds, v, h => by cases h with | tup e k _ => simpa [PyData.canLay0] using Dats.canLay ds _ k
  | .dict _, v, h => by cases h
theorem Dats.canLay : ∀ (ds : List D) (vs : List V), Dats K F vs ds → PyData.canLayAll0 ds = true
  | [], vs, h => rfl
  | d :: ds, vs, h => by cases h with | cons a b => simp [PyData.canLayAll0, Dat.canLay d _ a, Dats.canLay ds _ b]
end
theorem Dats.length : ∀ {ds : List D} {vs : List V}, Dats K F vs ds → vs.length = ds.length
  | [], vs, h => by cases h; rfl
  | d :: ds, vs, h => by cases h with | cons a b => simp [Dats.length b]
theorem Dats.get : ∀ {ds : List D} {vs : List V} {i : Nat} {d : D}, Dats K F vs ds → ds[i]? = some d → ∃ v, vs[i]? = some v ∧ Dat K F v d
  | [], vs, i, d, h, e => by simp at e
  | d :: ds, vs, 0, d', h, e => by cases h with | cons a b => exact ⟨_, rfl, by simp at e; subst e; exact a⟩
  | d :: ds, vs, i + 1, d', h, e => by
    cases h with
    | cons a b =>
      obtain ⟨v, e1, e2⟩ := Dats.get (i := i) (d := d') b (by simpa using e)
      exact ⟨v, by simpa using e1, e2⟩
theorem Dats.getV : ∀ {ds : List D} {vs : List V} {i : Nat} {v : V}, Dats K F vs ds → vs[i]? = some v → ∃ d, ds[i]? = some d ∧ Dat K F v d
  | [], vs, i, v, h, e => by cases h; simp at e
  | d :: ds, vs, 0, v, h, e => by cases h with | cons a b => exact ⟨_, rfl, by simp at e; subst e; exact a⟩
  | d :: ds, vs, i + 1, v, h, e => by
    cases h with
    | cons a b =>
      obtain ⟨d', e1, e2⟩ := Dats.getV (i := i) (v := v) b (by simpa using e)
      exact ⟨d', by simpa using e1, e2⟩
theorem Dats.append : ∀ {ds ds' : List D} {vs vs' : List V}, Dats K F vs ds → Dats K F vs' ds' → Dats K F (vs ++ vs') (ds ++ ds')
  | [], ds', vs, vs', h, k => by cases h; exact k
  | d :: ds, ds', vs, vs', h, k => by cases h with | cons a b => exact .cons a (Dats.append b k)
theorem Dats.take : ∀ {ds : List D} {vs : List V} (n : Nat), Dats K F vs ds → Dats K F (vs.take n) (ds.take n)
  | _, _, 0, _ => by simp; exact .nil
  | [], vs, n + 1, h => by cases h; exact .nil
  | d :: ds, vs, n + 1, h => by cases h with | cons a b => exact .cons a (Dats.take n b)
theorem Dats.drop : ∀ {ds : List D} {vs : List V} (n : Nat), Dats K F vs ds → Dats K F (vs.drop n) (ds.drop n)
  | _, _, 0, h => h
  | [], vs, n + 1, h => by cases h; exact .nil
  | d :: ds, vs, n + 1, h => by cases h with | cons a b => exact Dats.drop n b
theorem Dats.set {v : V} {d : D} (r : Dat K F v d) : ∀ {ds : List D} {vs : List V} (i : Nat), Dats K F vs ds → Dats K F (vs.set i v) (ds.set i d)
  | [], vs, _, h => by cases h; exact .nil
  | d :: ds, vs, 0, h => by cases h with | cons a b => exact .cons r b
  | d :: ds, vs, i + 1, h => by cases h with | cons a b => exact .cons a (Dats.set r i b)
theorem Dats.one {v : V} {d : D} (r : Dat K F v d) : Dats K F [v] [d] := .cons r .nil
theorem Dats.reverse : ∀ {ds : List D} {vs : List V}, Dats K F vs ds → Dats K F vs.reverse ds.reverse
  | [], vs, h => by cases h; exact .nil
  | d :: ds, vs, h => by
    cases h with
    | cons a b => rw [List.reverse_cons, List.reverse_cons]; exact Dats.append (Dats.reverse b) (.one a)
theorem Dats.dropLast {ds : List D} {vs : List V} (h : Dats K F vs ds) : Dats K F vs.dropLast ds.dropLast := by
  rw [List.dropLast_eq_take, List.dropLast_eq_take, h.length]
  exact h.take _
theorem Dats.eraseIdx {ds : List D} {vs : List V} (i : Nat) (h : Dats K F vs ds) : Dats K F (vs.eraseIdx i) (ds.eraseIdx i) := by
  rw [List.eraseIdx_eq_take_drop_succ, List.eraseIdx_eq_take_drop_succ]
  exact (h.take _).append (h.drop _)
theorem Dats.replicate {v : V} {d : D} (r : Dat K F v d) : ∀ n, Dats K F (List.replicate n v) (List.replicate n d)
  | 0 => .nil
  | n + 1 => .cons r (Dats.replicate r n)
theorem Dats.flat {ds : List D} {vs : List V} (h : Dats K F vs ds) : ∀ n : Nat, Dats K F (List.replicate n vs).flatten (List.replicate n ds).flatten
  | 0 => .nil
  | n + 1 => by simpa [List.replicate_succ] using h.append (Dats.flat h n)
theorem Dats.ints : ∀ {ns : List Int} {vs : List V}, Dats K F vs (ns.map .int) → vs = ns.map V.int
  | [], vs, h => by cases h; rfl
  | n :: ns, vs, h => by cases h with | cons a b => cases a; rw [Dats.ints b]; rfl
theorem Dats.ofInts : ∀ (ns : List Int), Dats K F (ns.map V.int) (ns.map .int)
  | [] => .nil
  | n :: ns => .cons (.int n) (Dats.ofInts ns)
theorem Dats.bools : ∀ {ns : List Bool} {vs : List V}, Dats K F vs (ns.map .bool) → vs = ns.map V.bl
  | [], vs, h => by cases h; rfl
  | n :: ns, vs, h => by cases h with | cons a b => cases a; rw [Dats.bools b]; rfl
end

/-- the ints of a list of data, if all are -/
def intsOf : List D → Option (List Int)
  | [] => some []
  | .int i :: r => (intsOf r).map (i :: ·)
  | _ :: _ => none
theorem intsOf_map : ∀ ns : List Int, intsOf (ns.map .int) = some ns
  | [] => rfl
  | n :: r => by simp [intsOf, intsOf_map r]
theorem intsOf_eq : ∀ {ds : List D} {ns : List Int}, intsOf ds = some ns → ds = ns.map .int
  | [], ns, h => by simp [intsOf] at h; subst h; rfl
  | .int i :: r, ns, h => by
    simp only [intsOf, Option.map_eq_some_iff] at h
    obtain ⟨l, h1, rfl⟩ := h
    rw [intsOf_eq h1]; rfl
  | .none :: r, ns, h => by simp [intsOf] at h
  | .bool _ :: r, ns, h => by simp [intsOf] at h
  | .str _ :: r, ns, h => by simp [intsOf] at h
  | .list _ :: r, ns, h => by simp [intsOf] at h
  | .tuple _ :: r, ns, h => by simp [intsOf] at h
  | .dict _ :: r, ns, h => by simp [intsOf] at h
def boolsOf : List D → Option (List Bool)
  | [] => some []
  | .bool i :: r => (boolsOf r).map (i :: ·)
  | _ :: _ => none
theorem boolsOf_map : ∀ ns : List Bool, boolsOf (ns.map .bool) = some ns
  | [] => rfl
  | n :: r => by simp [boolsOf, boolsOf_map r]
theorem boolsOf_eq : ∀ {ds : List D} {ns : List Bool}, boolsOf ds = some ns → ds = ns.map .bool
  | [], ns, h => by simp [boolsOf] at h; subst h; rfl
  | .bool i :: r, ns, h => by
    simp only [boolsOf, Option.map_eq_some_iff] at h
    obtain ⟨l, h1, rfl⟩ := h
    rw [boolsOf_eq h1]; rfl
  | .none :: r, ns, h => by simp [boolsOf] at h
  | .int _ :: r, ns, h => by simp [boolsOf] at h
  | .str _ :: r, ns, h => by simp [boolsOf] at h
  | .list _ :: r, ns, h => by simp [boolsOf] at h
  | .tuple _ :: r, ns, h => by simp [boolsOf] at h
  | .dict _ :: r, ns, h => by simp [boolsOf] at h

/-! ### the world of a law: its written part, the row, the script, the tables -/
structure Wd where
  K : PySem.W.Frag
  mg : Str → Option Value
  R : Addr
  S : Addr
  T : List (Addr × Str)

/-- the script's list: as it stands beside the row, or in the written part -/
def SqS (K : PySem.W.Frag) (H : Hp) (S R : Addr) (xs : List V) : Prop :=
  (Rd H S (.lst xs) ∧ S ≠ R) ∨ ∃ (o : Obj) (its : Array Value) (n : Nat), K.lookup S = some o ∧ o.cls = .type "list" ∧ o.dict = none ∧ o.data = .seq its n ∧ its.size ≤ sizeLine ∧ Vals xs its.toList
theorem SqS.sq {K : PySem.W.Frag} {H : Hp} {S R : Addr} {xs : List V} (h : SqS K H S R xs) : SqL K H S xs := h.elim (fun z => .inl z.1) .inr
theorem SqS.imp {K : PySem.W.Frag} {H H' : Hp} {S R : Addr} {xs : List V} (h : SqS K H S R xs) (k : ∀ o, H S = some o → (∀ ps, o ≠ .tbl ps) → S ≠ R → H' S = some o) : SqS K H' S R xs := by
  rcases h with ⟨h | ⟨o, h⟩, n⟩ | h
  · exact .inl ⟨.inl (k _ h (fun ps z => by cases z) n), n⟩
  · exact .inl ⟨.inr ⟨o, k _ h (fun ps z => by cases z) n⟩, n⟩
  · exact .inr h
/-- the row: the script, the number of the last cell, two numbers -/
def RowOk (W : Wd) (H : Hp) : Prop :=
  (∃ i s g : Int, H W.R = some (.lst [.ref W.S, .int i, .int s, .int g]) ∧ 0 ≤ i ∧ 0 ≤ s ∧ s < 2147483647 ∧ 0 ≤ g ∧ g < 10 ^ 90) ∧
  ∃ ns : List Int, SqS W.K H W.S W.R (ns.map V.int) ∧ ns.length ≤ 63 ∧ ∀ z ∈ ns, Builtin.Int.intBits z ≤ 1048576
def Good (W : Wd) (H : Hp) : Prop := RowOk W H ∧ LamX.Tabs W.T H
/-- the frozen part -/
structure FOk (W : Wd) (F H : Hp) : Prop where
  sub : Same F H
  imm : ∀ b o, F b = some o → (∃ xs, o = .lst xs) ∨ ∃ xs, o = .tup xs
  nr : F W.R = none
def nt (o : HO) : Prop := ∀ ps, o ≠ .tbl ps
/-- from (F, H) to (F', H'): what stood stands (but for the row and the tables), what is frozen now was frozen or is new -/
structure Ext (W : Wd) (F H F' H' : Hp) : Prop where
  keep : ∀ b o, H b = some o → nt o → b ≠ W.R → H' b = some o
  sub : Same F F'
  fr : ∀ b o, F b = none → H b = some o → nt o → F' b = none
  ok : FOk W F' H'
  gd : Good W H'

section
variable {W : Wd} {F H F' H' F'' H'' : Hp}
theorem Ext.refl (f : FOk W F H) (g : Good W H) : Ext W F H F H :=
  ⟨fun _ _ h _ _ => h, Same.refl _, fun _ _ h _ _ => h, f, g⟩
theorem Ext.trans (a : Ext W F H F' H') (b : Ext W F' H' F'' H'') : Ext W F H F'' H'' where
  keep := fun c o h n e => b.keep c o (a.keep c o h n e) n e
  sub := a.sub.trans b.sub
  fr := fun c o h1 h2 h3 => by
    by_cases hc : c = W.R
    · rw [hc]; exact b.ok.nr
    · exact b.fr c o (a.fr c o h1 h2 h3) (a.keep c o h2 h3 hc) h3
  ok := b.ok
  gd := b.gd
theorem Good.new {a : Addr} {o : HO} (g : Good W H) (n : H a = none) : Good W (upd H a o) := by
  obtain ⟨⟨⟨i, s, gg, e, hb⟩, ns, hs, hl⟩, t⟩ := g
  have sm : ∀ b u, H b = some u → upd H a o b = some u := fun b u e => by rw [upd_ne (ne_of_none e n)]; exact e
  exact ⟨⟨⟨i, s, gg, sm _ _ e, hb⟩, ns, hs.imp fun o h _ _ => sm _ _ h, hl⟩, t.ext sm⟩
theorem same_new {a : Addr} {o : HO} (n : H a = none) : Same H (upd H a o) := fun b u e => by rw [upd_ne (ne_of_none e n)]; exact e
theorem FOk.none {a : Addr} (f : FOk W F H) (n : H a = none) : F a = none := f.sub.free n
/-- a new object that isn't frozen -/
theorem Ext.new {a : Addr} {o : HO} (f : FOk W F H) (g : Good W H) (n : H a = none) : Ext W F H F (upd H a o) :=
  ⟨fun b u e _ _ => same_new n b u e, Same.refl _, fun _ _ h _ _ => h,
    ⟨f.sub.trans (same_new n), f.imm, f.nr⟩, g.new n⟩
theorem Good.nR (g : Good W H) : H W.R ≠ none := by
  obtain ⟨⟨⟨i, s, gg, e, _⟩, _⟩, _⟩ := g
  rw [e]; simp
/-- a new frozen list or tuple -/
theorem Ext.frz {a : Addr} {o : HO} (f : FOk W F H) (g : Good W H) (n : H a = none) (ho : (∃ xs, o = .lst xs) ∨ ∃ xs, o = .tup xs) : Ext W F H (upd F a o) (upd H a o) := by
  have nF := f.none n
  refine ⟨fun b u e _ _ => same_new n b u e, same_new nF, fun b o' h1 h2 _ => ?_, ⟨fun b u e => ?_, fun b u e => ?_, ?_⟩, g.new n⟩
  · have : b ≠ a := ne_of_none h2 n
    rw [upd_ne this]; exact h1
  · by_cases hb : b = a
    · subst hb; rw [upd_same] at e ⊢; exact e
    · rw [upd_ne hb] at e ⊢; exact f.sub _ _ e
  · by_cases hb : b = a
    · subst hb; rw [upd_same] at e; cases e; exact ho
    · rw [upd_ne hb] at e; exact f.imm _ _ e
  · have : W.R ≠ a := fun z => g.nR (z ▸ n)
    rw [upd_ne this]; exact f.nr
theorem Ext.lst {a : Addr} {xs : List V} (f : FOk W F H) (g : Good W H) (n : H a = none) : Ext W F H (upd F a (.lst xs)) (upd H a (.lst xs)) := .frz f g n (.inl ⟨_, rfl⟩)
theorem Ext.tup {a : Addr} {xs : List V} (f : FOk W F H) (g : Good W H) (n : H a = none) : Ext W F H (upd F a (.tup xs)) (upd H a (.tup xs)) := .frz f g n (.inr ⟨_, rfl⟩)
/-- an owned list is frozen from now on -/
theorem Ext.frzOwn {a : Addr} {xs : List V} (f : FOk W F H) (g : Good W H) (e : H a = some (.lst xs)) (nR : a ≠ W.R) : FOk W (upd F a (.lst xs)) H := by
  refine ⟨fun b u q => ?_, fun b u q => ?_, ?_⟩
  · by_cases hb : b = a
    · subst hb; rw [upd_same] at q; cases q; exact e
    · rw [upd_ne hb] at q; exact f.sub _ _ q
  · by_cases hb : b = a
    · subst hb; rw [upd_same] at q; cases q; exact .inl ⟨_, rfl⟩
    · rw [upd_ne hb] at q; exact f.imm _ _ q
  · rw [upd_ne (Ne.symm nR)]; exact f.nr
end

/-! ### a value that is read now: data, or an owned list -/
def Rdv (W : Wd) (F H : Hp) (v : V) (d : D) : Prop :=
  Dat W.K F v d ∨ ∃ a vs ds, v = .ref a ∧ d = .list ds ∧ H a = some (.lst vs) ∧ Dats W.K F vs ds ∧ F a = none ∧ a ≠ W.R ∧ ds.length ≤ 16777216
inductive Rdvs (W : Wd) (F H : Hp) : List V → List D → Prop
  | nil : Rdvs W F H [] []
  | cons {v : V} {vs : List V} {d : D} {ds : List D} : Rdv W F H v d → Rdvs W F H vs ds → Rdvs W F H (v :: vs) (d :: ds)
section
variable {W : Wd} {F H F' H' : Hp}
theorem Rdv.ext {v : V} {d : D} (r : Rdv W F H v d) (e : Ext W F H F' H') : Rdv W F' H' v d := by
  rcases r with r | ⟨a, vs, ds, h1, h2, h3, h4, h5, h6, h7⟩
  · exact .inl (r.mono e.sub)
  · exact .inr ⟨a, vs, ds, h1, h2, e.keep _ _ h3 (fun ps z => by cases z) h6, h4.mono e.sub, e.fr _ _ h5 h3 (fun ps z => by cases z), h6, h7⟩
theorem Rdvs.ext : ∀ {vs : List V} {ds : List D}, Rdvs W F H vs ds → Ext W F H F' H' → Rdvs W F' H' vs ds
  | _, _, .nil, _ => .nil
  | _, _, .cons r t, e => .cons (r.ext e) (t.ext e)
theorem Rdv.dp {v : V} {d : D} (f : FOk W F H) (r : Rdv W F H v d) : Dp W.K H v d := by
  rcases r with r | ⟨a, vs, ds, rfl, rfl, h3, h4, h5, h6, h7⟩
  · exact (r.mono f.sub).dp
  · exact .lst (.inl (.inl h3)) (h4.mono f.sub).dp
theorem Rdv.canLay {v : V} {d : D} (r : Rdv W F H v d) : d.canLay0 = true := by
  rcases r with r | ⟨a, vs, ds, rfl, rfl, h3, h4, h5, h6, h7⟩
  · exact r.canLay
  · simpa [PyData.canLay0] using h4.canLay
/-- a list that is read -/
theorem Rdv.lst {v : V} {ds : List D} (f : FOk W F H) (r : Rdv W F H v (.list ds)) : ∃ a vs, v = .ref a ∧ H a = some (.lst vs) ∧ Dats W.K F vs ds ∧ ds.length ≤ 16777216 := by
  rcases r with r | ⟨a, vs, ds', rfl, e, h3, h4, h5, h6, h7⟩
  · cases r with | lst e k z => exact ⟨_, _, rfl, f.sub _ _ e, k, z⟩
  · cases e; exact ⟨a, vs, rfl, h3, h4, h7⟩
theorem Rdv.tup {v : V} {ds : List D} (f : FOk W F H) (r : Rdv W F H v (.tuple ds)) : ∃ a vs, v = .ref a ∧ TupAt W.K H a vs ∧ Dats W.K F vs ds ∧ ds.length ≤ 16777216 := by
  rcases r with r | ⟨a, vs, ds', rfl, e, h3, h4, h5, h6, h7⟩
  · cases r with | tup e k z => exact ⟨_, _, rfl, e.mono f.sub, k, z⟩
  · cases e
theorem Rdv.int {v : V} {i : Int} (r : Rdv W F H v (.int i)) : v = .int i := by
  rcases r with r | ⟨a, vs, ds', rfl, e, h3, h4, h5, h6, h7⟩
  · cases r; rfl
  · cases e
theorem Rdv.bool {v : V} {i : Bool} (r : Rdv W F H v (.bool i)) : v = .bl i := by
  rcases r with r | ⟨a, vs, ds', rfl, e, h3, h4, h5, h6, h7⟩
  · cases r; rfl
  · cases e
theorem Rdv.none {v : V} (r : Rdv W F H v .none) : v = .non := by
  rcases r with r | ⟨a, vs, ds', rfl, e, h3, h4, h5, h6, h7⟩
  · cases r; rfl
  · cases e
theorem Rdv.str {v : V} {x : Str} (r : Rdv W F H v (.str x)) : v = .str x ∧ PyData.strOk x = true := by
  rcases r with r | ⟨a, vs, ds', rfl, e, h3, h4, h5, h6, h7⟩
  · cases r with | str _ k => exact ⟨rfl, k⟩
  · cases e
theorem Rdv.dict {v : V} {x : List (D × D)} (r : Rdv W F H v (.dict x)) : False := by
  rcases r with r | ⟨a, vs, ds', rfl, e, h3, h4, h5, h6, h7⟩
  · cases r
  · cases e
end

/-- what an operation gives: a new list (that may be owned), or any other data -/
def Res (W : Wd) (F H : Hp) (r : D) (Q : VK) : Prop :=
  match r with
  | .list xs => ∀ p vs, H p = none → Dats W.K F vs xs → xs.length ≤ 16777216 → Q (.ref p) (upd H p (.lst vs))
  | r => ∀ v F' H', Ext W F H F' H' → Dat W.K F' v r → Q v H'
section
variable {W : Wd} {F H : Hp} {Q : VK}
/-- wanted of frozen data alone -/
theorem Res.of {r : D} (f : FOk W F H) (g : Good W H) (h : ∀ v F' H', Ext W F H F' H' → Dat W.K F' v r → Q v H') : Res W F H r Q := by
  cases r with
  | list xs => exact fun p vs n d z => h _ _ _ (Ext.lst f g n) (.lst upd_same (d.mono (same_new (f.none n))) z)
  | none => exact h
  | bool _ => exact h
  | int _ => exact h
  | str _ => exact h
  | tuple _ => exact h
  | dict _ => exact h
theorem Res.int {i : Int} (f : FOk W F H) (g : Good W H) (h : Res W F H (.int i) Q) : Q (.int i) H := h _ _ _ (.refl f g) (.int i)
theorem Res.bool {i : Bool} (f : FOk W F H) (g : Good W H) (h : Res W F H (.bool i) Q) : Q (.bl i) H := h _ _ _ (.refl f g) (.bl i)
theorem Res.str {i : Str} (f : FOk W F H) (g : Good W H) (k : PyData.strOk i = true) (h : Res W F H (.str i) Q) : Q (.str i) H := h _ _ _ (.refl f g) (.str i k)
theorem Res.tup {p : Addr} {vs : List V} {ds : List D} (f : FOk W F H) (g : Good W H) (h : Res W F H (.tuple ds) Q) (n : H p = none) (d : Dats W.K F vs ds) (z : ds.length ≤ 16777216) : Q (.ref p) (upd H p (.tup vs)) :=
  h _ _ _ (Ext.tup f g n) (.tup (.inl upd_same) (d.mono (same_new (f.none n))) z)
theorem Res.dat {r : D} {v : V} (f : FOk W F H) (g : Good W H) (h : Res W F H r Q) (d : Dat W.K F v r) (nl : ∀ xs, r ≠ .list xs) : Q v H := by
  cases r with
  | list xs => exact absurd rfl (nl xs)
  | none => exact h _ _ _ (.refl f g) d
  | bool _ => exact h _ _ _ (.refl f g) d
  | int _ => exact h _ _ _ (.refl f g) d
  | str _ => exact h _ _ _ (.refl f g) d
  | tuple _ => exact h _ _ _ (.refl f g) d
  | dict _ => exact h _ _ _ (.refl f g) d
end
end Dl

set_option Elab.async false
set_option linter.all false
set_option maxRecDepth 100000
set_option maxHeartbeats 4000000
/-! the data layer, part 2: operations -/
namespace Dl
open PySem PySem.Spec PyProof.Rows L2

/-! ### more rules over values: tuple * 1, tuple * 0, sums and the like of tuples -/
theorem tuple_mul1 (l : Addr) (items : Array Value) (n : Nat) (sl : Array (Option Value)) (u : Tok) (dd : Option Addr) :
    Meets (Builtin.«tuple.__mul__» ⟨[.ref l, .int 1 u], []⟩) (fun _ R s => s.heap.get? l = some { cls := .type "tuple", dict := dd, data := .seq items n, slots := sl } ∧
      R (.ok (.ret (Value.ref l))) s) :=
  .of_wp fun prog w A R s h => by
    obtain ⟨hp, g, d, tk, os⟩ := s
    obtain ⟨hl, h⟩ := h
    have f1 := AutoSeq1.idx_int
    have c1 : (items.isEmpty || (1 : Int) == 1) = true := by simp
    wp_walk using wpAny_loadPart' hl
    repeat (first
      | (refine wpAny_ite_false (decide_eq_false (by decide)) ?_; wp_walk using wpAny_loadPart' hl)
      | (refine wpAny_ite_true (decide_eq_true c1) ?_; wp_walk using wpAny_loadPart' hl))
    all_goals first | exact ⟨_, rfl, h⟩ | exact h
theorem tuple_mul0 (l : Addr) (items : Array Value) (n : Nat) (sl : Array (Option Value)) (u : Tok) (dd : Option Addr) (hne : items.isEmpty = false) :
    Meets (Builtin.«tuple.__mul__» ⟨[.ref l, .int 0 u], []⟩) (fun _ R s => s.heap.get? l = some { cls := .type "tuple", dict := dd, data := .seq items n, slots := sl } ∧
      R (.ok (.ret (Value.ref s.heap.objs.size))) { s with heap := s.heap.push { cls := Value.type "tuple", data := Data.seq #[] }, toks := s.toks }) :=
  .of_wp fun prog w A R s h => by
    obtain ⟨hp, g, d, tk, os⟩ := s
    obtain ⟨hl, h⟩ := h
    have f1 := AutoSeq1.idx_int
    have c1 : (items.isEmpty || (0 : Int) == 1) = false := by rw [hne]; rfl
    have c2 : (decide ((0 : Int) ≤ 0) || items.isEmpty) = true := by simp
    wp_walk using wpAny_loadPart' hl
    repeat (first
      | (refine wpAny_ite_false (decide_eq_false (by decide)) ?_; wp_walk using wpAny_loadPart' hl)
      | (refine wpAny_ite_false (decide_eq_false (by rw [c1]; exact Bool.false_ne_true)) ?_; wp_walk using wpAny_loadPart' hl)
      | (refine wpAny_ite_true (decide_eq_true c2) ?_; wp_walk using wpAny_loadPart' hl))
    all_goals first | exact ⟨_, rfl, h⟩ | exact h
section
variable {X : Cx}
def rRepT0 (K : PySem.W.Frag) : R2 := fun x y H Q => ∃ l xs, x = .ref l ∧ y = .int 0 ∧ SqT K H l xs ∧ xs ≠ [] ∧ ∀ p, H p = none → Q (.ref p) (upd H p (.tup []))
theorem op_repT0 : OpR X (binaryOp .Mult) (rRepT0 X.K) := by
  intro pins s σ H x y v u Q I rx ry h
  obtain ⟨l, xs, rfl, rfl, hT, hne, q⟩ := h
  cases rx
  obtain ⟨t, rfl⟩ := ry
  obtain ⟨its, r, ⟨⟨cls, dd, data, sl⟩, ho, hc, n, hd⟩, hs⟩ := I.tuple hT
  simp only at hc hd
  subst hc hd
  have hle : its.length = xs.length := r.length.symm
  have hi : its.toArray.isEmpty = false := by
    cases its with
    | nil => exact absurd (List.eq_nil_of_length_eq_zero hle.symm) hne
    | cons a b => rfl
  refine wpAny_binaryOp_repeat_ref (T := "tuple") (U := "int") (by decide) ⟨_, ho, rfl⟩ (fun s' => typeIs_int s' 0 t) noFill_tuple_mul F.fills_int_mul F.slot_int_rmul repeat_tuple F.slot_int_index.lookup
    (call_meets F.slot_int_rmul (typeIs_int s 0 t) F.entry_int_rmul (F.args_int_rmul_2 _ _) (int_rmul_tuple 0 t l its.toArray n dd sl)
      ⟨ho, rfl, ⟨_, ho, rfl⟩, call_meets F.slot_tuple_mul ⟨_, ho, rfl⟩ F.entry_tuple_mul (F.args_tuple_mul_2 _ _) (tuple_mul0 l its.toArray n sl t dd hi) ⟨ho, ?_⟩⟩)
  refine ⟨.ref s.heap.objs.size, _, I.laid (t' := s.toks) (o := .tup []) (fun b ob q => Heap.get?_push_of_some _ q) (Nat.le_refl _) ?_, rfl, q _ (I.hok.fresh (Nat.le_refl _))⟩
  exact ⟨by decide, _, .nil, IsTup.new _ _⟩
end
section
variable {X : Cx}
def rRepT1 (K : PySem.W.Frag) : R2 := fun x y H Q => ∃ l xs, x = .ref l ∧ y = .int 1 ∧ SqT K H l xs ∧ Q (.ref l) H
theorem op_repT1 : OpR X (binaryOp .Mult) (rRepT1 X.K) := by
  intro pins s σ H x y v u Q I rx ry h
  obtain ⟨l, xs, rfl, rfl, hT, q⟩ := h
  cases rx
  obtain ⟨t, rfl⟩ := ry
  obtain ⟨its, r, ⟨⟨cls, dd, data, sl⟩, ho, hc, n, hd⟩, hs⟩ := I.tuple hT
  simp only at hc hd
  subst hc hd
  refine wpAny_binaryOp_repeat_ref (T := "tuple") (U := "int") (by decide) ⟨_, ho, rfl⟩ (fun s' => typeIs_int s' 1 t) noFill_tuple_mul F.fills_int_mul F.slot_int_rmul repeat_tuple F.slot_int_index.lookup
    (call_meets F.slot_int_rmul (typeIs_int s 1 t) F.entry_int_rmul (F.args_int_rmul_2 _ _) (int_rmul_tuple 1 t l its.toArray n dd sl)
      ⟨ho, rfl, ⟨_, ho, rfl⟩, call_meets F.slot_tuple_mul ⟨_, ho, rfl⟩ F.entry_tuple_mul (F.args_tuple_mul_2 _ _) (tuple_mul1 l its.toArray n sl t dd) ⟨ho, ?_⟩⟩)
  exact ⟨.ref l, H, I, rfl, q⟩
def rSumT (K : PySem.W.Frag) : List V → Hp → VK → Prop := fun vs H Q => ∃ (a : Addr) (ns : List Int), vs = [V.ref a] ∧ SqT K H a (ns.map V.int) ∧ Q (.int ns.sum) H
theorem cr_sumT (hc : X.calm = true) : CallR X (.builtin "sum") (rSumT X.K) := by
  intro pins s σ H vs us Q I r h
  obtain ⟨a, ns, rfl, hs, q⟩ := h
  have eu : us = [Value.ref a] := Vals.ref1 r
  subst eu
  obtain ⟨its, rv, ht, hz⟩ := I.tuple hs
  have hi := rv.ints
  obtain ⟨xs, e⟩ := hi.allInts.items
  have hn : numsOf (intItems xs).toList = ns := by rw [← e]; exact hi.numsOf
  rw [nums_intItems] at hn
  have ht' : s.heap.IsTuple a its.toArray := ht
  rw [e] at ht'
  refine PySem.W.ktm_sumG (I.ok.hd hc) ht' fun h' tk t' hk => ?_
  rw [preSum_eq, List.take_of_length_le (by simp), hn]
  exact ⟨.int ns.sum, H, I.kept (t' := tk) hk, ⟨_, rfl⟩, q⟩
/-! ### max, min of ints: a list or a tuple -/
def maxI (n : Int) (ns : List Int) : Int := ns.foldl (fun a y => if a < y then y else a) n
def minI (n : Int) (ns : List Int) : Int := ns.foldl (fun a y => if y < a then y else a) n
theorem maxD_ints (n : Int) (ns : List Int) : PySem.W.maxD (.int n) (ns.map PyData.int) = .int (maxI n ns) := by
  unfold PySem.W.maxD maxI
  induction ns generalizing n with
  | nil => rfl
  | cons y r ih =>
    simp only [List.map_cons, List.foldl_cons, PySem.W.dataLt_int, decide_eq_true_eq]
    by_cases h : n < y
    · simp only [if_pos h]; exact ih y
    · simp only [if_neg h]; exact ih n
theorem minD_ints (n : Int) (ns : List Int) : PySem.W.minD (.int n) (ns.map PyData.int) = .int (minI n ns) := by
  unfold PySem.W.minD minI
  induction ns generalizing n with
  | nil => rfl
  | cons y r ih =>
    simp only [List.map_cons, List.foldl_cons, PySem.W.dataLt_int, decide_eq_true_eq]
    by_cases h : y < n
    · simp only [if_pos h]; exact ih y
    · simp only [if_neg h]; exact ih n
theorem alike_ints (ns : List Int) : PySem.W.AlikeAll (ns.map PyData.int) := by
  refine ⟨fun x hx y hy => ?_, fun x hx => ?_⟩
  · obtain ⟨i, _, rfl⟩ := List.mem_map.mp hx
    obtain ⟨j, _, rfl⟩ := List.mem_map.mp hy
    simp [PySem.W.alike]
  · obtain ⟨i, _, rfl⟩ := List.mem_map.mp hx
    exact fun z => by cases z
theorem depth_ints (ns : List Int) : PyData.depthAll (ns.map PyData.int) = 0 := by
  induction ns with
  | nil => rfl
  | cons y r ih => simp [PyData.depthAll, PyData.depth, ih]
theorem dp_ints {K : PySem.W.Frag} {H : Hp} : ∀ ns : List Int, DpAll K H (ns.map V.int) (ns.map PyData.int)
  | [] => .nil
  | n :: ns => .cons (.int n) (dp_ints ns)
def rBestI (K : PySem.W.Frag) (best : Int → List Int → Int) : List V → Hp → VK → Prop := fun vs H Q => ∃ (a : Addr) (n : Int) (ns : List Int), vs = [V.ref a] ∧
  (SqL K H a ((n :: ns).map V.int) ∨ SqT K H a ((n :: ns).map V.int)) ∧ Q (.int (best n ns)) H
section
variable {X : Cx}
theorem cr_best (hc : X.calm = true) (hu : X.A.units + 64 < cLine) (mx : Bool) : CallR X (.builtin (if mx then "max" else "min")) (rBestI X.K (if mx then maxI else minI)) := by
  intro pins s σ H vs us Q I r h
  obtain ⟨a, n, ns, rfl, hs, q⟩ := h
  have eu : us = [Value.ref a] := Vals.ref1 r
  subst eu
  have hd : X.A.units + 1 + PyData.depthAll ((n :: ns).map PyData.int) < cLine := by rw [depth_ints]; omega
  have fin : ∀ (b : Int) (v : Value) h' tk bs, Reads h' v (.int b) bs → (∀ c o, s.heap.get? c = some o → h'.get? c = some o) → Q (.int b) H → EP X pins σ Q v { s with heap := h', toks := tk } := fun b v h' tk bs rd k q => by
    cases rd
    exact ⟨.int b, H, I.kept (t' := tk) k, ⟨_, rfl⟩, q⟩
  rcases hs with hs | hs
  · obtain ⟨its, rv, p, hz⟩ := I.list hs
    obtain ⟨as, rd⟩ := Dp.readsAll I ((n :: ns).map PyData.int) _ its (dp_ints _) rv
    have hl : s.heap.IsList a its.toArray := p.isList
    cases mx with
    | true =>
      refine PySem.W.max_list_data (x := .int n) (xs := ns.map PyData.int) (I.ok.hd hc) hl (by simpa using rd) (alike_ints (n :: ns)) hd fun i v h' tk bs _ rd' k => ?_
      rw [maxD_ints] at rd'
      exact fin _ v h' tk bs rd' k q
    | false =>
      refine PySem.W.min_list_data (x := .int n) (xs := ns.map PyData.int) (I.ok.hd hc) hl (by simpa using rd) (alike_ints (n :: ns)) hd fun i v h' tk bs _ rd' k => ?_
      rw [minD_ints] at rd'
      exact fin _ v h' tk bs rd' k q
  · obtain ⟨its, rv, p, hz⟩ := I.tuple hs
    obtain ⟨as, rd⟩ := Dp.readsAll I ((n :: ns).map PyData.int) _ its (dp_ints _) rv
    have hl : s.heap.IsTuple a its.toArray := p
    cases mx with
    | true =>
      refine PySem.W.max_tuple_data (x := .int n) (xs := ns.map PyData.int) (I.ok.hd hc) hl (by simpa using rd) (alike_ints (n :: ns)) hd fun i v h' tk bs _ rd' k => ?_
      rw [maxD_ints] at rd'
      exact fin _ v h' tk bs rd' k q
    | false =>
      refine PySem.W.min_tuple_data (x := .int n) (xs := ns.map PyData.int) (I.ok.hd hc) hl (by simpa using rd) (alike_ints (n :: ns)) hd fun i v h' tk bs _ rd' k => ?_
      rw [minD_ints] at rd'
      exact fin _ v h' tk bs rd' k q
end

/-! ### two-place operators over data -/
def Big : Nat := 2 ^ 4000
def mulOk (a b : Int) : Prop := a.natAbs < Big ∧ b.natAbs < Big
instance (a b : Int) : Decidable (mulOk a b) := inferInstanceAs (Decidable (_ ∧ _))
theorem Big.of64 {a : Int} (h : a.natAbs < 2 ^ 64) : a.natAbs < Big := Nat.lt_of_lt_of_le h (Nat.pow_le_pow_right (by decide) (by decide))
theorem mulOk.w {a b : Int} (h : mulOk a b) : CMulW a b := wide_mul (a := 4000) (b := 4000) h.1 h.2 (by decide) (by decide) (by decide)
def divOk (b : Int) : Prop := 0 < b ∧ b.natAbs < Big
instance (b : Int) : Decidable (divOk b) := inferInstanceAs (Decidable (_ ∧ _))
theorem divOk.w {a b : Int} (h : divOk b) : CDivW a b := wide_div (b := 4000) h.1 h.2 (by decide) (by decide)

/-- a text, k times -/
def strRep (a : Str) (k : Int) : Str := if k < 1 then Str.empty else if (k == 1 || a.length == 0) = true then a else ⟨(List.replicate k.toNat a.cps).foldl (· ++ ·) #[]⟩
theorem foldl_app (a : Array Nat) : ∀ (n : Nat) (b : Array Nat), ((List.replicate n a).foldl (· ++ ·) b).toList = b.toList ++ (List.replicate n a.toList).flatten
  | 0, b => by simp
  | n + 1, b => by
    rw [List.replicate_succ, List.foldl_cons, foldl_app a n, List.replicate_succ, List.flatten_cons, Array.toList_append, List.append_assoc]
theorem strRep_list {a : Str} {k : Int} : (strRep a k).cps.toList = (List.replicate k.toNat a.cps.toList).flatten := by
  unfold strRep
  by_cases h1 : k < 1
  · rw [if_pos h1, show k.toNat = 0 by omega]; rfl
  · rw [if_neg h1]
    by_cases h2 : (k == 1 || a.length == 0) = true
    · rw [if_pos h2]
      rw [Bool.or_eq_true, beq_iff_eq, beq_iff_eq] at h2
      rcases h2 with h2 | h2
      · subst h2
        show _ = (List.replicate 1 a.cps.toList).flatten
        simp
      · have e : a.cps.toList = [] := List.eq_nil_of_length_eq_zero (by rw [Array.length_toList]; exact h2)
        rw [e]; simp
    · rw [if_neg h2]
      show ((List.replicate k.toNat a.cps).foldl (· ++ ·) #[]).toList = _
      rw [foldl_app]; rfl
theorem strOk_iff {x : Str} : PyData.strOk x = true ↔ ∀ c ∈ x.cps.toList, c < 0x110000 := by
  unfold PyData.strOk
  rw [← Array.all_toList, List.all_eq_true]
  simp
theorem strRep_ok {a : Str} {k : Int} (h : PyData.strOk a = true) : PyData.strOk (strRep a k) = true := by
  rw [strOk_iff] at h ⊢
  intro c hc
  rw [strRep_list, List.mem_flatten] at hc
  obtain ⟨l, hl, hc⟩ := hc
  rw [(List.mem_replicate.mp hl).2] at hc
  exact h c hc
theorem strRep_len {a : Str} {k : Int} : (strRep a k).length = k.toNat * a.length := by
  have := congrArg List.length (strRep_list (a := a) (k := k))
  rw [List.length_flatten, List.map_replicate, List.sum_replicate_nat, Array.length_toList, Array.length_toList] at this
  exact this
theorem op_mulS {X : Cx} : OpR X (binaryOp .Mult) (fun x y H Q => ∃ (a : Str) (k : Int), x = .str a ∧ y = .int k ∧ a.length ≤ 1000 ∧ 0 ≤ k ∧ k ≤ 1000 ∧ Q (.str (strRep a k)) H) := by
  intro pins s σ H x y v u Q I rx ry h
  obtain ⟨a, k, rfl, rfl, h1, h2, h3, q⟩ := h
  obtain ⟨t, rfl⟩ := rx
  obtain ⟨t', rfl⟩ := ry
  have hm : a.length * k.toNat ≤ 1000 * 1000 := Nat.mul_le_mul h1 (by omega)
  refine PySem.P.mul_str (by simp; omega) (fun z1 _ z => ?_) (fun _ _ => ?_) ?_
  · have : (1000 : Int) ≤ (2 ^ 63 - 1) / k := by
      rw [Int.le_ediv_iff_mul_le (by omega)]; omega
    omega
  · unfold Builtin.Str.tooLong
    rw [decide_eq_false_iff_not, sizeLine_eq]; omega
  · have hl := strRep_len (a := a) (k := k)
    unfold strRep at q hl
    by_cases c1 : k < 1
    · rw [if_pos c1] at q ⊢
      exact ⟨by decide, .str _, H, I.tok _, ⟨_, rfl⟩, q⟩
    · rw [if_neg c1] at q hl ⊢
      by_cases c2 : (k == 1 || a.length == 0) = true
      · rw [if_pos c2] at q ⊢
        exact ⟨.str a, H, I, ⟨t, rfl⟩, q⟩
      · rw [if_neg c2] at q hl ⊢
        refine ⟨?_, .str _, H, I.tok _, ⟨_, rfl⟩, q⟩
        rw [hl, sizeLine_eq, Nat.mul_comm]; omega
def binSem : Operator → D → D → Option D
  | .Add, .int a, .int b => some (.int (a + b))
  | .Add, .str a, .str b => if a.length + b.length ≤ 16777216 then some (.str (a ++ b)) else none
  | .Add, .tuple a, .tuple b => if a.length + b.length ≤ 16777216 then some (.tuple (a ++ b)) else none
  | .Add, .list a, .list b => if a.length + b.length ≤ 16777216 then some (.list (a ++ b)) else none
  | .Sub, .int a, .int b => some (.int (a - b))
  | .Mult, .int a, .int b => if mulOk a b then some (.int (a * b)) else none
  | .Mult, .tuple a, .int k => if a ≠ [] ∧ a.length ≤ 1000 ∧ 0 ≤ k ∧ k ≤ 1000 then some (.tuple (List.replicate k.toNat a).flatten) else none
  | .Mult, .list a, .int k => if a.length ≤ 1000 ∧ 0 ≤ k ∧ k ≤ 10000 then some (.list (List.replicate k.toNat a).flatten) else none
  | .Mult, .str a, .int k => if a.length ≤ 1000 ∧ 0 ≤ k ∧ k ≤ 1000 then some (.str (strRep a k)) else none
  | .FloorDiv, .int a, .int b => if divOk b then some (.int (a / b)) else none
  | .Mod, .int a, .int b => if 0 < b then some (.int (a % b)) else none
  | .Pow, .int a, .int b => if a.natAbs < 2 ^ 64 ∧ 0 ≤ b ∧ b ≤ 1000000 then some (.int (a ^ b.toNat)) else none
  | .LShift, .int a, .int b => if a.natAbs < 2 ^ 64 ∧ 0 ≤ b ∧ b ≤ 1000000 then some (.int (a * 2 ^ b.toNat)) else none
  | .RShift, .int a, .int b => if 0 ≤ b then some (.int (a / 2 ^ b.toNat)) else none
  | .BitAnd, .int a, .int b => some (.int (Builtin.bitAnd a b))
  | .BitOr, .int a, .int b => some (.int (Builtin.bitOr a b))
  | .BitXor, .int a, .int b => some (.int (Builtin.bitXor a b))
  | _, _, _ => none

/-- an operator's reading over data -/
def rD2 (W : Wd) (sem : D → D → Option D) : R2 := fun x y H Q => ∃ F d e r, FOk W F H ∧ Good W H ∧ Rdv W F H x d ∧ Rdv W F H y e ∧ sem d e = some r ∧ Res W F H r Q

theorem strOk_app {a b : Str} (ha : PyData.strOk a = true) (hb : PyData.strOk b = true) : PyData.strOk (a ++ b) = true := by
  have e : (a ++ b).cps = a.cps ++ b.cps := rfl
  unfold PyData.strOk at *
  rw [e, Array.all_append, ha, hb]; rfl
section
variable {X : Cx} {W : Wd}
theorem OpR.imp {f : Value → Value → Sem Value} {r r' : R2} (h : OpR X f r) (i : ∀ x y H Q, r' x y H Q → r x y H Q) : OpR X f r' := fun pins s σ H x y v u Q I rx ry q => h pins s σ H x y v u Q I rx ry (i _ _ _ _ q)
theorem Rdv.datT {F H : Hp} {v : V} {ds : List D} (r : Rdv W F H v (.tuple ds)) : Dat W.K F v (.tuple ds) := by
  rcases r with r | ⟨a, vs, ds', rfl, e, h3, h4, h5, h6, h7⟩
  · exact r
  · cases e
theorem Dats.nil_of {K : PySem.W.Frag} {F : Hp} {vs : List V} {ds : List D} (h : Dats K F vs ds) : vs = [] ↔ ds = [] := by
  cases h with
  | nil => simp
  | cons a b => simp
theorem op_bin (hK : X.K = W.K) (op : Operator) : OpR X (binaryOp op) (rD2 W (binSem op)) := by
  intro pins s σ H x y v u Q I rx ry h
  obtain ⟨F, d, e, r, f, g, rd, re, hs, q⟩ := h
  unfold binSem at hs
  split at hs
  · cases hs; cases rd.int; cases re.int; exact op_add pins s σ H _ _ v u Q I rx ry ⟨_, _, rfl, rfl, q.int f g⟩
  · split at hs <;> cases hs
    rename_i hl
    obtain ⟨rfl, k1⟩ := rd.str
    obtain ⟨rfl, k2⟩ := re.str
    exact op_add_str pins s σ H _ _ v u Q I rx ry ⟨_, _, rfl, rfl, by rw [sizeLine_eq]; exact hl, q.str f g (strOk_app k1 k2)⟩
  · split at hs <;> cases hs
    rename_i hl
    obtain ⟨a, vs, rfl, t1, d1, z1⟩ := rd.tup f
    obtain ⟨b, ws, rfl, t2, d2, z2⟩ := re.tup f
    refine op_catA pins s σ H _ _ v u Q I rx ry ⟨a, b, vs, ws, rfl, rfl, hK ▸ t1.seq, hK ▸ t2.seq, ?_, fun z => ?_, fun z1 z2 => ?_, fun _ _ p n => q.tup f g n (d1.append d2) (by rw [List.length_append]; exact hl)⟩
    · rw [d1.length, d2.length, sizeLine_eq]; exact hl
    · have := d1.nil_of.mp z
      subst this
      exact q _ _ _ (.refl f g) re.datT
    · have := d2.nil_of.mp z2
      subst this
      rw [List.append_nil] at q
      exact q _ _ _ (.refl f g) rd.datT
  · split at hs <;> cases hs
    rename_i hl
    obtain ⟨a, vs, rfl, t1, d1, z1⟩ := rd.lst f
    obtain ⟨b, ws, rfl, t2, d2, z2⟩ := re.lst f
    exact op_cat pins s σ H _ _ v u Q I rx ry ⟨a, b, vs, ws, rfl, rfl, t1, t2, by rw [d1.length, d2.length, sizeLine_eq]; exact hl, fun p n => q p _ n (d1.append d2) (by rw [List.length_append]; exact hl)⟩
  · cases hs; cases rd.int; cases re.int; exact op_sub pins s σ H _ _ v u Q I rx ry ⟨_, _, rfl, rfl, q.int f g⟩
  · split at hs <;> cases hs
    rename_i hl
    cases rd.int; cases re.int; exact op_mulW pins s σ H _ _ v u Q I rx ry ⟨_, _, rfl, rfl, hl.w, q.int f g⟩
  · split at hs <;> cases hs
    rename_i hl
    obtain ⟨a, vs, rfl, t1, d1, z1⟩ := rd.tup f
    cases re.int
    rename_i k
    by_cases hk : k = 1
    · subst hk
      refine op_repT1 pins s σ H _ _ v u Q I rx ry ⟨a, vs, rfl, rfl, hK ▸ t1.seq, ?_⟩
      rw [show ∀ l : List D, (List.replicate (1 : Int).toNat l).flatten = l from fun l => List.append_nil l] at q
      exact q _ _ _ (.refl f g) rd.datT
    · by_cases hk0 : k = 0
      · subst hk0
        exact op_repT0 pins s σ H _ _ v u Q I rx ry ⟨a, vs, rfl, rfl, hK ▸ t1.seq, fun z => hl.1 (d1.nil_of.mp z), fun p n => q.tup f g n .nil (Nat.zero_le _)⟩
      exact op_repT pins s σ H _ _ v u Q I rx ry ⟨a, k, vs, rfl, rfl, hK ▸ t1.seq, fun z => hl.1 (d1.nil_of.mp z), by omega, hl.2.2.2, by rw [d1.length]; exact hl.2.1, fun p n => q.tup f g n (d1.flat _) (by rw [lm_len_rep_flat]; exact Nat.le_trans (Nat.mul_le_mul (show _ ≤ 1000 by omega) hl.2.1) (by decide))⟩
  · split at hs <;> cases hs
    rename_i hl
    obtain ⟨a, vs, rfl, t1, d1, z1⟩ := rd.lst f
    cases re.int
    refine op_rep pins s σ H _ _ v u Q I rx ry ⟨a, _, vs, rfl, rfl, t1, by omega, by omega, ?_, fun p n => q p _ n (d1.flat _) (by rw [lm_len_rep_flat]; exact Nat.le_trans (Nat.mul_le_mul (show _ ≤ 10000 by omega) hl.1) (by decide))⟩
    rw [d1.length, sizeLine_eq]
    exact Nat.le_trans (Nat.mul_le_mul hl.1 (show _ ≤ 10000 by omega)) (by decide)
  · split at hs <;> cases hs
    rename_i hl
    obtain ⟨rfl, k1⟩ := rd.str
    cases re.int
    exact op_mulS pins s σ H _ _ v u Q I rx ry ⟨_, _, rfl, rfl, hl.1, hl.2.1, hl.2.2, q.str f g (strRep_ok k1)⟩
  · split at hs <;> cases hs
    rename_i hl
    cases rd.int; cases re.int; exact op_fdivW pins s σ H _ _ v u Q I rx ry ⟨_, _, rfl, rfl, hl.w (a := 0), q.int f g⟩
  · split at hs <;> cases hs
    rename_i hl
    cases rd.int; cases re.int; exact op_mod pins s σ H _ _ v u Q I rx ry ⟨_, _, rfl, rfl, hl, q.int f g⟩
  · split at hs <;> cases hs
    rename_i hl
    cases rd.int; cases re.int; exact op_pow pins s σ H _ _ v u Q I rx ry ⟨_, _, rfl, rfl, ⟨hl.2.1, hl.2.2, hl.1⟩, q.int f g⟩
  · split at hs <;> cases hs
    rename_i hl
    cases rd.int; cases re.int; exact op_shl pins s σ H _ _ v u Q I rx ry ⟨_, _, rfl, rfl, ⟨hl.2.1, hl.2.2, hl.1⟩, q.int f g⟩
  · split at hs <;> cases hs
    rename_i hl
    cases rd.int; cases re.int; exact op_shr pins s σ H _ _ v u Q I rx ry ⟨_, _, rfl, rfl, hl, q.int f g⟩
  · cases hs; cases rd.int; cases re.int; exact op_and pins s σ H _ _ v u Q I rx ry ⟨_, _, rfl, rfl, q.int f g⟩
  · cases hs; cases rd.int; cases re.int; exact op_or pins s σ H _ _ v u Q I rx ry ⟨_, _, rfl, rfl, q.int f g⟩
  · cases hs; cases rd.int; cases re.int; exact op_xor pins s σ H _ _ v u Q I rx ry ⟨_, _, rfl, rfl, q.int f g⟩
  · cases hs
end

/-! ### comparisons -/
def cmpInt : CmpOp → Int → Int → Option Bool
  | .Lt, a, b => some (decide (a < b))
  | .LtE, a, b => some (decide (a ≤ b))
  | .Gt, a, b => some (decide (b < a))
  | .GtE, a, b => some (decide (b ≤ a))
  | _, _, _ => none
def flatD : D → Bool
  | .none | .bool _ | .int _ | .str _ => true
  | _ => false
def tupLt (op : CmpOp) (as bs : List D) : Option Bool := if op = .Lt then (intsOf as).bind fun ns => (intsOf bs).bind fun ms => some (HT.lexLt ns ms) else none
theorem tupLt_eq {op : CmpOp} {as bs : List D} {b : Bool} (h : tupLt op as bs = some b) : ∃ ns ms, op = .Lt ∧ as = ns.map .int ∧ bs = ms.map .int ∧ b = HT.lexLt ns ms := by
  unfold tupLt at h
  split at h
  · obtain ⟨ns, h1, h⟩ := Option.bind_eq_some_iff.mp h
    obtain ⟨ms, h2, h⟩ := Option.bind_eq_some_iff.mp h
    exact ⟨ns, ms, by assumption, intsOf_eq h1, intsOf_eq h2, (Option.some.inj h).symm⟩
  · cases h
def isNone : D → Bool
  | .none => true
  | _ => false
/-- the one sign of a text -/
def oneCh (x : Str) : Option Nat := match x.cps.toList with
  | [c] => some c
  | _ => none
theorem oneCh_eq {x : Str} {c : Nat} (h : oneCh x = some c) : x = ⟨#[c]⟩ := by
  unfold oneCh at h
  split at h
  · rename_i c' e
    cases h
    obtain ⟨⟨l⟩⟩ := x
    have e2 : l = [c] := e
    rw [e2]
  · cases h
def inSem (d : D) : D → Option Bool
  | .tuple es => if min (PyData.depthAll es) d.depth ≤ 60 then some (es.any fun z => PyData.eqv z d) else none
  | .list es => if min (PyData.depthAll es) d.depth ≤ 60 then some (es.any fun z => PyData.eqv z d) else none
  | .str z => match d with
    | .str x => (oneCh x).map fun c => decide (c ∈ z.cps.toList)
    | _ => none
  | _ => none
def cmpSem (op : CmpOp) (d e : D) : Option Bool :=
  match op with
  | .Eq => if min d.depth e.depth ≤ 60 then some (PyData.eqv d e) else none
  | .NotEq => if min d.depth e.depth ≤ 60 then some (!PyData.eqv d e) else none
  | .Is => match d, e with
    | .bool a, .bool b => some (decide (a = b))
    | d, .none => some (isNone d)
    | _, _ => none
  | .IsNot => match d, e with
    | .bool a, .bool b => some (!decide (a = b))
    | d, .none => some (!isNone d)
    | _, _ => none
  | .In => inSem d e
  | .NotIn => (inSem d e).map (!·)
  | op => match d, e with
    | .int a, .int b => cmpInt op a b
    | .tuple as, .tuple bs => tupLt op as bs
    | _, _ => none
def cmpSemD (op : CmpOp) (d e : D) : Option D := (cmpSem op d e).map .bool
section
variable {X : Cx} {W : Wd}
theorem op_eqM (hu : X.A.units + 64 < cLine) {F H : Hp} {x y : V} {d e : D} (f : FOk W F H) (rd : Rdv W F H x d) (re : Rdv W F H y e) (hd : min d.depth e.depth ≤ 60) (hK : X.K = W.K)
    {pins : List (Addr × Obj)} {s : Shared} {σ : L2.St} {v u : Value} {Q : VK} (I : Inv X pins σ H s) (rx : RelV x v) (ry : RelV y u) :
    (Q (.bl (PyData.eqv d e)) H → wpAny (model X.prog X.w) X.A (compareOp .Eq v u) (EP X pins σ Q) X.xe s) ∧
    (Q (.bl (!PyData.eqv d e)) H → wpAny (model X.prog X.w) X.A (compareOp .NotEq v u) (EP X pins σ Q) X.xe s) := by
  obtain ⟨as, r1⟩ := Dp.reads I d x v (hK ▸ rd.dp f) rx
  obtain ⟨bs, r2⟩ := Dp.reads I e y u (hK ▸ re.dp f) ry
  refine ⟨fun q => ?_, fun q => ?_⟩
  · exact SeqAt.compareEq_reads r1 r2 rd.canLay re.canLay (by omega) ⟨.bl _, H, I, rfl, q⟩
  · exact SeqAt.compareNe_reads r1 r2 rd.canLay re.canLay (by omega) ⟨.bl _, H, I, rfl, q⟩
theorem flatD_V {F H : Hp} {v : V} {d : D} (r : Rdv W F H v d) (h : flatD d = true) : flatV v = true := by
  cases d with
  | none => cases r.none; rfl
  | bool b => cases r.bool; rfl
  | int b => cases r.int; rfl
  | str b => cases r.str.1; rfl
  | list _ => cases h
  | tuple _ => cases h
  | dict _ => cases h
theorem flats_V {F : Hp} : ∀ {ds : List D} {vs : List V}, Dats W.K F vs ds → ds.all flatD = true → vs.all flatV = true
  | [], vs, h, _ => by cases h; rfl
  | d :: ds, vs, h, e => by
    cases h with
    | cons a b =>
      simp only [List.all_cons, Bool.and_eq_true] at e ⊢
      exact ⟨flatD_V (W := W) (F := F) (H := F) (.inl a) e.1, flats_V b e.2⟩
theorem eqv_V {F H : Hp} {v w : V} {d e : D} (r : Rdv W F H v d) (q : Rdv W F H w e) (h : flatD d = true) (k : flatD e = true) : eqV v w = PyData.eqv d e := by
  cases d <;> first | (cases h; done) | skip
  all_goals cases e <;> first | (cases k; done) | skip
  all_goals first
    | (cases r.none; skip) | (cases r.bool; skip) | (cases r.int; skip) | (cases r.str.1; skip)
  all_goals first
    | (cases q.none; skip) | (cases q.bool; skip) | (cases q.int; skip) | (cases q.str.1; skip)
  all_goals simp [eqV, PyData.eqv]
end
theorem anys_V {F H : Hp} {v : V} {d : D} (r : Rdv W F H v d) (h : flatD d = true) : ∀ {ds : List D} {vs : List V}, Dats W.K F vs ds → ds.all flatD = true → inV v vs = ds.any fun z => PyData.eqv z d
  | [], vs, hd, _ => by cases hd; rfl
  | e :: ds, vs, hd, k => by
    cases hd with
    | cons a b =>
      simp only [List.all_cons, Bool.and_eq_true] at k
      have ih := anys_V r h b k.2
      unfold inV at ih ⊢
      rw [List.any_cons, List.any_cons, ih, eqv_V (W := W) (F := F) (H := H) (.inl a) r k.1 h]
theorem op_inM (hu : X.A.units + 64 < cLine) {F H : Hp} {x y : V} {d e : D} {b : Bool} (f : FOk W F H) (rd : Rdv W F H x d) (re : Rdv W F H y e) (hs : inSem d e = some b) (hK : X.K = W.K)
    {pins : List (Addr × Obj)} {s : Shared} {σ : L2.St} {v u : Value} {Q : VK} (I : Inv X pins σ H s) (rx : RelV x v) (ry : RelV y u) :
    (Q (.bl b) H → wpAny (model X.prog X.w) X.A (compareOp .In v u) (EP X pins σ Q) X.xe s) ∧
    (Q (.bl (!b)) H → wpAny (model X.prog X.w) X.A (compareOp .NotIn v u) (EP X pins σ Q) X.xe s) := by
  obtain ⟨as, r1⟩ := Dp.reads I d x v (hK ▸ rd.dp f) rx
  obtain ⟨bs, r2⟩ := Dp.reads I e y u (hK ▸ re.dp f) ry
  have p1 := PyData.plain_of_canLay0 d rd.canLay
  have p2 := PyData.plain_of_canLay0 e re.canLay
  unfold inSem at hs
  split at hs
  · split at hs <;> cases hs
    rename_i hm
    have p2 : PyData.plainAll _ = true := p2
    exact ⟨fun q => SeqAt.in_tuple_data r2 r1 p2 p1 (by omega) ⟨.bl _, H, I, rfl, q⟩, fun q => SeqAt.notIn_tuple_data r2 r1 p2 p1 (by omega) ⟨.bl _, H, I, rfl, q⟩⟩
  · split at hs <;> cases hs
    rename_i hm
    have p2 : PyData.plainAll _ = true := p2
    exact ⟨fun q => SeqAt.in_list_data r2 r1 p2 p1 (by omega) ⟨.bl _, H, I, rfl, q⟩, fun q => SeqAt.notIn_list_data r2 r1 p2 p1 (by omega) ⟨.bl _, H, I, rfl, q⟩⟩
  · split at hs
    · obtain ⟨c, h1, rfl⟩ := Option.map_eq_some_iff.mp hs
      obtain ⟨rfl, _⟩ := rd.str
      obtain ⟨rfl, _⟩ := re.str
      have e1 := oneCh_eq h1
      subst e1
      exact ⟨fun q => op_in_sign pins s σ H _ _ v u Q I rx ry ⟨c, _, rfl, rfl, q⟩, fun q => op_notIn_sign pins s σ H _ _ v u Q I rx ry ⟨c, _, rfl, rfl, q⟩⟩
    · cases hs
  · cases hs
theorem isNone_V {F H : Hp} {v : V} {d : D} (r : Rdv W F H v d) : decide (v = .non) = isNone d := by
  rcases r with r | ⟨a, vs, ds, rfl, rfl, _⟩
  · cases r <;> rfl
  · rfl
theorem op_cmp (hK : X.K = W.K) (hu : X.A.units + 64 < cLine) (op : CmpOp) : OpR X (compareOp op) (rD2 W (cmpSemD op)) := by
  intro pins s σ H x y v u Q I rx ry h
  obtain ⟨F, d, e, r, f, g, rd, re, hs, q⟩ := h
  unfold cmpSemD at hs
  obtain ⟨b, hs1, e1⟩ := Option.map_eq_some_iff.mp hs
  clear hs
  have hs := hs1; clear hs1
  subst e1
  replace q : Q (.bl b) H := q.bool f g
  unfold cmpSem at hs
  split at hs
  · split at hs <;> cases hs
    exact (op_eqM hu f rd re (by assumption) hK I rx ry).1 q
  · split at hs <;> cases hs
    exact (op_eqM hu f rd re (by assumption) hK I rx ry).2 q
  · split at hs
    · cases hs; cases rd.bool; cases re.bool; exact op_isBl pins s σ H _ _ v u Q I rx ry ⟨_, _, rfl, rfl, q⟩
    · cases hs; cases re.none
      refine op_isN pins s σ H _ _ v u Q I rx ry ⟨rfl, ?_⟩
      rw [isNone_V rd]
      exact q
    · cases hs
  · split at hs
    · cases hs; cases rd.bool; cases re.bool; exact op_notBl pins s σ H _ _ v u Q I rx ry ⟨_, _, rfl, rfl, q⟩
    · cases hs; cases re.none
      refine op_notN pins s σ H _ _ v u Q I rx ry ⟨rfl, ?_⟩
      rw [isNone_V rd]
      exact q
    · cases hs
  · exact (op_inM hu f rd re hs hK I rx ry).1 q
  · obtain ⟨b', hb1, hb2⟩ := Option.map_eq_some_iff.mp hs
    subst hb2
    exact (op_inM hu f rd re hb1 hK I rx ry).2 q
  · split at hs
    · cases rd.int; cases re.int
      unfold cmpInt at hs
      split at hs
      · cases hs; exact op_lt pins s σ H _ _ v u Q I rx ry ⟨_, _, rfl, rfl, q⟩
      · cases hs; exact op_le pins s σ H _ _ v u Q I rx ry ⟨_, _, rfl, rfl, q⟩
      · cases hs; exact op_gt pins s σ H _ _ v u Q I rx ry ⟨_, _, rfl, rfl, q⟩
      · cases hs; exact op_ge pins s σ H _ _ v u Q I rx ry ⟨_, _, rfl, rfl, q⟩
      · cases hs
    · obtain ⟨ns, ms, rfl, rfl, rfl, rfl⟩ := tupLt_eq hs
      obtain ⟨a, vs, rfl, t1, d1, z1⟩ := rd.tup f
      obtain ⟨b, ws, rfl, t2, d2, z2⟩ := re.tup f
      cases d1.ints
      cases d2.ints
      exact op_ltT (by omega) pins s σ H _ _ v u Q I rx ry ⟨a, b, _, _, rfl, rfl, hK ▸ t1.seq, hK ▸ t2.seq, q⟩
    · cases hs
end

/-! ### subscripts, slices -/
def ixSem : D → D → Option D
  | .tuple es, .int i => atI es i
  | .list es, .int i => atI es i
  | .str z, .int i => if z.length ≤ 16777216 ∧ PyData.strOk z = true then (atI z.cps.toList i).map fun c => .str ⟨#[c]⟩ else none
  | _, _ => none
def cutD (xs : List D) (lo hi : Option Int) : List D := (xs.drop (HT.sIx xs.length 0 lo)).take (HT.sIx xs.length xs.length hi - HT.sIx xs.length 0 lo)
def slSem (lo hi : Option Int) : D → Option D
  | .tuple es => some (.tuple (cutD es lo hi))
  | .list es => some (.list (cutD es lo hi))
  | .str z => if z.length ≤ 16777216 ∧ PyData.strOk z = true then some (.str (cutS z lo hi)) else none
  | _ => none
/-- what stands at a place is data even where the list is owned -/
def rIxD (W : Wd) : R2 := fun x y H Q => ∃ F d e r, FOk W F H ∧ Good W H ∧ Rdv W F H x d ∧ Rdv W F H y e ∧ ixSem d e = some r ∧ ∀ v F' H', Ext W F H F' H' → Dat W.K F' v r → Q v H'
section
variable {X : Cx} {W : Wd}
theorem atI_dats {K : PySem.W.Frag} {F : Hp} {vs : List V} {ds : List D} {i : Int} {d : D} (h : Dats K F vs ds) (e : atI ds i = some d) : ∃ v, atI vs i = some v ∧ Dat K F v d := by
  unfold atI at e ⊢
  rw [h.length]
  cases hk : ixN ds.length i with
  | none => rw [hk] at e; cases e
  | some j =>
    rw [hk] at e
    exact h.get e
theorem ix_D (hK : X.K = W.K) : IxR X (rIxD W) := by
  intro value slice pins s σ H x y v u Q I rx ry h hsub
  obtain ⟨F, d, e, r, f, g, rd, re, hs, q⟩ := h
  unfold ixSem at hs
  split at hs
  · obtain ⟨a, vs, rfl, t1, d1, z1⟩ := rd.tup f
    cases re.int
    obtain ⟨w, e1, e2⟩ := atI_dats d1 hs
    exact ix_tup value slice pins s σ H _ _ v u Q I rx ry ⟨a, vs, _, w, rfl, rfl, hK ▸ t1.seq, e1, q _ _ _ (.refl f g) e2⟩ hsub
  · obtain ⟨a, vs, rfl, t1, d1, z1⟩ := rd.lst f
    cases re.int
    obtain ⟨w, e1, e2⟩ := atI_dats d1 hs
    exact ix_list value slice pins s σ H _ _ v u Q I rx ry ⟨a, vs, _, w, rfl, rfl, .inl (.inl t1), e1, q _ _ _ (.refl f g) e2⟩ hsub
  · split at hs
    · rename_i hl
      obtain ⟨c, e1, rfl⟩ := Option.map_eq_some_iff.mp hs
      obtain ⟨rfl, _⟩ := rd.str
      cases re.int
      refine ix_str value slice pins s σ H _ _ v u Q I rx ry ⟨_, _, c, rfl, rfl, by rw [sizeLine_eq]; exact hl.1, e1, q _ _ _ (.refl f g) (.str _ ?_)⟩ hsub
      obtain ⟨j, _, e2, _⟩ := atI_get e1
      have hm := List.mem_of_getElem? e2
      have hok := hl.2
      unfold PyData.strOk at hok ⊢
      rw [Array.all_eq_true_iff_forall_mem] at hok
      have := hok c (Array.mem_toList_iff.mp hm)
      simpa using this
    · cases hs
  · cases hs
theorem strOk_cut {z : Str} {lo hi : Option Int} (h : PyData.strOk z = true) : PyData.strOk (cutS z lo hi) = true := by
  rw [strOk_iff] at h ⊢
  intro c hc
  refine h c ?_
  unfold cutS at hc
  exact List.mem_of_mem_drop (List.mem_of_mem_take (by simpa using hc))
theorem cut_le (ds : List D) (lo hi : Option Int) : (cutD ds lo hi).length ≤ ds.length := by
  unfold cutD
  rw [List.length_take, List.length_drop]
  omega
theorem cut_dats {K : PySem.W.Frag} {F : Hp} {vs : List V} {ds : List D} (h : Dats K F vs ds) (lo hi : Option Int) : Dats K F (cutV vs lo hi) (cutD ds lo hi) := by
  unfold cutV cutD
  rw [h.length]
  exact (h.drop _).take _
def rSlD (W : Wd) : V → Option Int → Option Int → Hp → VK → Prop := fun x lo hi H Q => ∃ F d r, FOk W F H ∧ Good W H ∧ Rdv W F H x d ∧ slSem lo hi d = some r ∧ Res W F H r Q
theorem sl_D (hK : X.K = W.K) : SlR X (rSlD W) := by
  intro pins s σ H x v vl vu lo hi sl Q I rx hsl pl pu h
  obtain ⟨F, d, r, f, g, rd, hs, q⟩ := h
  unfold slSem at hs
  split at hs
  · cases hs
    obtain ⟨a, vs, rfl, t1, d1, z1⟩ := rd.tup f
    refine sl_tupA pins s σ H _ v vl vu lo hi sl Q I rx hsl pl pu ⟨a, vs, rfl, hK ▸ t1.seq, fun z => ?_, fun _ p n => q.tup f g n (cut_dats d1 lo hi) (Nat.le_trans (cut_le _ _ _) z1)⟩
    have e : ∀ ds : List D, ds.length = vs.length → cutD ds lo hi = ds := fun ds hl => by
      unfold cutD
      rw [hl, z.1, z.2]
      simp [← hl]
    rw [e _ d1.length.symm] at q
    exact q _ _ _ (.refl f g) rd.datT
  · cases hs
    obtain ⟨a, vs, rfl, t1, d1, z1⟩ := rd.lst f
    exact sl_list pins s σ H _ v vl vu lo hi sl Q I rx hsl pl pu ⟨a, vs, rfl, .inl (.inl t1), fun p n => q p _ n (cut_dats d1 lo hi) (Nat.le_trans (cut_le _ _ _) z1)⟩
  · split at hs <;> cases hs
    rename_i hl
    obtain ⟨rfl, _⟩ := rd.str
    exact sl_str pins s σ H _ v vl vu lo hi sl Q I rx hsl pl pu ⟨_, rfl, by rw [sizeLine_eq]; exact hl.1, q.str f g (strOk_cut hl.2)⟩
  · cases hs
end
end Dl

set_option Elab.async false
set_option linter.all false
set_option maxRecDepth 100000
set_option maxHeartbeats 4000000
/-! the data layer, part 3: built-in functions -/
namespace Dl
open PySem PySem.Spec PyProof.Rows L2

inductive Blt | len | all | any | sum | max | min | abs | int | tuple | list | sorted | str
  deriving DecidableEq
def Blt.name : Blt → Str
  | .len => "len" | .all => "all" | .any => "any" | .sum => "sum" | .max => "max" | .min => "min" | .abs => "abs" | .int => "int" | .tuple => "tuple" | .list => "list" | .sorted => "sorted" | .str => "str"
def Blt.isTy : Blt → Bool
  | .int | .tuple | .list | .str => true
  | _ => false
def Blt.id : Blt → String
  | .len => "len" | .all => "all" | .any => "any" | .sum => "sum" | .max => "max" | .min => "min" | .abs => "abs" | .int => "int" | .tuple => "tuple" | .list => "list" | .sorted => "sorted" | .str => "str"
def Blt.val (f : Blt) : Value := if f.isTy then .type f.id else .builtin f.id

/-- ints in order -/
def insI (n : Int) : List Int → List Int
  | [] => [n]
  | m :: r => if n ≤ m then n :: m :: r else m :: insI n r
def sortI : List Int → List Int
  | [] => []
  | n :: r => insI n (sortI r)
theorem insI_perm (n : Int) : ∀ l, (insI n l).Perm (n :: l)
  | [] => .refl _
  | m :: r => by
    unfold insI
    split
    · exact .refl _
    · exact (List.Perm.cons m (insI_perm n r)).trans (List.Perm.swap n m r)
theorem sortI_perm : ∀ l, (sortI l).Perm l
  | [] => .refl _
  | n :: r => (insI_perm n _).trans ((sortI_perm r).cons n)
theorem insI_sorted (n : Int) : ∀ l, l.Pairwise (· ≤ ·) → (insI n l).Pairwise (· ≤ ·)
  | [], _ => by simp [insI]
  | m :: r, h => by
    unfold insI
    have h' := List.pairwise_cons.mp h
    split
    · rename_i hn
      refine List.pairwise_cons.mpr ⟨fun x hx => ?_, h⟩
      rcases List.mem_cons.mp hx with rfl | hx
      · exact hn
      · exact Int.le_trans hn (h'.1 x hx)
    · rename_i hn
      refine List.pairwise_cons.mpr ⟨fun x hx => ?_, insI_sorted n r h'.2⟩
      rcases List.mem_cons.mp ((insI_perm n r).mem_iff.mp hx) with rfl | hx
      · omega
      · exact h'.1 x hx
theorem sortI_sorted : ∀ l, (sortI l).Pairwise (· ≤ ·)
  | [] => .nil
  | n :: r => insI_sorted n _ (sortI_sorted r)
theorem sorted_unique : ∀ {l l' : List Int}, l.Pairwise (· ≤ ·) → l'.Pairwise (· ≤ ·) → l.Perm l' → l = l'
  | [], l', _, _, p => (List.Perm.nil_eq p)
  | n :: r, [], _, _, p => absurd p.length_eq (by simp)
  | n :: r, m :: r', h, h', p => by
    have a := List.pairwise_cons.mp h
    have b := List.pairwise_cons.mp h'
    have e : n = m := by
      have h1 : n ∈ m :: r' := p.mem_iff.mp List.mem_cons_self
      have h2 : m ∈ n :: r := p.mem_iff.mpr List.mem_cons_self
      rcases List.mem_cons.mp h1 with e | h1
      · exact e
      · rcases List.mem_cons.mp h2 with e | h2
        · exact e.symm
        · have := b.1 n h1; have := a.1 m h2; omega
    subst e
    rw [sorted_unique a.2 b.2 (List.Perm.cons_inv p)]

/-! ### tuples of ints in order -/
def lexLe : List Int → List Int → Bool
  | [], _ => true
  | _ :: _, [] => false
  | x :: r, y :: s => decide (x < y) || (decide (x = y) && lexLe r s)
def insT (t : List Int) : List (List Int) → List (List Int)
  | [] => [t]
  | u :: r => if lexLe t u = true then t :: u :: r else u :: insT t r
def sortT : List (List Int) → List (List Int)
  | [] => []
  | t :: r => insT t (sortT r)
theorem lexLe_refl : ∀ t : List Int, lexLe t t = true
  | [] => rfl
  | x :: r => by simp [lexLe, lexLe_refl r]
theorem lexLe_total : ∀ t u : List Int, lexLe t u = true ∨ lexLe u t = true
  | [], _ => .inl rfl
  | _ :: _, [] => .inr rfl
  | x :: r, y :: s => by
    have := lexLe_total r s
    simp only [lexLe, Bool.or_eq_true, Bool.and_eq_true, decide_eq_true_eq]
    rcases Int.lt_trichotomy x y with h | h | h
    · exact .inl (.inl h)
    · rcases this with z | z
      · exact .inl (.inr ⟨h, z⟩)
      · exact .inr (.inr ⟨h.symm, z⟩)
    · exact .inr (.inl h)
theorem lexLe_trans : ∀ {t u v : List Int}, lexLe t u = true → lexLe u v = true → lexLe t v = true
  | [], _, _, _, _ => rfl
  | _ :: _, [], _, h, _ => by cases h
  | _ :: _, _ :: _, [], _, h => by cases h
  | x :: r, y :: s, z :: q, h, k => by
    simp only [lexLe, Bool.or_eq_true, Bool.and_eq_true, decide_eq_true_eq] at h k ⊢
    rcases h with h | ⟨h1, h2⟩
    · rcases k with k | ⟨k1, k2⟩
      · exact .inl (by omega)
      · exact .inl (by omega)
    · rcases k with k | ⟨k1, k2⟩
      · exact .inl (by omega)
      · exact .inr ⟨by omega, lexLe_trans h2 k2⟩
theorem lexLe_anti : ∀ {t u : List Int}, lexLe t u = true → lexLe u t = true → t = u
  | [], [], _, _ => rfl
  | [], _ :: _, _, h => by cases h
  | _ :: _, [], h, _ => by cases h
  | x :: r, y :: s, h, k => by
    simp only [lexLe, Bool.or_eq_true, Bool.and_eq_true, decide_eq_true_eq] at h k
    have e : x = y := by omega
    subst e
    rw [lexLe_anti (t := r) (u := s) (by simpa using h) (by simpa using k)]
theorem insT_perm (t : List Int) : ∀ l, (insT t l).Perm (t :: l)
  | [] => .refl _
  | u :: r => by
    unfold insT
    split
    · exact .refl _
    · exact (List.Perm.cons u (insT_perm t r)).trans (List.Perm.swap t u r)
theorem sortT_perm : ∀ l, (sortT l).Perm l
  | [] => .refl _
  | t :: r => (insT_perm t _).trans ((sortT_perm r).cons t)
theorem insT_sorted (t : List Int) : ∀ l, l.Pairwise (fun a b => lexLe a b = true) → (insT t l).Pairwise (fun a b => lexLe a b = true)
  | [], _ => by simp [insT]
  | u :: r, h => by
    unfold insT
    have h' := List.pairwise_cons.mp h
    split
    · rename_i hn
      refine List.pairwise_cons.mpr ⟨fun x hx => ?_, h⟩
      rcases List.mem_cons.mp hx with rfl | hx
      · exact hn
      · exact lexLe_trans hn (h'.1 x hx)
    · rename_i hn
      refine List.pairwise_cons.mpr ⟨fun x hx => ?_, insT_sorted t r h'.2⟩
      rcases List.mem_cons.mp ((insT_perm t r).mem_iff.mp hx) with rfl | hx
      · exact (lexLe_total x u).resolve_left hn
      · exact h'.1 x hx
theorem sortT_sorted : ∀ l, (sortT l).Pairwise (fun a b => lexLe a b = true)
  | [] => .nil
  | t :: r => insT_sorted t _ (sortT_sorted r)
theorem sortedT_unique : ∀ {l l' : List (List Int)}, l.Pairwise (fun a b => lexLe a b = true) → l'.Pairwise (fun a b => lexLe a b = true) → l.Perm l' → l = l'
  | [], l', _, _, p => (List.Perm.nil_eq p)
  | n :: r, [], _, _, p => absurd p.length_eq (by simp)
  | n :: r, m :: r', h, h', p => by
    have a := List.pairwise_cons.mp h
    have b := List.pairwise_cons.mp h'
    have e : n = m := by
      have h1 : n ∈ m :: r' := p.mem_iff.mp List.mem_cons_self
      have h2 : m ∈ n :: r := p.mem_iff.mpr List.mem_cons_self
      rcases List.mem_cons.mp h1 with e | h1
      · exact e
      · rcases List.mem_cons.mp h2 with e | h2
        · exact e.symm
        · exact lexLe_anti (a.1 m h2) (b.1 n h1)
    subst e
    rw [sortedT_unique a.2 b.2 (List.Perm.cons_inv p)]
/-- by the code in B that the kit's sort goes by -/
theorem code_bd {B : Int} (hB : 0 < B) : ∀ {ns : List Int}, TS.Bd B ns → 0 ≤ TS.code B ns ∧ TS.code B ns < B ^ ns.length
  | [], _ => by simp [TS.code]
  | d :: r, h => by
    obtain ⟨h1, h2⟩ := code_bd hB h.tail
    obtain ⟨h3, h4⟩ := h.head
    have := TS.num1 h1 h2 h3 h4
    rw [List.length_cons, Int.pow_succ]
    exact this
theorem code_le {B : Int} (hB : 0 < B) : ∀ {ns ms : List Int}, ns.length = ms.length → TS.Bd B ns → TS.Bd B ms → TS.code B ns ≤ TS.code B ms → lexLe ns ms = true
  | [], _, _, _, _, _ => rfl
  | _ :: _, [], e, _, _, _ => by cases e
  | x :: r, y :: s, e, h, k, hc => by
    have he : r.length = s.length := by simpa using e
    obtain ⟨h1, h2⟩ := code_bd hB h.tail
    obtain ⟨k1, k2⟩ := code_bd hB k.tail
    have hp : 0 < B ^ r.length := Int.pow_pos hB
    have hc : x * B ^ r.length + TS.code B r ≤ y * B ^ s.length + TS.code B s := hc
    rw [← he] at hc k2
    simp only [lexLe, Bool.or_eq_true, Bool.and_eq_true, decide_eq_true_eq]
    have hxy : x ≤ y := by
      refine Decidable.byContradiction fun z => ?_
      have h5 : (y + 1) * B ^ r.length ≤ x * B ^ r.length := Int.mul_le_mul_of_nonneg_right (by omega) (Int.le_of_lt hp)
      rw [Int.add_mul, Int.one_mul] at h5
      omega
    by_cases hx : x < y
    · exact .inl hx
    · have : x = y := by omega
      subst this
      exact .inr ⟨rfl, code_le hB he h.tail k.tail (by omega)⟩
/-- tuples of one length that the kit's sort takes -/
def okT : List (List Int) → Bool
  | [] => true
  | t :: r => decide (1 ≤ t.length) && (t :: r).all fun u => decide (u.length = t.length) && u.all fun i => decide (0 ≤ i) && decide (i < 1000000000000)
theorem okT_all {ts : List (List Int)} (h : okT ts = true) : ∃ d, 1 ≤ d ∧ ∀ u ∈ ts, u.length = d ∧ TS.Bd 1000000000000 u := by
  cases ts with
  | nil => exact ⟨1, Nat.le_refl _, fun u hu => by cases hu⟩
  | cons t r =>
    unfold okT at h
    rw [Bool.and_eq_true, decide_eq_true_eq, List.all_eq_true] at h
    refine ⟨t.length, h.1, fun u hu => ?_⟩
    have := h.2 u hu
    rw [Bool.and_eq_true, decide_eq_true_eq, List.all_eq_true] at this
    refine ⟨this.1, fun m hm => ?_⟩
    simpa using this.2 m hm
theorem okT_of {ts : List (List Int)} {d : Nat} (hd : 1 ≤ d) (h : ∀ u ∈ ts, u.length = d ∧ ∀ i ∈ u, 0 ≤ i ∧ i < 1000000000000) : okT ts = true := by
  cases ts with
  | nil => rfl
  | cons t r =>
    have e : t.length = d := (h t List.mem_cons_self).1
    unfold okT
    rw [Bool.and_eq_true, decide_eq_true_eq, List.all_eq_true]
    refine ⟨by omega, fun u hu => ?_⟩
    have := h u hu
    rw [Bool.and_eq_true, decide_eq_true_eq, List.all_eq_true]
    exact ⟨by omega, fun i hi => by simpa using this.2 i hi⟩
/-- tuples of ints -/
def tupsOf : List D → Option (List (List Int))
  | [] => some []
  | .tuple es :: r => (intsOf es).bind fun ns => (tupsOf r).map (ns :: ·)
  | _ :: _ => none
theorem tupsOf_map : ∀ ts : List (List Int), tupsOf (ts.map fun ns => PyData.tuple (ns.map .int)) = some ts
  | [] => rfl
  | t :: r => by simp [tupsOf, tupsOf_map r, intsOf_map]
theorem tupsOf_eq : ∀ {ds : List D} {ts : List (List Int)}, tupsOf ds = some ts → ds = ts.map fun ns => PyData.tuple (ns.map .int)
  | [], ts, h => by cases h; rfl
  | .tuple es :: r, ts, h => by
    unfold tupsOf at h
    obtain ⟨ns, h1, h2⟩ := Option.bind_eq_some_iff.mp h
    obtain ⟨l, h3, rfl⟩ := Option.map_eq_some_iff.mp h2
    rw [intsOf_eq h1, tupsOf_eq h3]; rfl
  | .none :: r, _, h => by simp [tupsOf] at h
  | .bool _ :: r, _, h => by simp [tupsOf] at h
  | .int _ :: r, _, h => by simp [tupsOf] at h
  | .str _ :: r, _, h => by simp [tupsOf] at h
  | .list _ :: r, _, h => by simp [tupsOf] at h
  | .dict _ :: r, _, h => by simp [tupsOf] at h
/-- the tuples of a list of tuples of ints -/
theorem tups_at {K : PySem.W.Frag} {F : Hp} : ∀ {ts : List (List Int)} {vs : List V}, Dats K F vs (ts.map fun ns => PyData.tuple (ns.map .int)) → ∃ ks : List (Addr × List Int), vs = (ks.map fun p => V.ref p.1) ∧ (∀ p ∈ ks, TupAt K F p.1 (p.2.map V.int)) ∧ ks.map (·.2) = ts
  | [], vs, h => by cases h; exact ⟨[], rfl, (fun p hp => by cases hp), rfl⟩
  | t :: ts, vs, h => by
    cases h with
    | cons r1 r2 =>
      obtain ⟨ks, rfl, h1, rfl⟩ := tups_at r2
      cases r1 with
      | tup e d z =>
        rename_i a ws
        cases d.ints
        exact ⟨(a, t) :: ks, rfl, (fun p hp => by rcases List.mem_cons.mp hp with rfl | hp; exact e; exact h1 p hp), rfl⟩
/-- .. and back -/
theorem dats_tups {K : PySem.W.Frag} {F : Hp} : ∀ {ks : List (Addr × List Int)}, (∀ p ∈ ks, TupAt K F p.1 (p.2.map V.int) ∧ p.2.length ≤ 16777216) → Dats K F (ks.map fun p => V.ref p.1) (ks.map fun p => PyData.tuple (p.2.map .int))
  | [], _ => .nil
  | p :: r, h => .cons (.tup (h p List.mem_cons_self).1 (Dats.ofInts _) (by rw [List.length_map]; exact (h p List.mem_cons_self).2)) (dats_tups fun q hq => h q (List.mem_cons_of_mem _ hq))
theorem perm_tups {α : Type} {f : α → V} : ∀ {ys : List V} {ks : List α}, ys.Perm (ks.map f) → ∃ ks' : List α, ks'.Perm ks ∧ ys = ks'.map f := by
  intro ys ks h
  generalize hz : ks.map f = zs at h
  induction h generalizing ks with
  | nil =>
    have : ks = [] := List.map_eq_nil_iff.mp hz
    subst this
    exact ⟨[], .refl _, rfl⟩
  | @cons x l1 l2 p ih =>
    cases ks with
    | nil => cases hz
    | cons k r =>
      simp only [List.map_cons, List.cons.injEq] at hz
      obtain ⟨ks', h1, h2⟩ := ih hz.2
      exact ⟨k :: ks', h1.cons k, by rw [List.map_cons, hz.1, h2]⟩
  | swap x y l =>
    match ks, hz with
    | a :: b :: r, hz =>
      simp only [List.map_cons, List.cons.injEq] at hz
      exact ⟨b :: a :: r, List.Perm.swap a b r, by rw [List.map_cons, List.map_cons, hz.1, hz.2.1, hz.2.2]⟩
  | trans p1 p2 ih1 ih2 =>
    obtain ⟨k2, h1, h2⟩ := ih2 hz
    obtain ⟨k1, h3, h4⟩ := ih1 h2.symm
    exact ⟨k1, h3.trans h1, h4⟩
def sortedSem (xs : List D) : Option D := match intsOf xs with
  | some ns => some (.list ((sortI ns).map .int))
  | none => (tupsOf xs).bind fun ts => if ts.length < 64 ∧ okT ts = true then some (.list ((sortT ts).map fun ns => PyData.tuple (ns.map .int))) else none
def lenSem : D → Option D
  | .list xs => some (.int xs.length)
  | .tuple xs => some (.int xs.length)
  | .str z => if z.length ≤ 16777216 then some (.int z.length) else none
  | _ => none
def seqD : D → Option (List D)
  | .list xs => some xs
  | .tuple xs => some xs
  | _ => none
def bestSem (two one : Int → Int → Int) (many : Int → List Int → Int) (bt : D → List D → D) : List D → Option D
  | [.int i, .int j] => some (.int (two i j))
  | [d] => (seqD d).bind fun xs => match intsOf xs with
    | some (n :: r) => some (.int (many n r))
    | some [] => none
    | none => (match d, xs with
      | .list _, x :: r => (tupsOf (x :: r)).map fun _ => bt x r
      | _, _ => none)
  | _ => none
def bltSem (f : Blt) (ds : List D) : Option D :=
  match f with
  | .len => match ds with | [d] => lenSem d | _ => none
  | .all => match ds with | [.list xs] => (boolsOf xs).map fun bs => .bool (bs.all id) | _ => none
  | .any => match ds with | [.list xs] => (boolsOf xs).map fun bs => .bool (bs.any id) | _ => none
  | .sum => match ds with | [d] => (seqD d).bind fun xs => (intsOf xs).map fun ns => .int ns.sum | _ => none
  | .max => bestSem (fun i j => if j > i then j else i) (fun i _ => i) maxI PySem.W.maxD ds
  | .min => bestSem (fun i j => if j < i then j else i) (fun i _ => i) minI PySem.W.minD ds
  | .abs => match ds with | [.int i] => some (.int (if i < 0 then -i else i)) | _ => none
  | .int => match ds with | [.int i] => some (.int i) | [.bool k] => some (.int (if k then 1 else 0)) | [.str a] => if a.length ≤ 640 then (PySem.intText? a).map .int else none | _ => none
  | .tuple => match ds with | [d] => (seqD d).map .tuple | _ => none
  | .list => match ds with | [d] => (seqD d).map .list | _ => none
  | .sorted => match ds with | [.list xs] => sortedSem xs | _ => none
  | .str => match ds with | [.int i] => if i.natAbs.log2 < 1920 then some (.str (toString i)) else none | _ => none

def rBlt (W : Wd) (sem : List D → Option D) : List V → Hp → VK → Prop := fun vs H Q => ∃ F ds r, FOk W F H ∧ Good W H ∧ Rdvs W F H vs ds ∧ sem ds = some r ∧ Res W F H r Q
section
variable {X : Cx} {W : Wd}
/-- a list or a tuple that is read -/
theorem Rdv.seq {F H : Hp} {v : V} {d : D} {xs : List D} (f : FOk W F H) (r : Rdv W F H v d) (h : seqD d = some xs) : ∃ a vs, v = .ref a ∧ Dats W.K F vs xs ∧ xs.length ≤ 16777216 ∧ ((H a = some (.lst vs) ∧ d = .list xs) ∨ (TupAt W.K H a vs ∧ d = .tuple xs)) := by
  cases d with
  | list ys => cases h; obtain ⟨a, vs, e, h1, h2, h3⟩ := r.lst f; exact ⟨a, vs, e, h2, h3, .inl ⟨h1, rfl⟩⟩
  | tuple ys => cases h; obtain ⟨a, vs, e, h1, h2, h3⟩ := r.tup f; exact ⟨a, vs, e, h2, h3, .inr ⟨h1, rfl⟩⟩
  | none => cases h
  | bool _ => cases h
  | int _ => cases h
  | str _ => cases h
  | dict _ => cases h
theorem alike_tups {ts : List (List Int)} : PySem.W.AlikeAll (ts.map fun ns => PyData.tuple (ns.map .int)) := by
  refine ⟨fun x hx y hy => ?_, fun x hx => ?_⟩
  · obtain ⟨i, _, rfl⟩ := List.mem_map.mp hx
    obtain ⟨j, _, rfl⟩ := List.mem_map.mp hy
    have key : ∀ a b : List Int, PySem.W.alikeAll (a.map PyData.int) (b.map PyData.int) = true := by
      intro a
      induction a with
      | nil => intro b; simp [PySem.W.alikeAll]
      | cons m r ih =>
        intro b
        cases b with
        | nil => simp [PySem.W.alikeAll]
        | cons k s => simp [PySem.W.alikeAll, PySem.W.alike, ih s]
    simp only [PySem.W.alike]
    exact key i j
  · obtain ⟨i, _, rfl⟩ := List.mem_map.mp hx
    exact fun z => by cases z
theorem depth_tups : ∀ {ts : List (List Int)}, PyData.depthAll (ts.map fun ns => PyData.tuple (ns.map .int)) ≤ 1
  | [] => Nat.zero_le _
  | t :: r => by
    simp only [List.map_cons, PyData.depthAll, PyData.depth, depth_ints]
    exact Nat.max_le.mpr ⟨by omega, depth_tups⟩
theorem call_best (hc : X.calm = true) (hK : X.K = W.K) (hu : X.A.units + 64 < cLine) (mx : Bool) : CallR X (.builtin (if mx then "max" else "min")) (rBlt W (bestSem (if mx then (fun i j => if j > i then j else i) else (fun i j => if j < i then j else i)) (fun i _ => i) (if mx then maxI else minI) (if mx then PySem.W.maxD else PySem.W.minD))) := by
  intro pins s σ H vs us Q I rv h
  obtain ⟨F, ds, r, f, g, rd, hs, q⟩ := h
  unfold bestSem at hs
  split at hs
  · cases hs
    cases rd with | cons r1 rd =>
    cases rd with | cons r2 rd =>
    cases rd
    cases r1.int; cases r2.int
    cases mx with
    | true => exact call_max2 hc pins s σ H _ us Q I rv ⟨_, _, rfl, q.int f g⟩
    | false => exact call_min2 hc pins s σ H _ us Q I rv ⟨_, _, rfl, q.int f g⟩
  · obtain ⟨xs, h1, hs⟩ := Option.bind_eq_some_iff.mp hs
    cases rd with | cons r1 rd =>
    cases rd
    split at hs
    · rename_i n ns h2
      obtain ⟨a, ws, rfl, d1, z1, hh⟩ := r1.seq f h1
      rw [intsOf_eq h2] at d1
      cases d1.ints
      cases hs
      refine cr_best hc hu mx pins s σ H _ us Q I rv ⟨a, n, ns, rfl, ?_, q.int f g⟩
      rcases hh with ⟨z, _⟩ | ⟨z, _⟩
      · exact .inl (.inl (.inl z))
      · exact .inr (hK ▸ z.seq)
    · cases hs
    · split at hs
      · rename_i ys x l _ h2
        obtain ⟨ts, h3, rfl⟩ := Option.map_eq_some_iff.mp hs
        cases h1
        obtain ⟨a, ws, rfl, hH, d1, z1⟩ := r1.lst f
        have eu : us = [Value.ref a] := Vals.ref1 rv
        subst eu
        obtain ⟨its, rvs, p, hz⟩ := I.list (.inl (.inl hH))
        have hl : s.heap.IsList a its.toArray := p.isList
        have et := tupsOf_eq h3
        have hdp : DpAll X.K H ws (x :: l) := hK ▸ Dats.dp _ _ (d1.mono f.sub)
        obtain ⟨as, rds⟩ := Dp.readsAll I (x :: l) _ its hdp rvs
        have hal : PySem.W.AlikeAll (x :: l) := by rw [et]; exact alike_tups
        have hde : X.A.units + 1 + PyData.depthAll (x :: l) < cLine := by
          have : PyData.depthAll (x :: l) ≤ 1 := by rw [et]; exact depth_tups
          omega
        have fin : ∀ (i : Nat) (v : Value) h' tk bs (m : D), its.toArray[i]? = some v → Reads h' v m bs → (∀ c o, s.heap.get? c = some o → h'.get? c = some o) → Res W F H m Q → EP X pins σ Q v { s with heap := h', toks := tk } := by
          intro i v h' tk bs m hv rdm k q
          have hv : its[i]? = some v := by simpa using hv
          obtain ⟨w, hw, rw1⟩ : ∃ w, ws[i]? = some w ∧ RelV w v := by
            cases e : ws[i]? with
            | none => rw [Vals.none_of rvs e] at hv; cases hv
            | some w =>
              obtain ⟨u, h1, h2⟩ := Vals.get rvs e
              rw [h1] at hv
              cases hv
              exact ⟨w, rfl, h2⟩
          obtain ⟨d, hd, rd1⟩ := d1.getV hw
          obtain ⟨as', r1⟩ := Dp.reads I d w v (hK ▸ Dat.dp d w (rd1.mono f.sub)) rw1
          have e := (Reads.unique (PySem.W.reads_keeps k r1) _ _ rdm).1
          subst e
          have hmem : d ∈ x :: l := List.mem_of_getElem? hd
          rw [et] at hmem
          obtain ⟨ns, _, rfl⟩ := List.mem_map.mp hmem
          exact ⟨w, H, I.kept (t' := tk) k, rw1, q.dat f g rd1 (fun ys z => by cases z)⟩
        cases mx with
        | true => exact PySem.W.max_list_data (I.ok.hd hc) hl (by simpa using rds) hal hde fun i v h' tk bs hv rd' k => fin i v h' tk bs _ hv rd' k q
        | false => exact PySem.W.min_list_data (I.ok.hd hc) hl (by simpa using rds) hal hde fun i v h' tk bs hv rd' k => fin i v h' tk bs _ hv rd' k q
      · cases hs
  · cases hs
theorem call_D (hc : X.calm = true) (hK : X.K = W.K) (hu : X.A.units + 64 < cLine) (f : Blt) : CallR X f.val (rBlt W (bltSem f)) := by
  intro pins s σ H vs us Q I rv h
  obtain ⟨F, ds, r, fo, g, rd, hs, q⟩ := h
  cases f with
  | max => exact call_best hc hK hu true pins s σ H vs us Q I rv ⟨F, ds, r, fo, g, rd, hs, q⟩
  | min => exact call_best hc hK hu false pins s σ H vs us Q I rv ⟨F, ds, r, fo, g, rd, hs, q⟩
  | len =>
    simp only [bltSem] at hs
    split at hs
    · cases rd with | cons r1 rd =>
      cases rd
      unfold lenSem at hs
      split at hs
      · cases hs
        obtain ⟨a, ws, rfl, h1, h2, z1⟩ := r1.lst fo
        exact call_len_seq pins s σ H _ us Q I rv ⟨a, ws, rfl, .inl (.inl (.inl h1)), by rw [h2.length]; exact q.int fo g⟩
      · cases hs
        obtain ⟨a, ws, rfl, h1, h2, z1⟩ := r1.tup fo
        exact call_len_seq pins s σ H _ us Q I rv ⟨a, ws, rfl, .inr (hK ▸ h1.seq), by rw [h2.length]; exact q.int fo g⟩
      · split at hs <;> cases hs
        rename_i hl
        obtain ⟨rfl, _⟩ := r1.str
        exact call_len_str pins s σ H _ us Q I rv ⟨_, rfl, by rw [sizeLine_eq]; exact hl, q.int fo g⟩
      · cases hs
    · cases hs
  | all =>
    simp only [bltSem] at hs
    split at hs
    · obtain ⟨bs, h1, rfl⟩ := Option.map_eq_some_iff.mp hs
      cases rd with | cons r1 rd =>
      cases rd
      obtain ⟨a, ws, rfl, h2, h3, z1⟩ := r1.lst fo
      rw [boolsOf_eq h1] at h3
      cases h3.bools
      exact cr_all hc pins s σ H _ us Q I rv ⟨a, bs, rfl, .inl (.inl h2), q.bool fo g⟩
    · cases hs
  | any =>
    simp only [bltSem] at hs
    split at hs
    · obtain ⟨bs, h1, rfl⟩ := Option.map_eq_some_iff.mp hs
      cases rd with | cons r1 rd =>
      cases rd
      obtain ⟨a, ws, rfl, h2, h3, z1⟩ := r1.lst fo
      rw [boolsOf_eq h1] at h3
      cases h3.bools
      exact cr_any hc pins s σ H _ us Q I rv ⟨a, bs, rfl, .inl (.inl h2), q.bool fo g⟩
    · cases hs
  | sum =>
    simp only [bltSem] at hs
    split at hs
    · obtain ⟨xs, h1, hs⟩ := Option.bind_eq_some_iff.mp hs
      obtain ⟨ns, h2, rfl⟩ := Option.map_eq_some_iff.mp hs
      cases rd with | cons r1 rd =>
      cases rd
      obtain ⟨a, ws, rfl, d1, z1, hh⟩ := r1.seq fo h1
      rw [intsOf_eq h2] at d1
      cases d1.ints
      rcases hh with ⟨z, _⟩ | ⟨z, _⟩
      · exact cr_sum hc pins s σ H _ us Q I rv ⟨a, ns, rfl, .inl (.inl z), q.int fo g⟩
      · exact cr_sumT hc pins s σ H _ us Q I rv ⟨a, ns, rfl, hK ▸ z.seq, q.int fo g⟩
    · cases hs
  | abs =>
    simp only [bltSem] at hs
    split at hs
    · cases hs
      cases rd with | cons r1 rd =>
      cases rd
      cases r1.int
      exact call_abs pins s σ H _ us Q I rv ⟨_, rfl, q.int fo g⟩
    · cases hs
  | int =>
    simp only [bltSem] at hs
    split at hs
    · cases hs
      cases rd with | cons r1 rd =>
      cases rd
      cases r1.int
      exact call_int1 pins s σ H _ us Q I rv (.inl ⟨_, rfl, q.int fo g⟩)
    · cases hs
      cases rd with | cons r1 rd =>
      cases rd
      cases r1.bool
      exact call_int1 pins s σ H _ us Q I rv (.inr ⟨_, rfl, q.int fo g⟩)
    · split at hs
      · rename_i hl
        obtain ⟨n, h1, rfl⟩ := Option.map_eq_some_iff.mp hs
        cases rd with | cons r1 rd =>
        cases rd
        obtain ⟨rfl, _⟩ := r1.str
        exact call_int_str pins s σ H _ us Q I rv ⟨_, n, rfl, h1, hl, q.int fo g⟩
      · cases hs
    · cases hs
  | tuple =>
    simp only [bltSem] at hs
    split at hs
    · obtain ⟨xs, h1, rfl⟩ := Option.map_eq_some_iff.mp hs
      cases rd with | cons r1 rd =>
      cases rd
      obtain ⟨a, ws, rfl, d1, z1, hh⟩ := r1.seq fo h1
      refine call_tuple_of pins s σ H _ us Q I rv ⟨a, ws, rfl, ?_⟩
      rcases hh with ⟨z, _⟩ | ⟨z, e⟩
      · exact .inl ⟨.inl (.inl z), fun l n => q.tup fo g n d1 z1⟩
      · subst e
        exact .inr ⟨hK ▸ z.seq, q _ _ _ (.refl fo g) r1.datT⟩
    · cases hs
  | list =>
    simp only [bltSem] at hs
    split at hs
    · obtain ⟨xs, h1, rfl⟩ := Option.map_eq_some_iff.mp hs
      cases rd with | cons r1 rd =>
      cases rd
      obtain ⟨a, ws, rfl, d1, z1, hh⟩ := r1.seq fo h1
      refine call_list_of pins s σ H _ us Q I rv ⟨a, ws, rfl, ?_, fun l n => q l ws n d1 z1⟩
      rcases hh with ⟨z, _⟩ | ⟨z, e⟩
      · exact .inl (.inl (.inl z))
      · exact .inr (hK ▸ z.seq)
    · cases hs
  | sorted =>
    simp only [bltSem] at hs
    split at hs
    · rename_i xs
      unfold sortedSem at hs
      cases rd with | cons r1 rd =>
      cases rd
      obtain ⟨a, ws, rfl, h2, h3, z1⟩ := r1.lst fo
      cases hi : intsOf xs with
      | some ns =>
        rw [hi] at hs
        cases hs
        rw [intsOf_eq hi] at h3
        cases h3.ints
        refine cr_sortedI pins s σ H _ us Q I rv ⟨a, ns, rfl, .inl (.inl h2), fun ns' p hp hs' n => ?_⟩
        rw [sorted_unique hs' (sortI_sorted ns) (hp.trans (sortI_perm ns).symm)]
        exact q p _ n (Dats.ofInts _) (by rw [List.length_map, (sortI_perm ns).length_eq, ← List.length_map (f := PyData.int), ← intsOf_eq hi]; exact z1)
      | none =>
        rw [hi] at hs
        obtain ⟨ts, ht, hs⟩ := Option.bind_eq_some_iff.mp hs
        split at hs <;> cases hs
        rename_i hl
        obtain ⟨hl, ho⟩ := hl
        obtain ⟨d, hd, hall⟩ := okT_all ho
        have hxs := tupsOf_eq ht
        rw [hxs] at h3
        obtain ⟨ks, rfl, hk, rfl⟩ := tups_at h3
        have hsq : ∀ p ∈ ks, SqT W.K H p.1 (p.2.map V.int) := fun p hp => ((hk p hp).mono fo.sub).seq
        refine cr_sortT (d := d) (B := 1000000000000) hd pins s σ H _ us Q I rv ⟨a, _, rfl, .inl (.inl h2), by simpa using hl, fun x hx => ?_, fun ys p hperm hpw n => ?_⟩
        · obtain ⟨p, hp, rfl⟩ := List.mem_map.mp hx
          obtain ⟨b1, b2⟩ := hall p.2 (List.mem_map.mpr ⟨p, hp, rfl⟩)
          exact ⟨p.2, ⟨p.1, rfl, hK ▸ hsq p hp⟩, b1, b2⟩
        · obtain ⟨ks', hp', rfl⟩ := perm_tups hperm
          have hmem : ∀ p ∈ ks', p ∈ ks := fun p hp => hp'.mem_iff.mp hp
          have hsort : (ks'.map (·.2)).Pairwise (fun a b => lexLe a b = true) := by
            rw [List.pairwise_map] at hpw ⊢
            refine List.Pairwise.imp_of_mem (fun {u v} hu hv h => ?_) hpw
            obtain ⟨u1, u2⟩ := hall u.2 (List.mem_map.mpr ⟨u, hmem u hu, rfl⟩)
            obtain ⟨v1, v2⟩ := hall v.2 (List.mem_map.mpr ⟨v, hmem v hv, rfl⟩)
            exact code_le (by decide) (by omega) u2 v2 (h _ _ ⟨u.1, rfl, hK ▸ hsq u (hmem u hu)⟩ ⟨v.1, rfl, hK ▸ hsq v (hmem v hv)⟩)
          have he : ks'.map (·.2) = sortT (ks.map (·.2)) := sortedT_unique hsort (sortT_sorted _) ((hp'.map _).trans (sortT_perm _).symm)
          have hlen : ks'.length < 64 := by rw [hp'.length_eq]; simpa using hl
          refine q p _ n (by
            rw [← he, List.map_map]
            refine dats_tups fun p hp => ⟨hk p (hmem p hp), ?_⟩
            have e1 : PyData.tuple (p.2.map .int) ∈ xs := by rw [hxs, List.map_map]; exact List.mem_map.mpr ⟨p, hmem p hp, rfl⟩
            rw [hxs] at e1
            obtain ⟨w, hw1, hw2⟩ := (show ∃ w, w ∈ ks.map (fun p => V.ref p.1) ∧ Dat W.K F w (.tuple (p.2.map .int)) from by
              have hm := hmem p hp
              obtain ⟨j, hj, rfl⟩ := List.getElem_of_mem hm
              obtain ⟨v, g1, g2⟩ := h3.get (i := j) (d := .tuple (ks[j].2.map .int)) (by rw [List.map_map, List.getElem?_map, List.getElem?_eq_getElem hj]; rfl)
              exact ⟨v, List.mem_of_getElem? g1, g2⟩)
            cases hw2 with
            | tup _ _ z => simpa using z) (by rw [List.length_map, ← he, List.length_map]; omega)
    · cases hs
  | str =>
    simp only [bltSem] at hs
    split at hs
    · split at hs <;> cases hs
      rename_i i hl
      cases rd with | cons r1 rd =>
      cases rd
      cases r1.int
      refine call_str_int pins s σ H _ us Q I rv ⟨_, rfl, hl, q.str fo g ?_⟩
      rw [strOk_iff]
      intro c hc
      rw [PySem.Str.ofString_eq_toList] at hc
      have hc2 : c ∈ (toString i).toList.map Char.toNat := hc
      obtain ⟨ch, _, rfl⟩ := List.mem_map.mp hc2
      have := ch.valid
      have h1 : ch.toNat < 0xD800 ∨ (0xDFFF < ch.toNat ∧ ch.toNat < 0x110000) := this
      omega
    · cases hs
end

/-! ### isinstance -/
def tyName : D → String
  | .none => "NoneType" | .bool _ => "bool" | .int _ => "int" | .str _ => "str" | .list _ => "list" | .tuple _ => "tuple" | .dict _ => "dict"
def isInst (d : D) (T : String) : Bool := tyName d == T || (tyName d == "bool" && T == "int")
def isTys : List String := ["int", "bool", "str", "tuple"]
theorem isInst_kit : ∀ a ∈ ["NoneType", "bool", "int", "str", "list", "tuple"], ∀ T ∈ isTys, kitB a T = some (a == T || (a == "bool" && T == "int")) := by decide +kernel
def rIsi1 (W : Wd) (T : String) : List V → Hp → VK → Prop := fun vs H Q => ∃ F v d, vs = [v, .ty T] ∧ FOk W F H ∧ Rdv W F H v d ∧ T ∈ isTys ∧ Q (.bl (isInst d T)) H
section
variable {X : Cx} {W : Wd}
theorem call_isi1 (hK : X.K = W.K) (T : String) : CallR X (.builtin "isinstance") (rIsi1 W T) := by
  intro pins s σ H vs us Q I rv h
  obtain ⟨F, v, d, rfl, f, rd, hT, q⟩ := h
  have key : ∀ a ∈ ["NoneType", "bool", "int", "str", "list", "tuple"], tyName d = a → TyX X.K H v (.type a) → wpAny (model X.prog X.w) X.A (call (.builtin "isinstance") us) (EP X pins σ Q) X.xe s := fun a ha e ty => by
    refine call_isi pins s σ H _ us Q I rv ⟨v, .ty T, .type a, .type T, isInst d T, rfl, .ty T, ty, kit_ty ?_, q⟩
    rw [isInst_kit a ha T hT]
    unfold isInst
    rw [e]
  cases d with
  | none => cases rd.none; exact key "NoneType" (by decide) rfl (.base .non)
  | bool b => cases rd.bool; exact key "bool" (by decide) rfl (.base (.bl _))
  | int b => cases rd.int; exact key "int" (by decide) rfl (.base (.int _))
  | str b => cases rd.str.1; exact key "str" (by decide) rfl (.base (.str _))
  | list b => obtain ⟨a, ws, rfl, h1, h2, z1⟩ := rd.lst f; exact key "list" (by decide) rfl (.base (.lst h1))
  | tuple b =>
    obtain ⟨a, ws, rfl, h1, h2, z1⟩ := rd.tup f
    rcases h1 with h1 | ⟨o, its, n, h1, h3, _⟩
    · exact key "tuple" (by decide) rfl (.base (.tup h1))
    · exact key "tuple" (by decide) rfl (.kTuple (hK ▸ h1) h3)
  | dict b => exact rd.dict.elim
end

/-! ### unary, truth -/
def unSem : UnaryOp → D → Option D
  | .USub, .int a => some (.int (-a))
  | _, _ => none
def truth : D → Option Bool
  | .none => some false
  | .bool b => some b
  | .int i => some (i != 0)
  | .list xs => some (!xs.isEmpty)
  | .tuple xs => some (!xs.isEmpty)
  | .str _ => none
  | .dict _ => none
section
variable {X : Cx} {W : Wd}
def rUnD (W : Wd) (op : UnaryOp) : V → Hp → VK → Prop := fun x H Q => ∃ F d r, FOk W F H ∧ Good W H ∧ Rdv W F H x d ∧ unSem op d = some r ∧ Res W F H r Q
theorem un_D (op : UnaryOp) : UnR X (unaryOp op) (rUnD W op) := by
  intro pins s σ H x v Q I rx h
  obtain ⟨F, d, r, f, g, rd, hs, q⟩ := h
  unfold unSem at hs
  split at hs
  · cases hs
    cases rd.int
    exact un_neg pins s σ H _ v Q I rx ⟨_, rfl, q.int f g⟩
  · cases hs
theorem Rdv.truth {F H : Hp} {v : V} {d : D} {b : Bool} (hK : X.K = W.K) (f : FOk W F H) (r : Rdv W F H v d) (h : truth d = some b) : TruV X.K v H b := by
  cases d with
  | none => cases r.none; cases h; rfl
  | bool c => cases r.bool; cases h; rfl
  | int c => cases r.int; cases h; rfl
  | str c => cases h
  | dict c => cases h
  | list xs =>
    cases h
    obtain ⟨a, ws, rfl, h1, h2, z1⟩ := r.lst f
    refine .inl ⟨ws, .inl (.inl h1), ?_⟩
    cases h2 <;> rfl
  | tuple xs =>
    cases h
    obtain ⟨a, ws, rfl, h1, h2, z1⟩ := r.tup f
    refine .inr (.inl ⟨ws, hK ▸ h1.seq, ?_⟩)
    cases h2 <;> rfl
end
end Dl

set_option Elab.async false
set_option linter.all false
set_option maxRecDepth 100000
set_option maxHeartbeats 4000000
/-! the data layer, part 33: sets of ints, sets of tuples of ints, walks backwards -/
namespace Dl
open PySem PySem.Spec PyProof.Rows L2
/-- a set that is new -/
def sob (w : World) : Obj := { cls := .type "set", dict := none, data := .set #[] 0 (.fresh 0 0 (!w.params.followText "set-order")) }
section
variable {P : Program} {w : World} {A : Around} {E : Value → Shared → Prop} {s : Shared}
/-- what is behind set(xs) of a list of ints -/
def SetAfter (w : World) (s : Shared) (ns : List Int) (h' : Heap) : Prop :=
  ∃ c, SetR w h' s.heap.objs.size (fun j => decide (j ∈ ns)) c ∧ c ≤ ns.length ∧ ∀ b o, s.heap.get? b = some o → h'.get? b = some o
set_option maxRecDepth 100000 in
set_option maxHeartbeats 3200000 in
theorem set_lst {l : Addr} {xs : Array Value} (ns : List Int) {Q : Value → Shared → Prop} (a0 : A.handled = none) (lx : s.heap.IsList l xs) (ix : IntsAre xs.toList ns) (sm : ns.length + 1 < scanBound)
    (k : ∀ (h' : Heap) (tk : Nat), SetAfter w s ns h' → Q (.ref s.heap.objs.size) { s with heap := h', toks := tk }) : wpAny (model P w) A (call (.type "set") [.ref l]) Q E s := by
  have zx : xs.size = ns.length := by
    have z := ix.length
    rwa [Array.length_toList] at z
  have ⟨_, _, r1⟩ := F.called_set.mro
  have r2 := F.called_set.made
  have r3 := F.called_set.sub
  have r4 := F.called_set.notType
  have r5 := F.called_set.canCreate
  have r6 := F.typeCall_set_1 (.ref l)
  refine wpAny_call (codeAny_of_tree ?_)
  show wpAny _ _ (callAny (.type "set") _) _ _ _
  refine wpAny_pure ⟨Code.quiet_builtin _ (by decide +kernel), codeAny_builtin F.entry_type_call ?_⟩
  rw [Around.under_plain (weight_type_call_type _ _ _) rfl]
  repeat (any_goals (first | assumption | wp_step))
  refine codeAny_mono (code_set_led1 (.ref l) (E := E) (Q₁ := fun v t => v = .ref s.heap.objs.size ∧ t = { s with heap := s.heap.push (sob w) }) ⟨rfl, rfl⟩) fun r t hr => ?_
  rcases r with e | fl
  · exact hr
  cases fl <;> try exact hr.elim
  obtain ⟨rfl, rfl⟩ := hr
  have g1 : (s.heap.push (sob w)).get? s.heap.objs.size = some (sob w) := Heap.get?_push_size _ rfl
  have g2 : ({ s with heap := s.heap.push (sob w) } : Shared).TypeIs (.ref s.heap.objs.size) "set" := ⟨_, g1, rfl⟩
  have r7 := F.called_set.init.lookup
  have r8 := F.called_set.init.bind (.ref s.heap.objs.size)
  repeat (any_goals (first | assumption | wp_step))
  refine codeAny_mono (codeAny_call_builtin (R := wants (fun v t => v = .none ∧ ∃ h' tk, t = { s with heap := h', toks := tk } ∧ SetAfter w s ns h') E) F.called_set.init.plain F.entry_set_init (check_set_init_1 g2 ?_)) fun r t hr => ?_
  · obtain ⟨⟨oc, od, odt, os⟩, ho, hc, m, hd⟩ := lx
    simp only at hc hd
    subst hc hd
    have lt0 : l < s.heap.objs.size := Heap.lt_size ho
    have g3 : (s.heap.push (sob w)).get? l = some { cls := .type "list", dict := od, data := .seq xs m, slots := os } := Heap.get?_push_of_some _ ho
    have g4 : (s.heap.push (sob w)).IsList l xs := ⟨_, g3, rfl, m, rfl⟩
    have r9 := F.sub_list_set
    have r10 := F.sub_list_frozenset
    have r11 : (Value.type "list" == Value.type "dict") = false := by decide
    unfold Builtin.«set.__init__» noKeywords Builtin.Frozenset.updateFrom
    generalize eIt : pyIter = It
    wp_walk
    subst eIt
    refine wpAny_pyIter_list g4 (wpAny_bind (wpAny_runValue ?_))
    have a1 : A.in1.in1.in1.handled = none := by simp [a0]
    have e1 : (s.heap.push (sob w)).objs.size = s.heap.objs.size + 1 := Heap.size_push ..
    have n1 : l ≠ (s.heap.push (sob w)).objs.size := Nat.ne_of_lt (e1 ▸ Nat.lt_succ_of_lt lt0)
    have n2 : s.heap.objs.size ∉ [(s.heap.push (sob w)).objs.size, l] := by
      simp only [List.mem_cons, List.not_mem_nil, or_false, not_or]
      exact ⟨Nat.ne_of_lt (e1 ▸ Nat.lt_succ_self _), Nat.ne_of_gt lt0⟩
    refine set_update_ints ((Walks.list a1 _ l n1 xs).toS) s.heap.objs.size n2 ns zx sm (fun i v hv => ?_) (xs.size - 0) 0 _ (by omega) (Nat.zero_le _) ⟨⟨_, Heap.get?_push_size _ rfl, rfl, rfl⟩, g4.push _⟩ ?_ ?_
    · have hi : i < ns.length := by rw [← zx]; exact (Array.getElem?_eq_some_iff.mp hv).1
      obtain ⟨tk, e⟩ := IntsAre.int_at ix i v (by rw [Array.getElem?_toList]; exact hv)
      refine ⟨ns[i], tk, List.getElem?_eq_getElem hi, ?_⟩
      rw [e]
      simp [hi]
    · exact ⟨0, Nat.le_refl 0, setR_new_at (Heap.get?_push_of_some _ g1)⟩
    · intro t c hm hc' hS'
      obtain ⟨h', gg, dr, tk, o2⟩ := t
      have q1 : gg = s.gens := hm.gens
      have q2 : dr = s.drawn := hm.drawn
      have q3 : o2 = s.os := hm.os
      subst q1 q2 q3
      show wpAny _ _ _ _ _ _
      refine wpAny_pure ?_
      show wpAny _ _ (ret Value.none) _ _ _
      rw [zx] at hc'
      refine wpAny_pure ⟨rfl, h', tk, rfl, c, hS', hc', fun b o e => ?_⟩
      have lb := Heap.lt_size e
      refine hm.heap b o ?_ (Heap.get?_push_of_some _ (Heap.get?_push_of_some _ e))
      simp only [List.mem_cons, List.not_mem_nil, or_false, not_or]
      exact ⟨Nat.ne_of_lt lb, Nat.ne_of_lt (e1 ▸ Nat.lt_succ_of_lt lb)⟩
  · rcases r with e | fl
    · exact hr
    cases fl <;> try exact hr.elim
    obtain ⟨rfl, h', tk, rfl, hs⟩ := hr
    repeat (any_goals (first | assumption | wp_step))
    exact k _ _ hs
end
end Dl

set_option Elab.async false
set_option linter.all false
set_option maxRecDepth 100000
set_option maxHeartbeats 4000000
/-! the data layer, part 34: backwards; special forms with one argument -/
namespace Dl
open PySem PySem.Spec PyProof.Rows L2
section
variable {P : Program} {w : World} {A : Around} {E : Value → Shared → Prop} {s : Shared}
/-! ### t[::-1] -/
theorem back_places (n : Nat) : Builtin.Slice.slicePlaces ((n : Int) - 1) (-1) (-1) = n := by
  unfold Builtin.Slice.slicePlaces
  by_cases h : n = 0
  · subst h; decide
  · simp only [show ¬ ((-1 : Int) > 0) by decide, if_false, show ((n : Int) - 1) > -1 by omega, if_true, Int.neg_neg, Int.ediv_one]
    omega
theorem back_pick (xs : Array Value) : ((List.range xs.size).filterMap fun (m : Nat) => xs[(((xs.size : Int) - 1) + (m : Int) * (-1)).toNat]?).toArray = xs.toList.reverse.toArray := by
  congr 1
  apply List.ext_getElem?
  intro i
  have e : ((List.range xs.size).filterMap fun (m : Nat) => xs[(((xs.size : Int) - 1) + (m : Int) * (-1)).toNat]?) = (List.range xs.size).map fun m => xs.getD (xs.size - 1 - m) .none := by
    have key : ∀ l : List Nat, (∀ m ∈ l, m < xs.size) → (l.filterMap fun (m : Nat) => xs[(((xs.size : Int) - 1) + (m : Int) * (-1)).toNat]?) = l.map fun m => xs.getD (xs.size - 1 - m) .none := by
      intro l
      induction l with
      | nil => intro _; rfl
      | cons m r ih =>
        intro h
        have hm := h m List.mem_cons_self
        have e1 : (((xs.size : Int) - 1) + (m : Int) * (-1)).toNat = xs.size - 1 - m := by omega
        have e2 : xs[xs.size - 1 - m]? = some (xs[xs.size - 1 - m]'(by omega)) := Array.getElem?_eq_getElem (by omega)
        have e3 : xs.getD (xs.size - 1 - m) .none = xs[xs.size - 1 - m]'(by omega) := by
          rw [Array.getD_eq_getD_getElem?, e2]; rfl
        rw [List.filterMap_cons, e1, e2, List.map_cons, ih fun k hk => h k (List.mem_cons_of_mem _ hk), e3]
    exact key _ fun m hm => List.mem_range.mp hm
  rw [e, List.getElem?_map]
  by_cases hi : i < xs.size
  · rw [List.getElem?_range hi, List.getElem?_reverse (by simpa using hi)]
    simp only [Option.map_some, Array.getD_eq_getD_getElem?, Array.length_toList, Array.getElem?_toList]
    rw [Array.getElem?_eq_getElem (by omega)]; rfl
  · rw [List.getElem?_eq_none (by simp; omega), List.getElem?_eq_none (by simp; omega)]; rfl
theorem get_back {t sl : Addr} {xs : Array Value} {k : Tok} {Q : Value → Shared → Prop} (ht : IsTup s.heap t xs) (hs : s.heap.IsSliceOf sl .none .none (.int (-1) k)) (z : xs.size ≤ sizeLine)
    (h : Q (.ref s.heap.objs.size) { s with heap := s.heap.push { cls := .type "tuple", data := .seq xs.toList.reverse.toArray } }) : wpAny (model P w) A (getItem (.ref t) (.ref sl)) Q E s := by
  have ok : sizeOk (.seq xs.toList.reverse.toArray) := by
    show xs.toList.reverse.toArray.size ≤ sizeLine
    simpa using z
  obtain ⟨o, o1, o2, o3⟩ := id hs
  have ty : s.TypeIs (.ref sl) "slice" := ⟨o, o1, o2⟩
  unfold getItem
  try with_reducible refine wpAny_holding ?_
  first | refine wpAny_bind (wpAny_pure ?_) | skip
  refine wpAny_bind (wpAny_sequenceKey ht.typeIs (by decide) ?_)
  refine wpAny_bind (wpAny_callSpecial?_slot (name := Str.ofString "__getitem__") ht.typeIs PyProof.Rows.slot_tuple_getitem (wpAny_call_entry PyProof.Rows.slot_tuple_getitem ht.typeIs entry_tuple_getitem ?_ (args_tuple_getitem _ _)))
  show wpAny _ _ (Builtin.Tuple.tupleItemsOf (.ref t) >>= _) _ _ s
  refine wpAny_bind (tupleItemsOf_ ht (wpAny_bind (wpAny_typeOf ty ?_)))
  rw [if_pos (by decide)]
  have ap : ∀ (A : Around) (R : Int × Int × Nat → Shared → Prop), R ((xs.size : Int) - 1, -1, xs.size) s → wpAny (model P w) A (Builtin.Slice.sliceApplied (.ref sl) (pure (xs.size : Int))) R E s := by
    intro A R r
    unfold Builtin.Slice.sliceApplied Builtin.Slice.sliceFields
    refine wpAny_bind (wpAny_bind (wpAny_field o1 o3 (x := .none) rfl (wpAny_bind (wpAny_field o1 o3 (x := .none) rfl (wpAny_bind (wpAny_field o1 o3 (x := .int (-1) k) rfl (wpAny_pure ?_)))))))
    refine wpAny_bind (HT.slicePart_ (.int (-1) k) ?_)
    show wpAny _ _ (if ((-1 : Int) == 0) = true then _ else _) _ _ s
    rw [if_neg (by decide)]
    refine wpAny_bind (HT.slicePart_ .none (wpAny_bind (HT.slicePart_ .none (wpAny_bind (wpAny_pure ?_)))))
    have e : Builtin.Slice.sliceAdjust none none (-1) (xs.size : Int) = ((xs.size : Int) - 1, -1) := rfl
    show wpAny _ _ (match Builtin.Slice.sliceAdjust none none (-1) (xs.size : Int) with | (lo, hi) => pure (lo, (-1 : Int), Builtin.Slice.slicePlaces lo hi (-1))) _ _ s
    rw [e]
    show wpAny _ _ (pure ((xs.size : Int) - 1, (-1 : Int), Builtin.Slice.slicePlaces ((xs.size : Int) - 1) (-1) (-1))) _ _ s
    rw [back_places]
    exact wpAny_pure r
  refine wpAny_bind (ap _ _ ?_)
  show wpAny _ _ (if ((((xs.size : Int) - 1) == 0 && (-1 : Int) == 1 && xs.size == xs.size)) = true then _ else _) _ _ s
  rw [if_neg (by simp), back_pick]
  first
    | exact wpAny_bind (m := Builtin.Tuple.tupleExact _) (wpAny_newObj_type (wpAny_pure ⟨_, rfl, wpAny_pure h⟩) ok)
    | exact wpAny_bind (m := Builtin.Tuple.tupleExact _) (wpAny_newObj_type (wpAny_bind (wpAny_pure (wpAny_pure ⟨_, rfl, wpAny_pure h⟩))) ok)
    | exact wpAny_bind (wpAny_bind (m := Builtin.Tuple.tupleExact _) (wpAny_newObj_type (wpAny_pure (wpAny_pure ⟨_, rfl, wpAny_pure h⟩)) ok))
    | exact wpAny_bind (wpAny_bind (m := Builtin.Tuple.tupleExact _) (wpAny_newObj_type (wpAny_pure ⟨_, rfl, wpAny_pure h⟩) ok))
end
/-! ### without the ones that come again -/
def nub {α : Type} [DecidableEq α] : List α → List α
  | [] => []
  | a :: r => if a ∈ r then nub r else a :: nub r
theorem mem_nub {α : Type} [DecidableEq α] {x : α} : ∀ {l : List α}, x ∈ nub l ↔ x ∈ l
  | [] => Iff.rfl
  | a :: r => by
    unfold nub
    split
    · rename_i h
      rw [mem_nub (l := r), List.mem_cons]
      exact ⟨.inr, fun z => z.elim (fun e => e ▸ h) id⟩
    · rw [List.mem_cons, List.mem_cons, mem_nub (l := r)]
theorem nub_nodup {α : Type} [DecidableEq α] : ∀ l : List α, (nub l).Nodup
  | [] => .nil
  | a :: r => by
    unfold nub
    split
    · exact nub_nodup r
    · rename_i h
      exact List.nodup_cons.mpr ⟨fun z => h (mem_nub.mp z), nub_nodup r⟩
theorem nub_le {α : Type} [DecidableEq α] : ∀ l : List α, (nub l).length ≤ l.length
  | [] => Nat.le_refl _
  | a :: r => by
    unfold nub
    have := nub_le r
    split <;> simp <;> omega
theorem perm_of_mem {α : Type} [DecidableEq α] {l m : List α} (h1 : l.Nodup) (h2 : m.Nodup) (h : ∀ x, x ∈ l ↔ x ∈ m) : l.Perm m := (List.perm_ext_iff_of_nodup h1 h2).mpr h
theorem nub_perm {α : Type} [DecidableEq α] {l m : List α} (h1 : m.Nodup) (h : ∀ x, x ∈ m ↔ x ∈ l) : (nub l).Perm m := perm_of_mem (nub_nodup l) h1 fun x => mem_nub.trans (h x).symm
/-! ### set(xs): ints -/
section
variable {X : Cx}
def rSetI (K : PySem.W.Frag) (w : World) : List V → Hp → VK → Prop := fun xs H Q => ∃ (l : Addr) (ns : List Int), xs = [V.ref l] ∧ (SqL K H l (ns.map V.int) ∨ SqT K H l (ns.map V.int)) ∧ ns.length < 4000 ∧
  ∀ a, H a = none → Q (.ref a) (upd H a (SetO w a (fun j => decide (j ∈ ns)) (nub ns).length))
theorem setR_len {w : World} {h : Heap} {a : Addr} {ns : List Int} {c : Nat} (r : SetR w h a (fun j => decide (j ∈ ns)) c) : c = (nub ns).length := by
  obtain ⟨o, es, ep, t, ho, hex, hd, g, nd, hm, hb, hf, hn, hr, hl⟩ := r
  have := (nub_perm (l := ns) nd fun x => (hm x).symm.trans (by simp)).length_eq
  rw [this, List.length_map, ← hn, Array.length_toList]
theorem cr_setI (hc : X.calm = true) : CallR X (.type "set") (rSetI X.K X.w) := by
  intro pins s σ H xs us Q I r h
  obtain ⟨l, ns, rfl, hl, hf, q⟩ := h
  rw [Vals.ref1 r]
  have hn : H s.heap.objs.size = none := I.hok.fresh (Nat.le_refl _)
  have fin : ∀ (h' : Heap) (tk c : Nat), SetR X.w h' s.heap.objs.size (fun j => decide (j ∈ ns)) c → (∀ b o, s.heap.get? b = some o → h'.get? b = some o) → EP X pins σ Q (.ref s.heap.objs.size) { s with heap := h', toks := tk } := fun h' tk c r k => by
    have := setR_len r
    subst this
    exact ⟨.ref s.heap.objs.size, _, I.laid (t' := tk) k (Nat.le_refl _) (setO_new r), rfl, q _ hn⟩
  have big : ns.length + 1 < scanBound := by unfold scanBound; omega
  rcases hl with hl | hl
  · obtain ⟨its, rv, pl, hz⟩ := I.list hl
    exact set_lst (P := X.prog) (w := X.w) ns (I.ok.hd hc) pl.isList (by simpa using rv.ints) big fun h' tk ⟨c, r, _, k⟩ => fin h' tk c r k
  · obtain ⟨its, rv, pl, hz⟩ := I.tuple hl
    exact call_set_tupI (P := X.prog) (w := X.w) ns (I.ok.hd hc) pl (by simpa using rv.ints) big fun h' tk c r _ k => fin h' tk c r k
/-! ### len(set) -/
def rLenSet (K : PySem.W.Frag) (P : Program) (w : World) : List V → Hp → VK → Prop := fun vs H Q => ∃ a, vs = [V.ref a] ∧ ((∃ S n, H a = some (SetO w a S n) ∧ Q (.int (n : Nat)) H) ∨
  ∃ L : List (Addr × List Int), H a = some (SetTO P w a L) ∧ (∀ p ∈ L, SqT K H p.1 (p.2.map V.int)) ∧ ((L.map (·.2)).Nodup → Q (.int (L.length : Nat)) H))
theorem cr_lenSet : CallR X (.builtin "len") (rLenSet X.K X.prog X.w) := by
  intro pins s σ H vs us Q I r h
  obtain ⟨a, rfl, h⟩ := h
  rw [Vals.ref1 r]
  rcases h with ⟨S, n, ha, q⟩ | ⟨L, ha, hL, q⟩
  · obtain ⟨o, es, ep, t, ho, hex, hd, g, nd, hm, hb, hf, hn, hr, hl⟩ := setO_get I ha
    exact call_len_set ho hex hd hf (by unfold scanBound at hb; omega) ⟨.int (n : Nat), H, I.tok _, ⟨_, by rw [hn]⟩, q⟩
  · have t0 : SetT0 X.prog X.w s.heap a L := (I.hok a _ ha).1
    obtain ⟨es, ep, t, R⟩ := t0.full fun p hp => I.isT (hL p hp)
    obtain ⟨o, ho, hex, hd⟩ := R.ob
    have hs := R.size
    have hf := R.few
    exact call_len_set ho hex hd R.fits (by omega) ⟨.int (L.length : Nat), H, I.tok _, ⟨_, by rw [hs]⟩, q R.nd⟩
end
/-! ### special forms -/
inductive SpF | rev | setLen | setSort | enumL | zfill (n : Nat) | split (s : Str) | join (s : Str)
  deriving DecidableEq
def lenSetSem (d : D) : Option D := (seqD d).bind fun xs => match intsOf xs with
  | some ns => if ns.length < 4000 then some (.int (nub ns).length) else none
  | none => match d with
    | .list _ => (tupsOf xs).bind fun ts => if ts.length < 64 then some (.int (nub ts).length) else none
    | _ => none
def setSortSem (d : D) : Option D := (seqD d).bind fun xs => match intsOf xs with
  | some ns => if ns.length < 64 then some (.list ((sortI (nub ns)).map .int)) else none
  | none => match d with
    | .list _ => (tupsOf xs).bind fun ts => if ts.length < 64 ∧ okT ts = true then some (.list ((sortT (nub ts)).map fun ns => PyData.tuple (ns.map .int))) else none
    | _ => none
/-- texts -/
def strsOf : List D → Option (List Str)
  | [] => some []
  | .str x :: r => (strsOf r).map (x :: ·)
  | _ :: _ => none
theorem strsOf_map : ∀ ns : List Str, strsOf (ns.map .str) = some ns
  | [] => rfl
  | n :: r => by simp [strsOf, strsOf_map r]
theorem strsOf_eq : ∀ {ds : List D} {ns : List Str}, strsOf ds = some ns → ds = ns.map .str
  | [], ns, h => by simp [strsOf] at h; subst h; rfl
  | .str i :: r, ns, h => by
    simp only [strsOf, Option.map_eq_some_iff] at h
    obtain ⟨l, h1, rfl⟩ := h
    rw [strsOf_eq h1]; rfl
  | .none :: r, ns, h => by simp [strsOf] at h
  | .bool _ :: r, ns, h => by simp [strsOf] at h
  | .int _ :: r, ns, h => by simp [strsOf] at h
  | .list _ :: r, ns, h => by simp [strsOf] at h
  | .tuple _ :: r, ns, h => by simp [strsOf] at h
  | .dict _ :: r, ns, h => by simp [strsOf] at h
theorem dats_strs {K : PySem.W.Frag} {F : Hp} : ∀ {ns : List Str} {vs : List V}, Dats K F vs (ns.map .str) → vs = ns.map V.str
  | [], vs, h => by cases h; rfl
  | n :: ns, vs, h => by cases h with | cons a b => cases a; rw [dats_strs b]; rfl
theorem dats_ofStrs {K : PySem.W.Frag} {F : Hp} : ∀ {ns : List Str}, ns.all PyData.strOk = true → Dats K F (ns.map V.str) (ns.map .str)
  | [], _ => .nil
  | n :: ns, h => by
    rw [List.all_cons, Bool.and_eq_true] at h
    exact .cons (.str n h.1) (dats_ofStrs h.2)
def joinSem (s : Str) (xs : List D) : Option D := (strsOf xs).bind fun ys => if (ys.map (·.length)).sum + ys.length * s.length ≤ 16777216 ∧ PyData.strOk (Txt.join s ys) = true then some (.str (Txt.join s ys)) else none
def spSem : SpF → D → Option D
  | .rev, .tuple xs => some (.tuple xs.reverse)
  | .rev, .list xs => some (.list xs.reverse)
  | .rev, _ => none
  | .setLen, d => lenSetSem d
  | .setSort, d => setSortSem d
  | .zfill n, .str a => if n ≤ 1000 ∧ PyData.strOk (Txt.zfill a n) = true then some (.str (Txt.zfill a n)) else none
  | .zfill _, _ => none
  | .split s, .str a => if (s.length == 0) = false ∧ a.length ≤ 1000000 ∧ ((Txt.split a s).all PyData.strOk = true ∧ (Txt.split a s).length ≤ 16777216) then some (.list ((Txt.split a s).map .str)) else none
  | .split _, _ => none
  | .join s, .list xs => joinSem s xs
  | .join _, _ => none
  | .enumL, .tuple xs => some (.list ((List.range xs.length).zipWith (fun (i : Nat) x => PyData.tuple [.int (i : Int), x]) xs))
  | .enumL, _ => none
end Dl

set_option Elab.async false
set_option linter.all false
set_option maxRecDepth 100000
set_option maxHeartbeats 4000000
/-! the data layer, part 4: the small language and its weakest preconditions -/
namespace Dl
open PySem PySem.Spec PyProof.Rows L2

inductive Cst | non | bl (b : Bool) | int (i : Int) | str (x : Str)
def Cst.d : Cst → D
  | .non => .none | .bl b => .bool b | .int i => .int i | .str x => .str x
mutual
inductive Pat
  | name (i : Nat) (x : Str)
  | tup (ps : Pats)
inductive Pats
  | nil
  | cons (p : Pat) (r : Pats)
end
/-- of a dict: its keys sorted, whether it has a key, what stands at a key -/
inductive DxF | srt | isin (neg : Bool) | get | kin (neg : Bool) | con (x : Str) (kvs : List (Int × List Int)) | lit (kvs : List (Int × List Int)) | pick (r : Nat)
mutual
inductive E
  | var (i : Nat) | rd (i : Nat) | cst (c : Cst) | glob (x : Str)
  | bin (op : Operator) (a b : E) | un (op : UnaryOp) (a : E)
  | cmp (op : CmpOp) (a b : E) | chn (o p : CmpOp) (a b c : E)
  | ands (as : EL) | ors (as : EL) | not (a : E) | ite (c a b : E)
  | isi (a : E) (T : String)
  | call (f : Str) (r : Option Nat) (as : EL) (ks : List Str) (kws : EL)
  | blt (f : Blt) (as : EL)
  | idx (a i : E) | slc (a : E) (lo hi : EO)
  | tup (as : EL) | lst (as : EL)
  | lc (elt : E) (own : List (Str × Nat)) (tg : Pat) (it : It1) (cs : EL)
  | lc2 (elt : E) (own : List (Str × Nat)) (tg : Pat) (it : It1) (cs : EL) (vs1 : List Nat) (tg1 : Pat) (it1 : It1) (cs1 : EL)
  | lc3 (elt : E) (own : List (Str × Nat)) (tg : Pat) (it : It1) (cs : EL) (vs1 : List Nat) (tg1 : Pat) (it1 : It1) (cs1 : EL) (vs2 : List Nat) (tg2 : Pat) (it2 : It1) (cs2 : EL)
  | told (e : E)
  | lrg (tu : Bool) (a b : E) | lrg1 (tu : Bool) (a : E) | lrg3 (a b c : E)
  | sp (k : SpF) (a : E)
  | dx (k : DxF) (i : Nat) (a : E)
inductive EL
  | nil
  | cons (e : E) (r : EL)
inductive EO
  | none
  | some (e : E)
inductive It1
  | of (e : E) | rng1 (a : E) | rng2 (a b : E) | rng3 (a b c : E) | enum (a : E) | zip (a b : E) | txt (e : E)
end
/-- a slot: data, a list that is owned, the row, or nothing that is known -/
inductive B | val (d : D) | own (xs : List D) | dct (kvs : List (Int × D)) | ks (ds : List D) | row | bad
/-- a list or a dict of the def's own -/
def B.live : B → Bool
  | .own _ => true
  | .dct _ => true
  | .ks _ => true
  | _ => false
abbrev Env1 := List B

structure Sig where
  ps : List Str
  row : Bool
  kws : List (List Str)
  sp : List D → (D → Prop) → (Str → Prop) → Prop
def sgOk (sg : Sig) (r : Option Nat) (ks : List Str) : Bool := (sg.row == r.isSome) && (ks.isEmpty || decide (ks ∈ sg.kws))
structure Gam where
  funs : Str → Option Sig
  cons : Str → Option D
  dcons : Str → Option (List (Int × List Int)) := fun _ => none

def opt {α : Type} (o : Option α) (Q : α → Prop) : Prop := ∃ r, o = some r ∧ Q r
@[simp] theorem opt_some {α : Type} (r : α) (Q : α → Prop) : opt (some r) Q = Q r := by simp [opt]
@[simp] theorem opt_none {α : Type} (Q : α → Prop) : opt none Q = False := by simp [opt]
def valAt (ρ : Env1) (i : Nat) : Option D := match ρ[i]? with | some (.val d) => some d | _ => none
def ownAt (ρ : Env1) (i : Nat) : Option (List D) := match ρ[i]? with | some (.own d) => some d | _ => none
def dctAt (ρ : Env1) (i : Nat) : Option (List (Int × D)) := match ρ[i]? with | some (.dct d) => some d | _ => none
/-- what a dict has at a key; a key that is stored; the keys -/
def dVal (kvs : List (Int × D)) (k : Int) : Option D := (kvs.find? fun kv => decide (kv.1 = k)).map (·.2)
def dPut (kvs : List (Int × D)) (k : Int) (v : D) : List (Int × D) := if kvs.any (fun kv => decide (kv.1 = k)) then kvs.map (fun kv => if kv.1 = k then (kv.1, v) else kv) else kvs ++ [(k, v)]
/-! tuples of ints, nested: what a dict takes as a key -/
mutual
def kOf : D → NestedKey
  | .int i => .num i
  | .tuple ds => .tup (kOfs ds)
  | .none => .none
  | .bool _ => .none
  | .str _ => .none
  | .list _ => .none
  | .dict _ => .none
def kOfs : List D → List NestedKey
  | [] => []
  | d :: ds => kOf d :: kOfs ds
end
mutual
def kPl : D → Bool
  | .int _ => true
  | .tuple ds => kPls ds
  | .none => false
  | .bool _ => false
  | .str _ => false
  | .list _ => false
  | .dict _ => false
def kPls : List D → Bool
  | [] => true
  | d :: ds => kPl d && kPls ds
end
def kOk (d : D) : Bool := match d with
  | .tuple ds => kPls ds && decide ((kOf d).depth ≤ 8)
  | _ => false
/-! data with no list in it -/
mutual
def noLst : D → Bool
  | .int _ => true
  | .tuple ds => noLsts ds
  | .none => true
  | .bool _ => true
  | .str _ => true
  | .list _ => false
  | .dict _ => false
def noLsts : List D → Bool
  | [] => true
  | d :: ds => noLst d && noLsts ds
end
def ksAt (ρ : Env1) (i : Nat) : Option (List D) := match ρ[i]? with | some (.ks d) => some d | _ => none
/-- a key more -/
def ksPut (ds : List D) (d : D) : List D := if kOf d ∈ ds.map kOf then ds else ds ++ [d]
def iAt (kvs : List (Int × List Int)) (k : Int) : Option (List Int) := (kvs.find? fun kv => decide (kv.1 = k)).map (·.2)
def rowAt (ρ : Env1) : Option Nat → Bool
  | none => true
  | some i => match ρ[i]? with | some .row => true | _ => false
mutual
def bindP : Pat → D → Env1 → Option Env1
  | .name i _, d, ρ => some (ρ.set i (.val d))
  | .tup ps, d, ρ => match d with
    | .tuple ds => bindPs ps ds ρ
    | _ => none
def bindPs : Pats → List D → Env1 → Option Env1
  | .nil, [], ρ => some ρ
  | .cons p r, d :: ds, ρ => (bindP p d ρ).bind fun ρ' => bindPs r ds ρ'
  | _, _, _ => none
end
def wipeB (ρ : Env1) : List Nat → Env1
  | [] => ρ
  | v :: vs => (wipeB ρ vs).set v .bad
/-- a comprehension's walk: what each item gives, if anything -/
def wpL (f : D → (Option D → Prop) → Prop) : List D → (List D → Prop) → Prop
  | [], Q => Q []
  | x :: xs, Q => f x fun o => wpL f xs fun ys => Q (match o with | some y => y :: ys | none => ys)
/-- .. with a walk within -/
def wpLL (f : D → (List D → Prop) → Prop) : List D → (List D → Prop) → Prop
  | [], Q => Q []
  | x :: xs, Q => f x fun zs => wpLL f xs fun ys => Q (zs ++ ys)
def rangeL (lo : Int) (c : Int) (n : Nat) : List D := (List.range n).map fun (i : Nat) => PyData.int (lo + (i : Int) * c)
def enumL (xs : List D) : List D := (List.range xs.length).zipWith (fun (i : Nat) x => PyData.tuple [.int (i : Int), x]) xs
/-- the signs of a text -/
def signsD (x : Str) : List D := x.cps.toList.map fun c => PyData.str ⟨#[c]⟩
def zipL (xs ys : List D) : List D := List.zipWith (fun x y => PyData.tuple [x, y]) xs ys
/-- what zip walks: two lists, two tuples -/
def zipD : D → D → Option (List D × List D)
  | .list xs, .list ys => some (xs, ys)
  | .tuple xs, .tuple ys => some (xs, ys)
  | .tuple xs, .list ys => some (xs, ys)
  | _, _ => none
/-- how many turns a range has -/
def rngN (i j c : Int) : Nat := (Builtin.Range.rangeSize i j c).toNat
/-- a tuple or a list of items -/
def seqOf (tu : Bool) (xs : List D) : D := match tu with
  | true => .tuple xs
  | false => .list xs
def seqN (tu : Bool) : Str := match tu with
  | true => "tuple"
  | false => "list"
section
variable (Γ : Gam)
mutual
def wpE : E → Env1 → (D → Prop) → (Str → Prop) → Prop
  | .var i, ρ, Q, _ => opt (valAt ρ i) Q
  | .rd i, ρ, Q, _ => opt (ownAt ρ i) fun xs => xs.length ≤ 16777216 → Q (.list xs)
  | .cst c, _, Q, _ => Q c.d
  | .glob x, _, Q, _ => opt (Γ.cons x) Q
  | .bin op a b, ρ, Q, X => wpE a ρ (fun d => wpE b ρ (fun e => opt (binSem op d e) Q) X) X
  | .un op a, ρ, Q, X => wpE a ρ (fun d => opt (unSem op d) Q) X
  | .cmp op a b, ρ, Q, X => wpE a ρ (fun d => wpE b ρ (fun e => opt (cmpSem op d e) fun b => Q (.bool b)) X) X
  | .chn o p a b c, ρ, Q, X => wpE a ρ (fun d => wpE b ρ (fun e => opt (cmpSem o d e) fun k => if k = true then wpE c ρ (fun e' => opt (cmpSem p e e') fun b => Q (.bool b)) X else Q (.bool false)) X) X
  | .ands as, ρ, Q, X => wpAnds as ρ Q X
  | .ors as, ρ, Q, X => wpOrs as ρ Q X
  | .not a, ρ, Q, X => wpE a ρ (fun d => opt (truth d) fun b => Q (.bool (!b))) X
  | .ite c a b, ρ, Q, X => wpT c ρ (fun k => if k = true then wpE a ρ Q X else wpE b ρ Q X) X
  | .isi a T, ρ, Q, X => wpE a ρ (fun d => Q (.bool (isInst d T))) X
  | .call f r as ks kws, ρ, Q, X => opt (Γ.funs f) fun sg => (rowAt ρ r = true ∧ sgOk sg r ks = true) ∧ wpEs as ρ (fun ds => wpEs kws ρ (fun es => sg.sp (ds ++ es) Q X) X) X
  | .blt f as, ρ, Q, X => wpEs as ρ (fun ds => opt (bltSem f ds) Q) X
  | .idx a i, ρ, Q, X => wpE a ρ (fun d => wpE i ρ (fun e => opt (ixSem d e) Q) X) X
  | .sp k a, ρ, Q, X => wpE a ρ (fun d => opt (spSem k d) Q) X
  | .dx k i a, ρ, Q, X => match k with
    | .srt => opt (dctAt ρ i) fun kvs => kvs.length < 64 ∧ Q (.list ((sortI (kvs.map (·.1))).map .int))
    | .isin neg => wpE a ρ (fun d => match d with | .int j => opt (dctAt ρ i) fun kvs => Q (.bool ((dVal kvs j).isSome != neg)) | _ => False) X
    | .get => opt (dctAt ρ i) fun kvs => wpE a ρ (fun d => match d with | .int j => opt (dVal kvs j) Q | _ => False) X
    | .kin neg => wpE a ρ (fun d => opt (ksAt ρ i) fun ds => kOk d = true ∧ Q (.bool (decide (kOf d ∈ ds.map kOf) != neg))) X
    | .con x kvs => Γ.dcons x = some kvs ∧ wpE a ρ (fun d => match d with | .int j => opt (iAt kvs j) fun ns => Q (.tuple (ns.map .int)) | _ => False) X
    | .pick r => opt (Γ.funs "_law_pick") fun sg => (rowAt ρ (some r) = true ∧ sgOk sg (some r) [] = true) ∧ opt (ownAt ρ i) fun xs => sg.sp [.list xs] (fun d => noLst d = true ∧ Q d) X
    | .lit kvs => wpE a ρ (fun d => match d with | .int j => opt (iAt kvs j) fun ns => Q (.list (ns.map .int)) | _ => False) X
  | .slc a lo hi, ρ, Q, X => wpE a ρ (fun d => wpO lo ρ (fun l => wpO hi ρ (fun h => opt (slSem l h d) Q) X) X) X
  | .tup as, ρ, Q, X => wpEs as ρ (fun ds => Q (.tuple ds)) X
  | .lst as, ρ, Q, X => wpEs as ρ (fun ds => Q (.list ds)) X
  | .lc elt own tg it cs, ρ, Q, X => wpI it ρ (fun items => wpL (fun x k => opt (bindP tg x (wipeB ρ (own.map (·.2)))) fun ρ' =>
      wpTAnds cs ρ' (fun b => if b = true then wpE elt ρ' (fun y => k (some y)) (fun _ => False) else k none) (fun _ => False)) items fun ys => Q (.list ys)) X
  | .lc2 elt own tg it cs vs1 tg1 it1 cs1, ρ, Q, X => wpI it ρ (fun items => items.length ≤ 4096 ∧ wpLL (fun x k => opt (bindP tg x (wipeB ρ (own.map (·.2)))) fun ρ' =>
      wpTAnds cs ρ' (fun b => if b = true then wpI it1 ρ' (fun items1 => items1.length ≤ 4096 ∧ wpL (fun x1 k1 => opt (bindP tg1 x1 (wipeB ρ' vs1)) fun ρ1 =>
        wpTAnds cs1 ρ1 (fun b1 => if b1 = true then wpE elt ρ1 (fun y => k1 (some y)) (fun _ => False) else k1 none) (fun _ => False)) items1 k) (fun _ => False) else k []) (fun _ => False)) items fun ys => Q (.list ys)) X
  | .lc3 elt own tg it cs vs1 tg1 it1 cs1 vs2 tg2 it2 cs2, ρ, Q, X => wpI it ρ (fun items => items.length ≤ 255 ∧ wpLL (fun x k => opt (bindP tg x (wipeB ρ (own.map (·.2)))) fun ρ' =>
      wpTAnds cs ρ' (fun b => if b = true then wpI it1 ρ' (fun items1 => items1.length ≤ 256 ∧ wpLL (fun x1 k1 => opt (bindP tg1 x1 (wipeB ρ' vs1)) fun ρ1 =>
        wpTAnds cs1 ρ1 (fun b1 => if b1 = true then wpI it2 ρ1 (fun items2 => items2.length ≤ 256 ∧ wpLL (fun x2 k2 => opt (bindP tg2 x2 (wipeB ρ1 vs2)) fun ρ2 =>
          wpTAnds cs2 ρ2 (fun b2 => if b2 = true then wpE elt ρ2 (fun y => k2 [y]) (fun _ => False) else k2 []) (fun _ => False)) items2 k1) (fun _ => False) else k1 []) (fun _ => False)) items1 k) (fun _ => False) else k []) (fun _ => False)) items fun ys => Q (.list ys)) X
  | .told e, ρ, Q, _ => wpE e ρ (fun _ => Q (.str "")) fun n => Q (.str n)
  | .lrg tu a b, ρ, Q, X => wpE a ρ (fun d => wpE b ρ (fun e => match d, e with
      | .int i, .int j => (-(2 ^ 60) ≤ i ∧ i ≤ 2 ^ 60 ∧ -(2 ^ 60) ≤ j ∧ j ≤ 2 ^ 60 ∧ j - i ≤ 16777216) ∧ Q (seqOf tu (rangeL i 1 (j - i).toNat)) | _, _ => False) X) X
  | .lrg1 tu a, ρ, Q, X => wpE a ρ (fun d => match d with | .int j => (j ≤ 16777216 ∧ -(2 ^ 60) ≤ j) ∧ Q (seqOf tu (rangeL 0 1 j.toNat)) | _ => False) X
  | .lrg3 a b c, ρ, Q, X => wpE a ρ (fun d => wpE b ρ (fun e => wpE c ρ (fun g => match d, e, g with
      | .int i, .int j, .int k => RgC i j k (rngN i j k) ∧ rngN i j k ≤ 16777216 ∧ Q (.list (rangeL i k (rngN i j k))) | _, _, _ => False) X) X) X
def wpEs : EL → Env1 → (List D → Prop) → (Str → Prop) → Prop
  | .nil, _, Q, _ => Q []
  | .cons e r, ρ, Q, X => wpE e ρ (fun d => wpEs r ρ (fun ds => Q (d :: ds)) X) X
def wpAnds : EL → Env1 → (D → Prop) → (Str → Prop) → Prop
  | .nil, _, _, _ => False
  | .cons e .nil, ρ, Q, X => wpE e ρ Q X
  | .cons e r, ρ, Q, X => wpE e ρ (fun d => opt (truth d) fun b => if b = true then wpAnds r ρ Q X else Q d) X
def wpOrs : EL → Env1 → (D → Prop) → (Str → Prop) → Prop
  | .nil, _, _, _ => False
  | .cons e .nil, ρ, Q, X => wpE e ρ Q X
  | .cons e r, ρ, Q, X => wpE e ρ (fun d => opt (truth d) fun b => if b = true then Q d else wpOrs r ρ Q X) X
def wpO : EO → Env1 → (Option Int → Prop) → (Str → Prop) → Prop
  | .none, _, Q, _ => Q none
  | .some e, ρ, Q, X => wpE e ρ (fun d => match d with | .int i => Q (some i) | _ => False) X
def wpI : It1 → Env1 → (List D → Prop) → (Str → Prop) → Prop
  | .of e, ρ, Q, X => wpE e ρ (fun d => opt (seqD d) fun xs => xs.length ≤ 16777216 → Q xs) X
  | .rng1 a, ρ, Q, X => wpE a ρ (fun d => match d with | .int j => j ≤ 16777216 ∧ (-(2 ^ 60) ≤ j) ∧ Q (rangeL 0 1 j.toNat) | _ => False) X
  | .rng2 a b, ρ, Q, X => wpE a ρ (fun d => wpE b ρ (fun e => match d, e with | .int i, .int j => (-(2 ^ 60) ≤ i ∧ i ≤ 2 ^ 60 ∧ -(2 ^ 60) ≤ j ∧ j ≤ 2 ^ 60 ∧ j - i ≤ 16777216) ∧ Q (rangeL i 1 (j - i).toNat) | _, _ => False) X) X
  | .rng3 a b c, ρ, Q, X => wpE a ρ (fun d => wpE b ρ (fun e => wpE c ρ (fun g => match d, e, g with
      | .int i, .int j, .int k => RgC i j k (rngN i j k) ∧ rngN i j k ≤ 16777216 ∧ Q (rangeL i k (rngN i j k)) | _, _, _ => False) X) X) X
  | .enum a, ρ, Q, X => wpE a ρ (fun d => opt (seqD d) fun xs => xs.length ≤ 16777216 → Q (enumL xs)) X
  | .txt e, ρ, Q, X => wpE e ρ (fun d => match d with | .str x => x.length ≤ 16777216 ∧ Q (signsD x) | _ => False) X
  | .zip a b, ρ, Q, X => wpE a ρ (fun d => wpE b ρ (fun e => opt (zipD d e) fun p => p.1.length ≤ 16777216 → p.2.length ≤ 16777216 → Q (zipL p.1 p.2)) X) X
def wpT : E → Env1 → (Bool → Prop) → (Str → Prop) → Prop
  | .ands as, ρ, Q, X => wpTAnds as ρ Q X
  | .ors as, ρ, Q, X => wpTOrs as ρ Q X
  | .not a, ρ, Q, X => wpT a ρ (fun b => Q (!b)) X
  | .cmp op a b, ρ, Q, X => wpE a ρ (fun d => wpE b ρ (fun e => opt (cmpSem op d e) Q) X) X
  | .chn o p a b c, ρ, Q, X => wpE a ρ (fun d => wpE b ρ (fun e => opt (cmpSem o d e) fun k => if k = true then wpE c ρ (fun e' => opt (cmpSem p e e') Q) X else Q false) X) X
  | .var i, ρ, Q, _ => opt (valAt ρ i) fun d => opt (truth d) Q
  | .rd i, ρ, Q, _ => opt (ownAt ρ i) fun xs => Q (!xs.isEmpty)
  | .cst c, _, Q, _ => opt (truth c.d) Q
  | .isi a T, ρ, Q, X => wpE a ρ (fun d => Q (isInst d T)) X
  | .call f r as ks kws, ρ, Q, X => opt (Γ.funs f) fun sg => (rowAt ρ r = true ∧ sgOk sg r ks = true) ∧ wpEs as ρ (fun ds => wpEs kws ρ (fun es => sg.sp (ds ++ es) (fun d => opt (truth d) Q) X) X) X
  | .blt f as, ρ, Q, X => wpEs as ρ (fun ds => opt (bltSem f ds) fun d => opt (truth d) Q) X
  | .idx a i, ρ, Q, X => wpE a ρ (fun d => wpE i ρ (fun e => opt (ixSem d e) fun d => opt (truth d) Q) X) X
  | .dx k i a, ρ, Q, X => match k with
    | .isin neg => wpE a ρ (fun d => match d with | .int j => opt (dctAt ρ i) fun kvs => Q ((dVal kvs j).isSome != neg) | _ => False) X
    | .kin neg => wpE a ρ (fun d => opt (ksAt ρ i) fun ds => kOk d = true ∧ Q (decide (kOf d ∈ ds.map kOf) != neg)) X
    | _ => False
  | .slc a lo hi, ρ, Q, X => wpE a ρ (fun d => wpO lo ρ (fun l => wpO hi ρ (fun h => opt (slSem l h d) fun d => opt (truth d) Q) X) X) X
  | _, _, _, _ => False
def wpTAnds : EL → Env1 → (Bool → Prop) → (Str → Prop) → Prop
  | .nil, _, Q, _ => Q true
  | .cons e r, ρ, Q, X => wpT e ρ (fun b => if b = true then wpTAnds r ρ Q X else Q false) X
def wpTOrs : EL → Env1 → (Bool → Prop) → (Str → Prop) → Prop
  | .nil, _, Q, _ => Q false
  | .cons e r, ρ, Q, X => wpT e ρ (fun b => if b = true then Q true else wpTOrs r ρ Q X) X
end
end
def E.isRd : E → Bool
  | .rd _ => true
  | _ => false
end Dl

set_option Elab.async false
set_option linter.all false
set_option maxRecDepth 100000
set_option maxHeartbeats 4000000
/-! the data layer, part 5: states, contexts, the look at the text -/
namespace Dl
open PySem PySem.Spec PyProof.Rows L2

/-! ### states -/
/-- a dict's keys are ints, its values data -/
def KvD (K : PySem.W.Frag) (F : Hp) (vs : List (Key × V)) (kvs : List (Int × D)) : Prop := vs.map (·.1) = kvs.map (fun p => Sum.inl p.1) ∧ Dats K F (vs.map (·.2)) (kvs.map (·.2))
theorem KvD.mono {K : PySem.W.Frag} {F F' : Hp} {vs : List (Key × V)} {kvs : List (Int × D)} (h : KvD K F vs kvs) (s : Same F F') : KvD K F' vs kvs := ⟨h.1, Dats.mono s _ _ h.2⟩
/-- the dict whose entries these are -/
def KsO (a : Addr) (es : Array DictEntry) : HO := .ext fun h => ∃ o ep, h.get? a = some o ∧ o.ExactDict ∧ o.data = .dict es ep
/-- .. its keys are these -/
def KsE (es : Array DictEntry) (xs : List (NestedKey × Addr × Value)) : Prop := ∀ w : World, es.toList = xs.map fun q => (⟨q.1.hash w, .ref q.2.1, q.2.2⟩ : DictEntry)
structure KsD (K : PySem.W.Frag) (F : Hp) (es : Array DictEntry) (xs : List (NestedKey × Addr × Value)) (ds : List D) : Prop where
  es : KsE es xs
  ks : xs.map (·.1) = ds.map kOf
  ad : Dats K F (xs.map fun q => .ref q.2.1) ds
  ok : ∀ d ∈ ds, kOk d = true
  nd : (ds.map kOf).Nodup
theorem KsD.mono {K : PySem.W.Frag} {F F' : Hp} {es : Array DictEntry} {xs : List (NestedKey × Addr × Value)} {ds : List D} (h : KsD K F es xs ds) (s : Same F F') : KsD K F' es xs ds := ⟨h.es, h.ks, h.ad.mono s, h.ok, h.nd⟩
def SlotOk (W : Wd) (F H : Hp) (v : Option V) : B → Prop
  | .val d => ∃ x, v = some x ∧ Dat W.K F x d
  | .own xs => ∃ a vs, v = some (.ref a) ∧ H a = some (.lst vs) ∧ F a = none ∧ a ≠ W.R ∧ Dats W.K F vs xs ∧ xs.length ≤ 16777216
  | .dct kvs => ∃ a vs, v = some (.ref a) ∧ H a = some (.dK vs) ∧ F a = none ∧ a ≠ W.R ∧ KvD W.K F vs kvs ∧ kvs.length ≤ 16777216
  | .ks ds => ∃ a es, v = some (.ref a) ∧ H a = some (KsO a es) ∧ F a = none ∧ a ≠ W.R ∧ (∃ xs, KsD W.K F es xs ds) ∧ (a == sysModules) = false ∧ ds.length ≤ 16777216
  | .row => v = some (.ref W.R)
  | .bad => True
structure St (W : Wd) (F : Hp) (ρ : Env1) (σ : L2.St) (H : Hp) : Prop where
  f : FOk W F H
  g : Good W H
  len : ρ.length = σ.length
  sl : ∀ (i : Nat) b v, ρ[i]? = some b → σ[i]? = some v → SlotOk W F H v b
  dj : ∀ (i j : Nat) a b c, ρ[i]? = some b → ρ[j]? = some c → b.live = true → c.live = true → σ[i]? = some (some (.ref a)) → σ[j]? = some (some (.ref a)) → i = j
section
variable {W : Wd} {F H F' H' : Hp} {ρ : Env1} {σ : L2.St}
theorem SlotOk.ext {v : Option V} {b : B} (h : SlotOk W F H v b) (e : Ext W F H F' H') : SlotOk W F' H' v b := by
  cases b with
  | val d => obtain ⟨x, h1, h2⟩ := h; exact ⟨x, h1, h2.mono e.sub⟩
  | own xs =>
    obtain ⟨a, vs, h1, h2, h3, h4, h5, h6⟩ := h
    exact ⟨a, vs, h1, e.keep _ _ h2 (fun ps z => by cases z) h4, e.fr _ _ h3 h2 (fun ps z => by cases z), h4, h5.mono e.sub, h6⟩
  | dct kvs =>
    obtain ⟨a, vs, h1, h2, h3, h4, h5, h6⟩ := h
    exact ⟨a, vs, h1, e.keep _ _ h2 (fun ps z => by cases z) h4, e.fr _ _ h3 h2 (fun ps z => by cases z), h4, h5.mono e.sub, h6⟩
  | ks ds =>
    obtain ⟨a, es, h1, h2, h3, h4, ⟨xs, h5⟩, h6⟩ := h
    exact ⟨a, es, h1, e.keep _ _ h2 (fun ps z => by cases z) h4, e.fr _ _ h3 h2 (fun ps z => by cases z), h4, ⟨xs, h5.mono e.sub⟩, h6⟩
  | row => exact h
  | bad => trivial
/-- what is the def's own stands at a place of its own -/
theorem SlotOk.live {v : Option V} {b : B} (h : SlotOk W F H v b) (l : b.live = true) : ∃ a o, v = some (.ref a) ∧ H a = some o ∧ nt o ∧ F a = none ∧ a ≠ W.R := by
  cases b with
  | val d => cases l
  | own xs =>
    obtain ⟨a, vs, h1, h2, h3, h4, _⟩ := h
    exact ⟨a, _, h1, h2, (fun ps z => by cases z), h3, h4⟩
  | dct kvs =>
    obtain ⟨a, vs, h1, h2, h3, h4, _⟩ := h
    exact ⟨a, _, h1, h2, (fun ps z => by cases z), h3, h4⟩
  | ks ds =>
    obtain ⟨a, es, h1, h2, h3, h4, _⟩ := h
    exact ⟨a, _, h1, h2, (fun ps z => by cases z), h3, h4⟩
  | row => cases l
  | bad => cases l
theorem St.ext (s : St W F ρ σ H) (e : Ext W F H F' H') : St W F' ρ σ H' := ⟨e.ok, e.gd, s.len, fun i b v h1 h2 => (s.sl i b v h1 h2).ext e, s.dj⟩
theorem St.slot (s : St W F ρ σ H) {i : Nat} {b : B} (h : ρ[i]? = some b) : ∃ v, σ[i]? = some v ∧ SlotOk W F H v b := by
  have hi : i < σ.length := by rw [← s.len]; exact (List.getElem?_eq_some_iff.mp h).1
  exact ⟨σ[i], List.getElem?_eq_getElem hi, s.sl i b _ h (List.getElem?_eq_getElem hi)⟩
theorem St.val (s : St W F ρ σ H) {i : Nat} {d : D} (h : valAt ρ i = some d) : ∃ v, σ[i]? = some (some v) ∧ Dat W.K F v d := by
  unfold valAt at h
  split at h
  · rename_i e
    cases h
    obtain ⟨v, h1, x, rfl, h2⟩ := s.slot e
    exact ⟨x, h1, h2⟩
  · cases h
theorem St.own (s : St W F ρ σ H) {i : Nat} {xs : List D} (h : ownAt ρ i = some xs) : ∃ a vs, σ[i]? = some (some (.ref a)) ∧ H a = some (.lst vs) ∧ F a = none ∧ a ≠ W.R ∧ Dats W.K F vs xs ∧ xs.length ≤ 16777216 := by
  unfold ownAt at h
  split at h
  · rename_i e
    cases h
    obtain ⟨v, h1, a, vs, rfl, h2⟩ := s.slot e
    exact ⟨a, vs, h1, h2⟩
  · cases h
theorem St.dct (s : St W F ρ σ H) {i : Nat} {kvs : List (Int × D)} (h : dctAt ρ i = some kvs) : ∃ a vs, σ[i]? = some (some (.ref a)) ∧ H a = some (.dK vs) ∧ F a = none ∧ a ≠ W.R ∧ KvD W.K F vs kvs ∧ kvs.length ≤ 16777216 := by
  unfold dctAt at h
  split at h
  · rename_i e
    cases h
    obtain ⟨v, h1, a, vs, rfl, h2⟩ := s.slot e
    exact ⟨a, vs, h1, h2⟩
  · cases h
theorem St.ks (s : St W F ρ σ H) {i : Nat} {ds : List D} (h : ksAt ρ i = some ds) : ∃ a es, σ[i]? = some (some (.ref a)) ∧ H a = some (KsO a es) ∧ F a = none ∧ a ≠ W.R ∧ (∃ xs, KsD W.K F es xs ds) ∧ (a == sysModules) = false ∧ ds.length ≤ 16777216 := by
  unfold ksAt at h
  split at h
  · rename_i e
    cases h
    obtain ⟨v, h1, a, vs, rfl, h2⟩ := s.slot e
    exact ⟨a, vs, h1, h2⟩
  · cases h
theorem St.row (s : St W F ρ σ H) {i : Nat} (h : rowAt ρ (some i) = true) : σ[i]? = some (some (.ref W.R)) := by
  unfold rowAt at h
  simp only at h
  split at h
  · rename_i e
    obtain ⟨v, h1, rfl⟩ := s.slot e
    exact h1
  · cases h
/-- a slot is given data -/
theorem St.set (s : St W F ρ σ H) {v : V} {d : D} (i : Nat) (h : Dat W.K F v d) : St W F (ρ.set i (.val d)) (σ.set i (some v)) H := by
  refine ⟨s.f, s.g, by simp [s.len], fun j b w h1 h2 => ?_, fun j k a b c h1 h2 l1 l2 h3 h4 => ?_⟩
  · by_cases hj : i = j
    · subst hj
      rw [List.getElem?_set] at h1 h2
      simp only [if_true] at h1 h2
      split at h1
      · split at h2
        · cases h1; cases h2; exact ⟨v, rfl, h⟩
        · cases h2
      · cases h1
    · rw [List.getElem?_set_ne hj] at h1 h2
      exact s.sl j b w h1 h2
  · have nj : ∀ {m z}, (ρ.set i (.val d))[m]? = some z → z.live = true → i ≠ m ∧ ρ[m]? = some z := fun {m z} q lz => by
      by_cases hm : i = m
      · subst hm
        rw [List.getElem?_set] at q
        simp only [if_true] at q
        split at q <;> cases q
        cases lz
      · rw [List.getElem?_set_ne hm] at q; exact ⟨hm, q⟩
    obtain ⟨a1, a2⟩ := nj h1 l1
    obtain ⟨b1, b2⟩ := nj h2 l2
    rw [List.getElem?_set_ne a1] at h3
    rw [List.getElem?_set_ne b1] at h4
    exact s.dj j k a b c a2 b2 l1 l2 h3 h4
/-- a slot is forgotten -/
theorem St.wipe1 (s : St W F ρ σ H) (i : Nat) (v : Option V) : St W F (ρ.set i .bad) (σ.set i v) H := by
  refine ⟨s.f, s.g, by simp [s.len], fun j b w h1 h2 => ?_, fun j k a b c h1 h2 l1 l2 h3 h4 => ?_⟩
  · by_cases hj : i = j
    · subst hj
      rw [List.getElem?_set] at h1
      simp only [if_true] at h1
      split at h1
      · cases h1; trivial
      · cases h1
    · rw [List.getElem?_set_ne hj] at h1 h2
      exact s.sl j b w h1 h2
  · have nj : ∀ {m z}, (ρ.set i .bad)[m]? = some z → z.live = true → i ≠ m ∧ ρ[m]? = some z := fun {m z} q lz => by
      by_cases hm : i = m
      · subst hm
        rw [List.getElem?_set] at q
        simp only [if_true] at q
        split at q <;> cases q
        cases lz
      · rw [List.getElem?_set_ne hm] at q; exact ⟨hm, q⟩
    obtain ⟨a1, a2⟩ := nj h1 l1
    obtain ⟨b1, b2⟩ := nj h2 l2
    rw [List.getElem?_set_ne a1] at h3
    rw [List.getElem?_set_ne b1] at h4
    exact s.dj j k a b c a2 b2 l1 l2 h3 h4
theorem St.wipe (s : St W F ρ σ H) : ∀ vs : List Nat, St W F (wipeB ρ vs) (wipe σ vs) H
  | [] => s
  | v :: vs => (St.wipe s vs).wipe1 v none
end

/-! ### exceptions, calls -/
/-- the error of an argument of this name -/
def IsX (W : Wd) (n : Str) (cls : Value) (dd : Option Addr) (H : Hp) : Prop :=
  ∃ (C d : Addr), W.mg "BadArgument" = some (.ref C) ∧ cls = .ref C ∧ dd = some d ∧ H d = some (.xd [(("name" : Str), .str n)]) ∧ PyData.strOk n = true
def spV (W : Wd) (sg : Sig) : Sp := fun vs H Q Ex => ∃ F ds ws Qd Xd, FOk W F H ∧ Good W H ∧ vs = (if sg.row then [V.ref W.R] else []) ++ ws ∧ Dats W.K F ws ds ∧ sg.sp ds Qd Xd ∧
  (∀ d v F' H', Ext W F H F' H' → Dat W.K F' v d → Qd d → Q v H') ∧ (∀ n cls dd F' H', Ext W F H F' H' → IsX W n cls dd H' → Xd n → Ex cls dd H')
def kwG {α : Type} (n : Nat) (us ws : List α) : List α := if ws.length = n then us ++ ws else []
structure FnAt (P : Program) (w : World) (K : PySem.W.Frag) (mg : Str → Option Value) (base : Heap) (k : Nat) (W : Wd) (f : Str) (sg : Sig) : Prop where
  ex : ∃ (fa : Addr) (fd : FuncData), mg f = some (.ref fa) ∧ PySem.W.keepIn K (.ref fa) = true ∧ FnOk P w K mg base (L2.CX P w) k fa fd sg.ps (spV W sg) ∧ Binds K fd sg.ps [] ∧
    ∀ ks ∈ sg.kws, KBinds K fd sg.ps ks (kwG ks.length) (kwG ks.length)
theorem FnAt.mono {P : Program} {w : World} {K : PySem.W.Frag} {mg : Str → Option Value} {base : Heap} {j k : Nat} {W : Wd} {f : Str} {sg : Sig} (h : FnAt P w K mg base j W f sg) (l : j ≤ k) : FnAt P w K mg base k W f sg := by
  obtain ⟨fa, fd, h1, h2, h3, h4, h5⟩ := h.ex
  exact ⟨fa, fd, h1, h2, h3.mono l, h4, h5⟩
def bltNames : List Str := ["len", "all", "any", "sum", "max", "min", "abs", "int", "bool", "str", "tuple", "list", "sorted", "isinstance", "range", "enumerate", "zip", "set"]
/-- what a lambda's call wants: _law_refused and the table of this def's code -/
structure LamAt (W : Wd) (X : Cx) : Prop where
  ex : ∃ (c P g CS : Addr) (pg : Arguments) (bg : List Stmt) (sg : Scope) (dV kV doc pm cdv ct oc : Value) (an od : Option Addr) (osl : Array (Option Value)),
    X.env.code = .ref c ∧ LamX.TabB X.base X.mg c P ∧ (P, X.env.qual ++ "<lambda>") ∈ W.T ∧ (∀ p ∈ W.T, p.1 = P → p.2 = X.env.qual ++ "<lambda>") ∧
    X.mg "_law_refused" = some (.ref g) ∧ PySem.W.keepIn X.K (.ref g) = true ∧ X.K.lookup g = some ⟨oc, od, .func (PySem.W.fnOf "_law_refused" "_law_refused" pg bg sg dV kV doc pm an cdv ct), osl⟩ ∧
    PySem.W.codeIn X.K cdv "_law_refused" = true ∧ L2.Binds X.K (PySem.W.fnOf "_law_refused" "_law_refused" pg bg sg dV kV doc pm an cdv ct) ["call"] [] ∧ FnScope ["call", "e"] ["call"] sg ∧
    X.mg "BadArgument" = some (.ref CS) ∧
    LamX.GivesTo X ["call", "e"] "_law_refused" sg g cdv bg "call" (X.env.qual ++ "<lambda>") (fun tl H Q => tl (fun cls dd H' => ∃ n, IsX W n cls dd H' ∧ Q (.str n) H') H (fun _ H' => Q (.str "") H'))
/-- a dict of the module: ints to tuples of ints -/
def DConAt (K : PySem.W.Frag) (mg : Str → Option Value) (x : Str) (kvs : List (Int × List Int)) : Prop :=
  ∃ (a : Addr) (es : Array DictEntry) (n : Nat), mg x = some (.ref a) ∧ K.lookup a = some ⟨.type "dict", none, .dict es n, #[]⟩ ∧ (∀ e ∈ es, ∃ j : Int, Value.isInt j e.key = true ∧ e.hash = hashInt j) ∧
    ∀ (j : Int) (ns : List Int), iAt kvs j = some ns → ∃ p, findBy Value.isInt es j = some (.ref p) ∧ ∀ F, Dat K F (.ref p) (.tuple (ns.map .int))
structure CtxOk (W : Wd) (Γ : Gam) (k : Nat) (EX : XK) (N : List Str) (sc : Scope) (l : Bool) (X : Cx) : Prop where
  hK : X.K = W.K
  hmg : X.mg = W.mg
  hN : X.N = N
  nd : N.Nodup
  hsc : X.env.scope = sc
  calm : X.calm = true
  room : Room k X.A
  roomL : l = true → Room (k + 2) X.A
  pass : Passes (L2.CX X.prog X.w) X EX
  funs : ∀ f sg, Γ.funs f = some sg → FnAt X.prog X.w X.K X.mg X.base k W f sg
  cons : ∀ x d, Γ.cons x = some d → ∃ u v, X.mg x = some u ∧ RelV v u ∧ ∀ F, Dat W.K F v d
  blt : ∀ x ∈ bltNames, X.mg x = none
  lam : l = true → LamAt W X
  dcons : ∀ x kvs, Γ.dcons x = some kvs → DConAt X.K X.mg x kvs
end Dl

set_option Elab.async false
set_option linter.all false
set_option maxRecDepth 100000
set_option maxHeartbeats 4000000
/-! the data layer, part 6: the look at the text -/
namespace Dl
open PySem PySem.Spec PyProof.Rows L2

def isStar : Expr → Bool
  | .Starred _ _ => true
  | _ => false
theorem star_ok {x : Expr} (h : isStar x = false) (es : List Expr) (env : Env) : starEach (x :: es) env = (false, eval x env) :: starEach es env := by
  cases x <;> first | rfl | cases h
def noStars (xs : List Expr) : Bool := xs.all fun x => !isStar x
theorem stars_plain {xs : List Expr} (h : noStars xs = true) (pos : Pos) (env : Env) : (backTo pos (starEach xs env)).any (·.1) = false := by
  induction xs with
  | nil => rfl
  | cons x r ih =>
    unfold noStars at h
    simp only [List.all_cons, Bool.and_eq_true, Bool.not_eq_true'] at h
    rw [star_ok h.1]
    show (false || (backTo pos (starEach r env)).any (·.1)) = false
    rw [Bool.false_or]
    exact ih (by unfold noStars; exact h.2)
/-- a test that is no special form -/
def plainTest : Expr → Bool
  | .BoolOp .. | .IfExp .. | .Compare .. => false
  | .UnaryOp .Not _ _ => false
  | _ => true
theorem plain_test {x : Expr} (h : plainTest x = true) (env : Env) : ∀ whole, isTrue x env whole = (do let v ← whole; standAt x.pos; holding [v] (truthy v)) := by
  intro whole
  cases x <;> first | rfl | (cases h; done) | skip
  rename_i op a pos
  cases op <;> first | rfl | cases h
def plainIx : Expr → Bool
  | .Slice .. => false
  | _ => true
theorem plain_ix {x : Expr} (h : plainIx x = true) : PlainIx x := by
  intro o i
  cases x <;> first | rfl | cases h
def isComp : Expr → Bool
  | .ListComp .. | .SetComp .. | .DictComp .. => true
  | _ => false
theorem no_swap {x : Expr} (h : isComp x = false) (t : Option Expr) (l : Nat) (env : Env) : swapsWith x t l env = pure false := by
  cases x <;> first | rfl | cases h
def isSetD : Expr → Bool
  | .Set .. => true
  | _ => false
theorem no_fold {x : Expr} (h : isSetD x = false) (env : Env) : ∀ v, foldedSetIterable x env v = pure v := by
  intro v
  cases x <;> first | rfl | cases h
def visB (sc : Scope) (x : Str) : Bool := match sc.names.lookup x with
  | some .local => true | some .cell => true | some .free => true | _ => false
theorem vis_of {sc : Scope} {x : Str} (h : visB sc x = true) : Vis sc x := by
  unfold visB at h
  split at h
  · exact .inl (by assumption)
  · exact .inr (.inl (by assumption))
  · exact .inr (.inr (by assumption))
  · cases h
def locB (sc : Scope) (x : Str) : Bool := match sc.names.lookup x with
  | some .local => true | some .cell => true | _ => false
theorem loc_of {sc : Scope} {x : Str} (h : locB sc x = true) : Loc sc x := by
  unfold locB at h
  split at h
  · exact .inl (by assumption)
  · exact .inr (by assumption)
  · cases h
def nameOk (x : Str) : Bool := !(x == ("__debug__" : Str)) && !(x == ("__classdict__" : Str)) && !(x == ("__name__" : Str))
def chkVar (N : List Str) (sc : Scope) (i : Nat) (x : Str) : Bool := decide (N[i]? = some x) && visB sc x && nameOk x
def chkGl (sc : Scope) (x : Str) : Bool := decide (sc.names.lookup x = some .globalImplicit) && nameOk x
def chkCst : Cst → Const → Bool
  | .non, .none => true
  | .bl b, .bool c => b == c
  | .int i, .int j => decide (i = j)
  | .str x, .str y => decide (x = y) && PyData.strOk x
  | _, _ => false
mutual
def chkP (N : List Str) (sc : Scope) (st : Str → Bool) : Pat → Expr → Bool
  | .name i x, .Name y _ => decide (x = y) && decide (N[i]? = some x) && locB sc x && st x
  | .tup ps, .Tuple xs _ _ => noStars xs && chkPs N sc st ps xs
  | _, _ => false
def chkPs (N : List Str) (sc : Scope) (st : Str → Bool) : Pats → List Expr → Bool
  | .nil, [] => true
  | .cons p r, x :: xs => chkP N sc st p x && chkPs N sc st r xs
  | _, _ => false
end
def stAll (_ : Str) : Bool := true
def stBlk (scope sc : Scope) (x : Str) : Bool := decide (scope.names.lookup x = some .cell) || decide ((relS scope sc).names.lookup x = some .local)
mutual
def Pat.slots : Pat → List Nat
  | .name i _ => [i]
  | .tup ps => ps.slots
def Pats.slots : Pats → List Nat
  | .nil => []
  | .cons p r => p.slots ++ r.slots
end
def bltIs (f : Blt) (g : Str) : Bool := decide (f.name = g)
def EL.len : EL → Nat
  | .nil => 0
  | .cons _ r => r.len + 1
def noRds : EL → Bool
  | .nil => true
  | .cons e r => !e.isRd && noRds r
def kwNames : List Keyword → Option (List Str)
  | [] => some []
  | ⟨some n, _, _⟩ :: r => (kwNames r).map (n :: ·)
  | ⟨none, _, _⟩ :: _ => none
def kwVals : List Keyword → List Expr
  | [] => []
  | ⟨_, v, _⟩ :: r => v :: kwVals r
def noParams : Arguments → Bool
  | ⟨[], [], none, [], [], none, []⟩ => true
  | _ => false
def isM1 : Expr → Bool
  | .UnaryOp .USub (.Constant (.int i) _ _) _ => decide (i = 1)
  | _ => false
/-- what may be super() -/
def isSupC : Expr → Bool
  | .Call (.Name _ _) [] [] _ => true
  | _ => false
theorem base_ok {o : Expr} (h : isSupC o = false) (name : Str) (env : Env) (whole : Sem Value) : attributeBase o name env whole = whole := by
  cases o <;> try rfl
  rename_i f as kw pos
  cases f <;> try rfl
  cases as with
  | cons _ _ => rfl
  | nil =>
    cases kw with
    | cons _ _ => rfl
    | nil => cases h
/-- the one argument of a special form -/
def spArg (k : SpF) (sc : Scope) (x : Expr) : Option Expr := match k, x with
  | .rev, .Subscript x (.Slice none none (some m) _) _ => if isM1 m = true then some x else none
  | .setLen, .Call (.Name f _) [.Call (.Name g _) [x] [] _] [] _ => if (decide (f = "len") && chkGl sc f && (decide (g = "set") && chkGl sc g && !isStar x)) = true then some x else none
  | .setSort, .Call (.Name f _) [.Call (.Name g _) [x] [] _] [] _ => if (decide (f = "sorted") && chkGl sc f && (decide (g = "set") && chkGl sc g && !isStar x)) = true then some x else none
  | .enumL, .Call (.Name f _) [.Call (.Name g _) [x] [] _] [] _ => if (decide (f = "list") && chkGl sc f && (decide (g = "enumerate") && chkGl sc g && !isStar x)) = true then some x else none
  | .zfill n, .Call (.Attribute x m ap) [.Constant (.int i) _ _] [] cp => if (decide (m = "zfill") && (decide (i = (n : Int)) && ((ap.endLine == cp.line) && !isSupC x))) = true then some x else none
  | .split s, .Call (.Attribute x m ap) [.Constant (.str t) _ _] [] cp => if (decide (m = "split") && (decide (t = s) && ((ap.endLine == cp.line) && !isSupC x))) = true then some x else none
  | .join s, .Call (.Attribute (.Constant (.str t) _ _) m ap) [x] [] cp => if (decide (m = "join") && (decide (t = s) && ((ap.endLine == cp.line) && !isStar x))) = true then some x else none
  | _, _ => none
/-- sorted of a name; in of a name; a name's item -/
def dsrtArg (sc : Scope) (x : Expr) : Option Str := match x with
  | .Call (.Name f _) [.Name y _] [] _ => if (decide (f = "sorted") && chkGl sc f) = true then some y else none
  | _ => none
def dinOp (neg : Bool) : CmpOp := match neg with
  | true => .NotIn
  | false => .In
def dinArg (neg : Bool) (x : Expr) : Option (Expr × Str) := match x with
  | .Compare a [op] [.Name y _] _ => if decide (op = dinOp neg) = true then some (a, y) else none
  | _ => none
def dgetArg (x : Expr) : Option (Str × Expr) := match x with
  | .Subscript (.Name y _) ix _ => if plainIx ix = true then some (y, ix) else none
  | _ => none
/-- a display of ints, of lists of ints; its keys -/
def intCs : List Int → List Expr → Bool
  | [], [] => true
  | n :: ns, .Constant (.int j) _ _ :: xs => decide (j = n) && intCs ns xs
  | _, _ => false
def litOk : List (Int × List Int) → List (Option Expr) → List Expr → Bool
  | [], [], [] => true
  | kv :: r, some (.Constant (.int j) _ _) :: ks, .List xs _ :: vs => decide (j = kv.1) && (intCs kv.2 xs && (decide (kv.2.length ≤ 1000) && litOk r ks vs))
  | _, _, _ => false
def dlitArg (kvs : List (Int × List Int)) (x : Expr) : Option Expr := match x with
  | .Subscript (.Dict ks vs _) ix _ => if (litOk kvs ks vs && (plainIx ix && (decide (0 < kvs.length) && (decide (kvs.length ≤ 15) && decide (kvs.map (·.1)).Nodup)))) = true then some ix else none
  | _ => none
theorem dlitArg_eq {kvs : List (Int × List Int)} {x ix : Expr} (h : dlitArg kvs x = some ix) : ∃ ks vs p pos, x = .Subscript (.Dict ks vs p) ix pos ∧ litOk kvs ks vs = true ∧ plainIx ix = true ∧ 0 < kvs.length ∧ kvs.length ≤ 15 ∧ (kvs.map (·.1)).Nodup := by
  unfold dlitArg at h
  split at h
  · split at h <;> cases h
    rename_i hb
    simp only [Bool.and_eq_true, decide_eq_true_eq] at hb
    exact ⟨_, _, _, _, rfl, hb⟩
  · cases h
def dpickArg (x : Expr) : Option (Str × Str × Str) := match x with
  | .Call (.Name f _) [.Name r _, .Name y _] [] _ => some (f, r, y)
  | _ => none
theorem dpickArg_eq {x : Expr} {f r y : Str} (h : dpickArg x = some (f, r, y)) : ∃ p p1 p2 pos, x = .Call (.Name f p) [.Name r p1, .Name y p2] [] pos := by
  unfold dpickArg at h
  split at h
  · cases h; exact ⟨_, _, _, _, rfl⟩
  · cases h
theorem dsrtArg_eq {sc : Scope} {x : Expr} {y : Str} (h : dsrtArg sc x = some y) : ∃ p p2 pos, x = .Call (.Name "sorted" p) [.Name y p2] [] pos ∧ chkGl sc "sorted" = true := by
  unfold dsrtArg at h
  split at h
  · split at h <;> cases h
    rename_i hb
    simp only [Bool.and_eq_true, decide_eq_true_eq] at hb
    obtain ⟨rfl, hb⟩ := hb
    exact ⟨_, _, _, rfl, hb⟩
  · cases h
theorem dinArg_eq {neg : Bool} {x : Expr} {a : Expr} {y : Str} (h : dinArg neg x = some (a, y)) : ∃ p pos, x = .Compare a [dinOp neg] [.Name y p] pos := by
  unfold dinArg at h
  split at h
  · split at h <;> cases h
    rename_i hb
    have := of_decide_eq_true hb
    subst this
    exact ⟨_, _, rfl⟩
  · cases h
theorem dgetArg_eq {x : Expr} {y : Str} {ix : Expr} (h : dgetArg x = some (y, ix)) : ∃ p pos, x = .Subscript (.Name y p) ix pos ∧ plainIx ix = true := by
  unfold dgetArg at h
  split at h
  · split at h <;> cases h
    rename_i hb
    exact ⟨_, _, rfl, hb⟩
  · cases h
mutual
def chkE (N : List Str) (sc : Scope) (l : Bool) : E → Expr → Bool
  | .var i, .Name x _ => chkVar N sc i x
  | .rd i, .Name x _ => chkVar N sc i x
  | .cst c, .Constant k _ _ => chkCst c k
  | .glob g, .Name x _ => decide (g = x) && chkGl sc x
  | .bin op a b, .BinOp x op' y _ => decide (op = op') && chkE N sc l a x && chkE N sc l b y
  | .un op a, .UnaryOp op' x _ => decide (op = op') && chkE N sc l a x
  | .cmp op a b, .Compare x [op'] [y] _ => decide (op = op') && !behindInMarks op y && chkE N sc l a x && chkE N sc l b y
  | .chn o p a b c, .Compare x [o', p'] [y, z] _ => decide (o = o') && decide (p = p') && !lastMarks [o, p] [y, z] && chkE N sc l a x && chkE N sc l b y && chkE N sc l c z
  | .ands as, .BoolOp .And xs _ => chkEs N sc l as xs && noRds as
  | .ors as, .BoolOp .Or xs _ => chkEs N sc l as xs && noRds as
  | .not a, .UnaryOp .Not x _ => chkE N sc l a x
  | .ite c a b, .IfExp t x y _ => chkT N sc l c t && chkE N sc l a x && chkE N sc l b y && !a.isRd && !b.isRd
  | .isi a T, .Call (.Name f _) [x, .Name t _] [] _ => decide (f = "isinstance") && chkGl sc f && decide (t = PySem.Str.ofString T) && chkGl sc t && decide (T ∈ isTys) && chkE N sc l a x && !isStar x
  | .call f r as ks kws, .Call (.Name g _) xs kw _ => decide (f = g) && !(xs.isEmpty && (kw.isEmpty || !(as.len == 0) || r.isSome)) && chkGl sc g && noRds as && noRds kws && noStars xs && decide (kwNames kw = some ks) && chkEs N sc l kws (kwVals kw) &&
      (match r, xs with
      | none, xs => chkEs N sc l as xs
      | some i, .Name x _ :: xs => chkVar N sc i x && chkEs N sc l as xs
      | _, _ => false)
  | .blt f as, .Call (.Name g _) xs [] _ => bltIs f g && chkGl sc g && noStars xs && !xs.isEmpty && chkEs N sc l as xs
  | .idx a i, .Subscript x y _ => plainIx y && chkE N sc l a x && chkE N sc l i y
  | .slc a lo hi, .Subscript x (.Slice lx hx none _) _ => chkE N sc l a x && chkO N sc l lo lx && chkO N sc l hi hx
  | .tup as, .Tuple xs _ _ => noStars xs && noRds as && decide (as.len ≤ 1000) && chkEs N sc l as xs
  | .lst as, .List xs _ => noStars xs && noRds as && decide (as.len ≤ 1000) && chkEs N sc l as xs
  | .lc elt own tg it cs, .ListComp ex [⟨tx, ix, ifs, n⟩] scope _ => decide (n = 0) && blkC N sc scope own && chkI N sc l it tx ix && !isSetD ix && chkP N (relS scope sc) (stBlk scope sc) tg tx && decide (∀ i ∈ tg.slots, i ∈ own.map (·.2)) &&
      chkTs N (relS scope sc) cs ifs && chkE N (relS scope sc) false elt ex && !elt.isRd
  | .lc2 elt own tg it cs vs1 tg1 it1 cs1, .ListComp ex [⟨tx, ix, ifs, n⟩, ⟨tx1, ix1, ifs1, n1⟩] scope _ => decide (n = 0) && decide (n1 = 0) && blkC N sc scope own && chkI N sc l it tx ix && !isSetD ix && chkP N (relS scope sc) (stBlk scope sc) tg tx && decide (∀ i ∈ tg.slots, i ∈ own.map (·.2)) &&
      chkTs N (relS scope sc) cs ifs && chkI N (relS scope sc) false it1 tx1 ix1 && !isSetD ix1 && chkP N (relS scope sc) (stBlk scope sc) tg1 tx1 && decide (∀ i ∈ tg1.slots, i ∈ vs1) && decide (∀ i ∈ vs1, i ∈ own.map (·.2)) &&
      chkTs N (relS scope sc) cs1 ifs1 && chkE N (relS scope sc) false elt ex && !elt.isRd
  | .lc3 elt own tg it cs vs1 tg1 it1 cs1 vs2 tg2 it2 cs2, .ListComp ex [⟨tx, ix, ifs, n⟩, ⟨tx1, ix1, ifs1, n1⟩, ⟨tx2, ix2, ifs2, n2⟩] scope _ => decide (n = 0) && decide (n1 = 0) && decide (n2 = 0) && blkC N sc scope own && chkI N sc l it tx ix && !isSetD ix && chkP N (relS scope sc) (stBlk scope sc) tg tx && decide (∀ i ∈ tg.slots, i ∈ own.map (·.2)) && chkTs N (relS scope sc) cs ifs &&
      (chkI N (relS scope sc) false it1 tx1 ix1 && !isSetD ix1 && chkP N (relS scope sc) (stBlk scope sc) tg1 tx1 && decide (∀ i ∈ tg1.slots, i ∈ vs1) && decide (∀ i ∈ vs1, i ∈ own.map (·.2)) && chkTs N (relS scope sc) cs1 ifs1) &&
      (chkI N (relS scope sc) false it2 tx2 ix2 && !isSetD ix2 && chkP N (relS scope sc) (stBlk scope sc) tg2 tx2 && decide (∀ i ∈ tg2.slots, i ∈ vs2) && decide (∀ i ∈ vs2, i ∈ vs1) && chkTs N (relS scope sc) cs2 ifs2) && chkE N (relS scope sc) false elt ex && !elt.isRd
  | .told e, .Call (.Name f _) [.Lambda params body scope _] [] _ => l && decide (f = "_law_refused") && chkGl sc f && LamX.lamSB sc scope && noParams params && chkE N scope false e body && !e.isRd
  | .sp k a, x => (match spArg k sc x with
    | some y => chkE N sc l a y
    | none => false)
  | .dx k i a, x => (match k with
    | .srt => (match dsrtArg sc x with
      | some y => chkVar N sc i y
      | none => false)
    | .isin neg => (match dinArg neg x with
      | some (z, y) => chkE N sc l a z && chkVar N sc i y
      | none => false)
    | .get => (match dgetArg x with
      | some (y, z) => chkVar N sc i y && chkE N sc l a z
      | none => false)
    | .kin neg => (match dinArg neg x with
      | some (z, y) => chkE N sc l a z && chkVar N sc i y
      | none => false)
    | .con g _ => (match dgetArg x with
      | some (y, z) => (decide (g = y) && chkGl sc y) && chkE N sc l a z
      | none => false)
    | .lit kvs => (match dlitArg kvs x with
      | some z => chkE N sc l a z
      | none => false)
    | .pick r => (match dpickArg x with
      | some (f, z, y) => (decide (f = "_law_pick") && chkGl sc f) && (chkVar N sc r z && chkVar N sc i y)
      | none => false))
  | .lrg tu a b, .Call (.Name g _) [.Call (.Name f _) [x, y] [] _] [] _ => decide (g = seqN tu) && chkGl sc g && decide (f = "range") && chkGl sc f && chkE N sc l a x && chkE N sc l b y && !isStar x && !isStar y
  | .lrg1 tu a, .Call (.Name g _) [.Call (.Name f _) [x] [] _] [] _ => decide (g = seqN tu) && chkGl sc g && decide (f = "range") && chkGl sc f && chkE N sc l a x && !isStar x
  | .lrg3 a b c, .Call (.Name g _) [.Call (.Name f _) [x, y, z] [] _] [] _ => decide (g = "list") && chkGl sc g && decide (f = "range") && chkGl sc f && chkE N sc l a x && chkE N sc l b y && chkE N sc l c z && !isStar x && !isStar y && !isStar z
  | _, _ => false
def chkT (N : List Str) (sc : Scope) (l : Bool) : E → Expr → Bool
  | .ands as, .BoolOp .And xs _ => !xs.isEmpty && chkTs2 N sc l as xs
  | .ors as, .BoolOp .Or xs _ => !xs.isEmpty && chkTs2 N sc l as xs
  | .not a, .UnaryOp .Not x _ => chkT N sc l a x
  | .cmp op a b, .Compare x [op'] [y] _ => decide (op = op') && !behindInMarks op y && chkE N sc l a x && chkE N sc l b y
  | .chn o p a b c, .Compare x [o', p'] [y, z] _ => decide (o = o') && decide (p = p') && !lastMarks [o, p] [y, z] && chkE N sc l a x && chkE N sc l b y && chkE N sc l c z
  | .var i, .Name x _ => chkVar N sc i x
  | .rd i, .Name x _ => chkVar N sc i x
  | .cst c, .Constant k _ _ => chkCst c k
  | .isi a T, .Call (.Name f _) [x, .Name t _] [] _ => decide (f = "isinstance") && chkGl sc f && decide (t = PySem.Str.ofString T) && chkGl sc t && decide (T ∈ isTys) && chkE N sc l a x && !isStar x
  | .call f r as ks kws, .Call (.Name g _) xs kw _ => decide (f = g) && !(xs.isEmpty && (kw.isEmpty || !(as.len == 0) || r.isSome)) && chkGl sc g && noRds as && noRds kws && noStars xs && decide (kwNames kw = some ks) && chkEs N sc l kws (kwVals kw) &&
      (match r, xs with
      | none, xs => chkEs N sc l as xs
      | some i, .Name x _ :: xs => chkVar N sc i x && chkEs N sc l as xs
      | _, _ => false)
  | .blt f as, .Call (.Name g _) xs [] _ => bltIs f g && chkGl sc g && noStars xs && !xs.isEmpty && chkEs N sc l as xs
  | .idx a i, .Subscript x y _ => plainIx y && chkE N sc l a x && chkE N sc l i y
  | .slc a lo hi, .Subscript x (.Slice lx hx none _) _ => chkE N sc l a x && chkO N sc l lo lx && chkO N sc l hi hx
  | .dx k i a, x => (match k with
    | .isin neg => (match dinArg neg x with
      | some (z, y) => chkE N sc l a z && chkVar N sc i y
      | none => false)
    | .kin neg => (match dinArg neg x with
      | some (z, y) => chkE N sc l a z && chkVar N sc i y
      | none => false)
    | _ => false)
  | _, _ => false
def chkEs (N : List Str) (sc : Scope) (l : Bool) : EL → List Expr → Bool
  | .nil, [] => true
  | .cons e r, x :: xs => chkE N sc l e x && chkEs N sc l r xs
  | _, _ => false
def chkTs (N : List Str) (sc : Scope) : EL → List Expr → Bool
  | .nil, [] => true
  | .cons e .nil, [x] => chkT N sc false e x
  | _, _ => false
def chkTs2 (N : List Str) (sc : Scope) (l : Bool) : EL → List Expr → Bool
  | .nil, [] => true
  | .cons e r, x :: xs => chkT N sc l e x && chkTs2 N sc l r xs
  | _, _ => false
def chkO (N : List Str) (sc : Scope) (l : Bool) : EO → Option Expr → Bool
  | .none, none => true
  | .some e, some x => chkE N sc l e x
  | _, _ => false
def chkI (N : List Str) (sc : Scope) (l : Bool) : It1 → Expr → Expr → Bool
  | .of e, _, x => chkE N sc l e x && !e.isRd
  | .txt e, _, x => chkE N sc l e x && !e.isRd
  | .rng1 a, _, .Call (.Name f _) [x] [] _ => decide (f = "range") && chkGl sc f && chkE N sc l a x && !isStar x
  | .rng2 a b, _, .Call (.Name f _) [x, y] [] _ => decide (f = "range") && chkGl sc f && chkE N sc l a x && chkE N sc l b y && !isStar x && !isStar y
  | .rng3 a b c, _, .Call (.Name f _) [x, y, z] [] _ => decide (f = "range") && chkGl sc f && chkE N sc l a x && chkE N sc l b y && chkE N sc l c z && !isStar x && !isStar y && !isStar z
  | .enum a, .Tuple _ _ _, .Call (.Name f _) [x] [] _ => decide (f = "enumerate") && chkGl sc f && chkE N sc l a x && !isStar x && !a.isRd
  | .zip a b, .Tuple _ _ _, .Call (.Name f _) [x, y] [] _ => decide (f = "zip") && chkGl sc f && chkE N sc l a x && chkE N sc l b y && !isStar x && !isStar y && !a.isRd && !b.isRd
  | _, _, _ => false
end
end Dl

set_option Elab.async false
set_option linter.all false
set_option maxRecDepth 100000
set_option maxHeartbeats 8000000
/-! the data layer, part 7: the look is sound, for expressions -/
namespace Dl
open PySem PySem.Spec PyProof.Rows L2

def XOK (W : Wd) (EX : XK) (F H : Hp) (Xd : Str → Prop) : Prop := ∀ n cls dd F' H', Ext W F H F' H' → IsX W n cls dd H' → Xd n → EX cls dd H'
theorem XOK.ext {W : Wd} {EX : XK} {F H F' H' : Hp} {Xd : Str → Prop} (x : XOK W EX F H Xd) (e : Ext W F H F' H') : XOK W EX F' H' Xd := fun n cls dd F2 H2 e2 i h => x n cls dd F2 H2 (e.trans e2) i h
section
variable (W : Wd) (Γ : Gam) (EX : XK)
def tE (e : E) : TE := fun σ H Q => ∃ F ρ Qd Xd, St W F ρ σ H ∧ wpE Γ e ρ Qd Xd ∧ (∀ d v F' H', Ext W F H F' H' → Dat W.K F' v d → Qd d → Q v H') ∧ XOK W EX F H Xd
def tR (e : E) : TE := fun σ H Q => ∃ F ρ Qd Xd, St W F ρ σ H ∧ wpE Γ e ρ Qd Xd ∧ (∀ d v F' H', Ext W F H F' H' → Rdv W F' H' v d → Qd d → Q v H') ∧ XOK W EX F H Xd
def tZ (e : E) : TE := fun σ H Q => ∃ F ρ Qd Xd, St W F ρ σ H ∧ wpE Γ e ρ Qd Xd ∧ (∀ d F' H', Ext W F H F' H' → Qd d → Res W F' H' d Q) ∧ XOK W EX F H Xd
def tT (e : E) : TT := fun σ H Q => ∃ F ρ Qd Xd, St W F ρ σ H ∧ wpT Γ e ρ Qd Xd ∧ (∀ b F' H', Ext W F H F' H' → Qd b → Q b H') ∧ XOK W EX F H Xd
def tEs (e : EL) : TA := fun σ H Q => ∃ F ρ Qd Xd, St W F ρ σ H ∧ wpEs Γ e ρ Qd Xd ∧ (∀ ds vs F' H', Ext W F H F' H' → Dats W.K F' vs ds → ds.length = e.len → Qd ds → Q vs H') ∧ XOK W EX F H Xd
def tRs (e : EL) : TA := fun σ H Q => ∃ F ρ Qd Xd, St W F ρ σ H ∧ wpEs Γ e ρ Qd Xd ∧ (∀ ds vs F' H', Ext W F H F' H' → Rdvs W F' H' vs ds → Qd ds → Q vs H') ∧ XOK W EX F H Xd
def tOo (e : EO) : TO := fun σ H Q => ∃ F ρ Qd Xd, St W F ρ σ H ∧ wpO Γ e ρ Qd Xd ∧ (∀ o F' H', Ext W F H F' H' → Qd o → Q o H') ∧ XOK W EX F H Xd
end
/-- what a walk gives: items of data, of which each is so when it comes -/
def ItOk (W : Wd) (F : Hp) (J : It) (items : List D) : Prop :=
  ∃ (G : Hp → Prop) (Y : Nat → Hp → V → Hp → Prop), Walk J items.length G Y ∧ (∀ F' H', Same F F' → FOk W F' H' → G H') ∧
    ∀ (i : Nat) F1 H1 x H2, Same F F1 → FOk W F1 H1 → Good W H1 → i < items.length → Y i H1 x H2 → ∃ F2 d, Ext W F1 H1 F2 H2 ∧ items[i]? = some d ∧ Dat W.K F2 x d
def tIt (W : Wd) (Γ : Gam) (EX : XK) (e : It1) : TI := fun σ H R => ∃ F ρ Qd Xd, St W F ρ σ H ∧ wpI Γ e ρ Qd Xd ∧ (∀ items J F' H', Ext W F H F' H' → ItOk W F' J items → items.length ≤ 16777216 → Qd items → R J H') ∧ XOK W EX F H Xd

theorem _root_.L2.PE.impD {X : Cx} {e : Expr} {t t' : TE} (h : PE X e t) (i : ∀ σ H Q, t' σ H Q → t σ H Q) : PE X e t' := ⟨fun pins s σ H Q I q => h.run pins s σ H Q I (i _ _ _ q)⟩
theorem _root_.L2.PT.impD {X : Cx} {e : Expr} {t t' : TT} (h : PT X e t) (i : ∀ σ H Q, t' σ H Q → t σ H Q) : PT X e t' := ⟨fun pins s σ H Q I q => h.run pins s σ H Q I (i _ _ _ q)⟩
theorem _root_.L2.PW.impD {X : Cx} {e : Expr} {t t' : TT} (h : PW X e t) (i : ∀ σ H Q, t' σ H Q → t σ H Q) : PW X e t' := ⟨fun wh pins s σ H Q I q => h.run wh pins s σ H Q I (i _ _ _ q)⟩
theorem _root_.L2.PA.impD {X : Cx} {e : List Expr} {t t' : TA} (h : PA X e t) (i : ∀ σ H Q, t' σ H Q → t σ H Q) : PA X e t' := ⟨fun pos pins s σ H Q I q => h.run pos pins s σ H Q I (i _ _ _ q)⟩
theorem _root_.L2.PO.impD {X : Cx} {e : Option Expr} {t t' : TO} (h : PO X e t) (i : ∀ σ H Q, t' σ H Q → t σ H Q) : PO X e t' := ⟨fun pins s σ H Q I q => h.run pins s σ H Q I (i _ _ _ q)⟩
theorem _root_.L2.PI.impD {X : Cx} {tg e : Expr} {t t' : TI} (h : PI X tg e t) (i : ∀ σ H Q, t' σ H Q → t σ H Q) : PI X tg e t' := ⟨fun pins s σ H Q I q => h.run pins s σ H Q I (i _ _ _ q)⟩

section
variable {W : Wd} {Γ : Gam} {EX : XK} {X : Cx} {k : Nat} {N : List Str} {sc : Scope} {l : Bool}
theorem CtxOk.units (C : CtxOk W Γ k EX N sc l X) : X.A.units + 64 < cLine := C.room.units
theorem Rdv.ofDat {F H : Hp} {v : V} {d : D} (h : Dat W.K F v d) : Rdv W F H v d := .inl h
theorem Rdvs.ofDats {F H : Hp} : ∀ {vs : List V} {ds : List D}, Dats W.K F vs ds → Rdvs W F H vs ds
  | [], [], _ => .nil
  | v :: vs, d :: ds, h => by cases h with | cons a b => exact .cons (.inl a) (Rdvs.ofDats b)
  | [], _ :: _, h => by cases h
  | _ :: _, [], h => by cases h
theorem tR_of_tE {e : E} {σ : L2.St} {H : Hp} {Q : VK} (h : tR W Γ EX e σ H Q) : tE W Γ EX e σ H Q := by
  obtain ⟨F, ρ, Qd, Xd, s, w, q, x⟩ := h
  exact ⟨F, ρ, Qd, Xd, s, w, fun d v F' H' e r z => q d v F' H' e (.inl r) z, x⟩
theorem tE_of_tZ {e : E} {σ : L2.St} {H : Hp} {Q : VK} (h : tE W Γ EX e σ H Q) : tZ W Γ EX e σ H Q := by
  obtain ⟨F, ρ, Qd, Xd, s, w, q, x⟩ := h
  exact ⟨F, ρ, Qd, Xd, s, w, fun d F' H' e z => Res.of e.ok e.gd fun v F2 H2 e2 r => q d v F2 H2 (e.trans e2) r z, x⟩
theorem s_var (C : CtxOk W Γ k EX N sc l X) {i : Nat} {x : Str} {pos : Pos} (h : chkVar N sc i x = true) : PE X (.Name x pos) (tE W Γ EX (.var i)) ∧ PE X (.Name x pos) (tR W Γ EX (.rd i)) := by
  unfold chkVar nameOk at h
  simp only [Bool.and_eq_true, decide_eq_true_eq, Bool.not_eq_true'] at h
  have hp : PE X (.Name x pos) (tVar i) := pe_var (by rw [C.hN]; exact h.1.1) (by rw [C.hsc]; exact vis_of h.1.2) h.2.1.1 h.2.1.2
  refine ⟨hp.impD fun σ H Q q => ?_, hp.impD fun σ H Q q => ?_⟩
  · obtain ⟨F, ρ, Qd, Xd, s, ⟨d, h1, w⟩, q, x⟩ := q
    obtain ⟨v, e1, e2⟩ := s.val h1
    exact ⟨v, e1, q d v F H (.refl s.f s.g) e2 w⟩
  · obtain ⟨F, ρ, Qd, Xd, s, ⟨d, h1, w⟩, q, x⟩ := q
    obtain ⟨a, vs, e1, e2, e3, e4, e5, e6⟩ := s.own h1
    exact ⟨_, e1, q (.list d) _ F H (.refl s.f s.g) (.inr ⟨a, vs, d, rfl, rfl, e2, e5, e3, e4, e6⟩) (w e6)⟩
theorem cst_dat {K : PySem.W.Frag} {F : Hp} {c : Cst} {kk : Const} {j : Nat} {pos : Pos} (h : chkCst c kk = true) : ∃ v, PE X (.Constant kk j pos) (tC v) ∧ Dat K F v c.d := by
  unfold chkCst at h
  split at h
  · exact ⟨_, pe_non, .non⟩
  · have := eq_of_beq h; subst this; exact ⟨_, pe_bl, .bl _⟩
  · have := of_decide_eq_true h; subst this; exact ⟨_, pe_int, .int _⟩
  · simp only [Bool.and_eq_true, decide_eq_true_eq] at h
    obtain ⟨rfl, h⟩ := h
    exact ⟨_, pe_str, .str _ h⟩
  · cases h
theorem s_cst {c : Cst} {kk : Const} {j : Nat} {pos : Pos} (h : chkCst c kk = true) : PE X (.Constant kk j pos) (tE W Γ EX (.cst c)) := by
  refine ⟨fun pins s σ H Q I q => ?_⟩
  obtain ⟨F, ρ, Qd, Xd, s', w, q, x⟩ := q
  obtain ⟨v, hp, hd⟩ := cst_dat (X := X) (K := W.K) (F := F) (j := j) (pos := pos) h
  exact hp.run pins s σ H Q I (q _ v F H (.refl s'.f s'.g) hd w)
theorem gl_of (C : CtxOk W Γ k EX N sc l X) {x : Str} (h : chkGl sc x = true) : Gl X x ∧ (x == ("__debug__" : Str)) = false ∧ x ≠ "__name__" := by
  unfold chkGl nameOk at h
  simp only [Bool.and_eq_true, decide_eq_true_eq, Bool.not_eq_true', beq_eq_false_iff_ne] at h
  refine ⟨?_, by simpa using h.2.1.1, h.2.2⟩
  unfold Gl Env.kindOf
  rw [C.hsc]
  exact h.1
theorem s_glob (C : CtxOk W Γ k EX N sc l X) {x : Str} {pos : Pos} (h : chkGl sc x = true) : PE X (.Name x pos) (tE W Γ EX (.glob x)) := by
  obtain ⟨g, d, _⟩ := gl_of C h
  refine ⟨fun pins s σ H Q I q => ?_⟩
  obtain ⟨F, ρ, Qd, Xd, s', ⟨c, h1, w⟩, q, x⟩ := q
  obtain ⟨u, v, h2, h3, h4⟩ := C.cons _ c h1
  exact (pe_glob (pos := pos) g h2 h3 d).run pins s σ H Q I (q c v F H (.refl s'.f s'.g) (h4 F) w)
/-- two in a row -/
theorem two {a b : E} {σ : L2.St} {H : Hp} {F : Hp} {ρ : Env1} {Xd : Str → Prop} {P : D → D → Prop} {R : V → V → Hp → Prop} (s : St W F ρ σ H) (w : wpE Γ a ρ (fun d => wpE Γ b ρ (fun e => P d e) Xd) Xd)
    (x : XOK W EX F H Xd) (q : ∀ d e v u F' H', Ext W F H F' H' → Rdv W F' H' v d → Rdv W F' H' u e → P d e → R v u H') :
    tR W Γ EX a σ H fun v H1 => tR W Γ EX b σ H1 fun u H2 => R v u H2 := by
  refine ⟨F, ρ, _, Xd, s, w, fun d v F' H' e r w' => ?_, x⟩
  exact ⟨F', ρ, _, Xd, s.ext e, w', fun d' u F2 H2 e2 r2 p => q d d' v u F2 H2 (e.trans e2) (r.ext e2) r2 p, x.ext e⟩
theorem s_bin (C : CtxOk W Γ k EX N sc l X) {op : Operator} {a b : E} {x y : Expr} {pos : Pos} (ha : PE X x (tR W Γ EX a)) (hb : PE X y (tR W Γ EX b)) : PE X (.BinOp x op y pos) (tZ W Γ EX (.bin op a b)) := by
  refine (pe_op (op_bin C.hK op) ha hb).impD fun σ H Q q => ?_
  obtain ⟨F, ρ, Qd, Xd, s, w, q, x⟩ := q
  exact two s w x fun d e v u F' H' e1 r1 r2 ⟨r, h1, h2⟩ => ⟨F', d, e, r, e1.ok, e1.gd, r1, r2, h1, q r F' H' e1 h2⟩
theorem s_un {op : UnaryOp} {a : E} {x : Expr} {pos : Pos} (ha : PE X x (tR W Γ EX a)) : PE X (.UnaryOp op x pos) (tE W Γ EX (.un op a)) := by
  refine (pe_un (un_D (W := W) op) ha).impD fun σ H Q q => ?_
  obtain ⟨F, ρ, Qd, Xd, s, w, q, x⟩ := q
  exact ⟨F, ρ, _, Xd, s, w, fun d v F' H' e r ⟨r', h1, h2⟩ => ⟨F', d, r', e.ok, e.gd, r, h1, Res.of e.ok e.gd fun v' F2 H2 e2 r2 => q r' v' F2 H2 (e.trans e2) r2 h2⟩, x⟩
theorem s_cmp (C : CtxOk W Γ k EX N sc l X) {op : CmpOp} {a b : E} {x y : Expr} {pos : Pos} (ha : PE X x (tR W Γ EX a)) (hb : PE X y (tR W Γ EX b)) (hm : behindInMarks op y = false) :
    PE X (.Compare x [op] [y] pos) (tE W Γ EX (.cmp op a b)) ∧ PT X (.Compare x [op] [y] pos) (tT W Γ EX (.cmp op a b)) := by
  refine ⟨(pe_cmpR (op_cmp C.hK C.units op) ha hb hm).impD fun σ H Q q => ?_, (pt_cmpR (op_cmp C.hK C.units op) ha hb hm).impD fun σ H Q q => ?_⟩
  · obtain ⟨F, ρ, Qd, Xd, s, w, q, x⟩ := q
    exact two s w x fun d e v u F' H' e1 r1 r2 ⟨r, h1, h2⟩ => ⟨F', d, e, .bool r, e1.ok, e1.gd, r1, r2, by unfold cmpSemD; rw [h1]; rfl, Res.of e1.ok e1.gd fun v' F2 H2 e2 r2 => q _ v' F2 H2 (e1.trans e2) r2 h2⟩
  · obtain ⟨F, ρ, Qd, Xd, s, w, q, x⟩ := q
    exact two s w x fun d e v u F' H' e1 r1 r2 ⟨r, h1, h2⟩ => ⟨F', d, e, .bool r, e1.ok, e1.gd, r1, r2, by unfold cmpSemD; rw [h1]; rfl, Res.of e1.ok e1.gd fun v' F2 H2 e2 r2 => by
      cases r2
      exact ⟨r, rfl, q r F2 H2 (e1.trans e2) h2⟩⟩
theorem s_chn (C : CtxOk W Γ k EX N sc l X) {o p : CmpOp} {a b c : E} {x y z : Expr} {pos : Pos} (ha : PE X x (tR W Γ EX a)) (hb : PE X y (tR W Γ EX b)) (hc : PE X z (tR W Γ EX c)) (hm : lastMarks [o, p] [y, z] = false) :
    PE X (.Compare x [o, p] [y, z] pos) (tE W Γ EX (.chn o p a b c)) ∧ PT X (.Compare x [o, p] [y, z] pos) (tT W Γ EX (.chn o p a b c)) := by
  refine ⟨(pe_chain (op_cmp C.hK C.units o) (op_cmp C.hK C.units p) ha hb hc hm).impD fun σ H Q q => ?_, (pt_chain (op_cmp C.hK C.units o) (op_cmp C.hK C.units p) ha hb hc hm).impD fun σ H Q q => ?_⟩
  · obtain ⟨F, ρ, Qd, Xd, s, w, q, x⟩ := q
    refine two s w x fun d e v u F' H' e1 r1 r2 ⟨r, h1, h2⟩ => ⟨F', d, e, .bool r, e1.ok, e1.gd, r1, r2, by unfold cmpSemD; rw [h1]; rfl, Res.of e1.ok e1.gd fun v' F2 H2 e2 rv => ?_⟩
    cases rv
    refine ⟨r, rfl, ?_⟩
    cases r with
    | false =>
      rw [if_neg Bool.false_ne_true] at h2 ⊢
      exact q _ _ F2 H2 (e1.trans e2) (.bl false) h2
    | true =>
      rw [if_pos rfl] at h2 ⊢
      exact ⟨F2, ρ, _, Xd, s.ext (e1.trans e2), h2, fun d3 v3 F3 H3 e3 r3 ⟨b3, h3, w3⟩ => ⟨F3, e, d3, .bool b3, e3.ok, e3.gd, (r2.ext e2).ext e3, r3, by unfold cmpSemD; rw [h3]; rfl, Res.of e3.ok e3.gd fun v' F4 H4 e4 r4 => q _ v' F4 H4 ((e1.trans e2).trans (e3.trans e4)) r4 w3⟩, x.ext (e1.trans e2)⟩
  · obtain ⟨F, ρ, Qd, Xd, s, w, q, x⟩ := q
    refine two s w x fun d e v u F' H' e1 r1 r2 ⟨r, h1, h2⟩ => ⟨F', d, e, .bool r, e1.ok, e1.gd, r1, r2, by unfold cmpSemD; rw [h1]; rfl, Res.of e1.ok e1.gd fun v' F2 H2 e2 rv => ?_⟩
    cases rv
    refine ⟨r, rfl, ?_⟩
    cases r with
    | false =>
      rw [if_neg Bool.false_ne_true] at h2 ⊢
      exact ⟨_, rfl, q _ F2 H2 (e1.trans e2) h2⟩
    | true =>
      rw [if_pos rfl] at h2 ⊢
      refine ⟨F2, ρ, _, Xd, s.ext (e1.trans e2), h2, fun d3 v3 F3 H3 e3 r3 ⟨b3, h3, w3⟩ => ⟨F3, e, d3, .bool b3, e3.ok, e3.gd, (r2.ext e2).ext e3, r3, by unfold cmpSemD; rw [h3]; rfl, Res.of e3.ok e3.gd fun v' F4 H4 e4 r4 => ?_⟩, x.ext (e1.trans e2)⟩
      cases r4
      exact ⟨_, rfl, q _ F4 H4 ((e1.trans e2).trans (e3.trans e4)) w3⟩
theorem s_not (C : CtxOk W Γ k EX N sc l X) {a : E} {x : Expr} {pos : Pos} (ha : PE X x (tR W Γ EX a)) : PE X (.UnaryOp .Not x pos) (tE W Γ EX (.not a)) := by
  refine (pe_notT ha).impD fun σ H Q q => ?_
  obtain ⟨F, ρ, Qd, Xd, s, w, q, x⟩ := q
  exact ⟨F, ρ, _, Xd, s, w, fun d v F' H' e r ⟨b, h1, h2⟩ => ⟨b, r.truth C.hK e.ok h1, q _ _ F' H' e (.bl _) h2⟩, x⟩
theorem t_not {a : E} {x : Expr} {pos : Pos} (ha : PT X x (tT W Γ EX a)) : PT X (.UnaryOp .Not x pos) (tT W Γ EX (.not a)) := by
  refine (pt_not ha).impD fun σ H Q q => ?_
  obtain ⟨F, ρ, Qd, Xd, s, w, q, x⟩ := q
  exact ⟨F, ρ, _, Xd, s, w, fun b F' H' e h => q _ F' H' e h, x⟩
theorem s_ite {c a b : E} {z x y : Expr} {pos : Pos} (hc : PT X z (tT W Γ EX c)) (ha : PE X x (tE W Γ EX a)) (hb : PE X y (tE W Γ EX b)) : PE X (.IfExp z x y pos) (tE W Γ EX (.ite c a b)) := by
  refine (pe_ifExp hc ha hb).impD fun σ H Q q => ?_
  obtain ⟨F, ρ, Qd, Xd, s, w, q, x⟩ := q
  refine ⟨F, ρ, _, Xd, s, w, fun b F' H' e h => ?_, x⟩
  cases b with
  | true =>
    rw [if_pos rfl] at h ⊢
    exact ⟨F', ρ, Qd, Xd, s.ext e, h, fun d v F2 H2 e2 r z => q d v F2 H2 (e.trans e2) r z, x.ext e⟩
  | false =>
    rw [if_neg Bool.false_ne_true] at h ⊢
    exact ⟨F', ρ, Qd, Xd, s.ext e, h, fun d v F2 H2 e2 r z => q d v F2 H2 (e.trans e2) r z, x.ext e⟩
/-- any expression as a test, by its truth -/
theorem t_truth (C : CtxOk W Γ k EX N sc l X) {e : E} {x : Expr} (hp : plainTest x = true) (ha : PE X x (tR W Γ EX e)) :
    PT X x (fun σ H Q => ∃ F ρ Qd Xd, St W F ρ σ H ∧ wpE Γ e ρ (fun d => opt (truth d) Qd) Xd ∧ (∀ b F' H', Ext W F H F' H' → Qd b → Q b H') ∧ XOK W EX F H Xd) := by
  refine (pt_truth ha (plain_test hp X.env)).impD fun σ H Q q => ?_
  obtain ⟨F, ρ, Qd, Xd, s, w, q, x⟩ := q
  exact ⟨F, ρ, _, Xd, s, w, fun d v F' H' e r ⟨b, h1, h2⟩ => ⟨b, r.truth C.hK e.ok h1, q b F' H' e h2⟩, x⟩
end
end Dl

set_option Elab.async false
set_option linter.all false
set_option maxRecDepth 100000
set_option maxHeartbeats 8000000
/-! the data layer, part 8: the look is sound, for expressions (calls, displays, walks) -/
namespace Dl
open PySem PySem.Spec PyProof.Rows L2
section
variable {W : Wd} {Γ : Gam} {EX : XK} {X : Cx} {k : Nat} {N : List Str} {sc : Scope} {l : Bool}

/-! ### lists of expressions -/
theorem s_nil : PA X [] (tEs W Γ EX .nil) ∧ PA X [] (tRs W Γ EX .nil) := by
  refine ⟨pa_nil.impD fun σ H Q q => ?_, pa_nil.impD fun σ H Q q => ?_⟩
  · obtain ⟨F, ρ, Qd, Xd, s, w, q, x⟩ := q
    exact q _ _ F H (.refl s.f s.g) .nil rfl w
  · obtain ⟨F, ρ, Qd, Xd, s, w, q, x⟩ := q
    exact q _ _ F H (.refl s.f s.g) .nil w
theorem s_cons {e : E} {r : EL} {x : Expr} {xs : List Expr} (hs : isStar x = false) (ha : PE X x (tE W Γ EX e)) (hr : PA X xs (tEs W Γ EX r)) : PA X (x :: xs) (tEs W Γ EX (.cons e r)) := by
  refine (pa_cons ha hr (star_ok hs xs X.env)).impD fun σ H Q q => ?_
  obtain ⟨F, ρ, Qd, Xd, s, w, q, x⟩ := q
  refine ⟨F, ρ, _, Xd, s, w, fun d v F' H' e1 r1 w1 => ?_, x⟩
  exact ⟨F', ρ, _, Xd, s.ext e1, w1, fun ds vs F2 H2 e2 r2 l2 w2 => q _ _ F2 H2 (e1.trans e2) (.cons (r1.mono e2.sub) r2) (by simp [EL.len, l2]) w2, x.ext e1⟩
theorem s_consR {e : E} {r : EL} {x : Expr} {xs : List Expr} (hs : isStar x = false) (ha : PE X x (tR W Γ EX e)) (hr : PA X xs (tRs W Γ EX r)) : PA X (x :: xs) (tRs W Γ EX (.cons e r)) := by
  refine (pa_cons ha hr (star_ok hs xs X.env)).impD fun σ H Q q => ?_
  obtain ⟨F, ρ, Qd, Xd, s, w, q, x⟩ := q
  refine ⟨F, ρ, _, Xd, s, w, fun d v F' H' e1 r1 w1 => ?_, x⟩
  exact ⟨F', ρ, _, Xd, s.ext e1, w1, fun ds vs F2 H2 e2 r2 w2 => q _ _ F2 H2 (e1.trans e2) (.cons (r1.ext e2) r2) w2, x.ext e1⟩
/-! ### displays -/
theorem s_tup {as : EL} {xs : List Expr} {j : Nat} {pos : Pos} (hl : as.len ≤ 1000) (h : PA X xs (tEs W Γ EX as)) : PE X (.Tuple xs j pos) (tZ W Γ EX (.tup as)) := by
  refine (pe_tup h).impD fun σ H Q q => ?_
  obtain ⟨F, ρ, Qd, Xd, s, w, q, x⟩ := q
  refine ⟨F, ρ, _, Xd, s, w, fun ds vs F' H' e1 r1 w0 w1 => ⟨?_, fun p n => ?_⟩, x⟩
  · rw [r1.length, w0, sizeLine_eq]; omega
  · exact (q _ F' H' e1 w1).tup e1.ok e1.gd n r1 (by omega)
theorem s_lst {as : EL} {xs : List Expr} {pos : Pos} (hl : as.len ≤ 1000) (h : PA X xs (tEs W Γ EX as)) : PE X (.List xs pos) (tZ W Γ EX (.lst as)) := by
  refine (pe_lst h).impD fun σ H Q q => ?_
  obtain ⟨F, ρ, Qd, Xd, s, w, q, x⟩ := q
  refine ⟨F, ρ, _, Xd, s, w, fun ds vs F' H' e1 r1 w0 w1 => ⟨?_, fun p n => ?_⟩, x⟩
  · rw [r1.length, w0, sizeLine_eq]; omega
  · exact (q _ F' H' e1 w1) p vs n r1 (by omega)
/-! ### and, or as values -/
theorem s_and1 {op : BoolOp} {e : E} {x : Expr} {pos : Pos} (hx : PE X x (tE W Γ EX e)) : PE X (.BoolOp .And [x] pos) (tE W Γ EX (.ands (.cons e .nil))) ∧ PE X (.BoolOp .Or [x] pos) (tE W Γ EX (.ors (.cons e .nil))) := by
  exact ⟨(pe_one hx).impD fun σ H Q q => q, (pe_one hx).impD fun σ H Q q => q⟩
theorem s_and (C : CtxOk W Γ k EX N sc l X) {e e2 : E} {r : EL} {x y : Expr} {xs : List Expr} {pos : Pos} (hx : PE X x (tE W Γ EX e)) (hr : PE X (.BoolOp .And (y :: xs) pos) (tE W Γ EX (.ands (.cons e2 r)))) :
    PE X (.BoolOp .And (x :: y :: xs) pos) (tE W Γ EX (.ands (.cons e (.cons e2 r)))) := by
  refine (pe_andT hx hr).impD fun σ H Q q => ?_
  obtain ⟨F, ρ, Qd, Xd, s, w, q, x⟩ := q
  refine ⟨F, ρ, _, Xd, s, w, fun d v F' H' e1 r1 ⟨b, h1, h2⟩ => ⟨b, (Rdv.ofDat r1).truth C.hK e1.ok h1, ?_⟩, x⟩
  cases b with
  | true =>
    rw [if_pos rfl] at h2 ⊢
    exact ⟨F', ρ, Qd, Xd, s.ext e1, h2, fun d v F2 H2 e2 r z => q d v F2 H2 (e1.trans e2) r z, x.ext e1⟩
  | false =>
    rw [if_neg Bool.false_ne_true] at h2 ⊢
    exact q d v F' H' e1 r1 h2
theorem s_or (C : CtxOk W Γ k EX N sc l X) {e e2 : E} {r : EL} {x y : Expr} {xs : List Expr} {pos : Pos} (hx : PE X x (tE W Γ EX e)) (hr : PE X (.BoolOp .Or (y :: xs) pos) (tE W Γ EX (.ors (.cons e2 r)))) :
    PE X (.BoolOp .Or (x :: y :: xs) pos) (tE W Γ EX (.ors (.cons e (.cons e2 r)))) := by
  refine (pe_orT hx hr).impD fun σ H Q q => ?_
  obtain ⟨F, ρ, Qd, Xd, s, w, q, x⟩ := q
  refine ⟨F, ρ, _, Xd, s, w, fun d v F' H' e1 r1 ⟨b, h1, h2⟩ => ⟨b, (Rdv.ofDat r1).truth C.hK e1.ok h1, ?_⟩, x⟩
  cases b with
  | true =>
    rw [if_pos rfl] at h2 ⊢
    exact q d v F' H' e1 r1 h2
  | false =>
    rw [if_neg Bool.false_ne_true] at h2 ⊢
    exact ⟨F', ρ, Qd, Xd, s.ext e1, h2, fun d v F2 H2 e2 r z => q d v F2 H2 (e1.trans e2) r z, x.ext e1⟩
/-! ### .. as tests -/
theorem t_and1 {e : E} {x : Expr} {pos : Pos} (hx : PT X x (tT W Γ EX e)) : PW X (.BoolOp .And [x] pos) (tT W Γ EX (.ands (.cons e .nil))) := by
  refine (pw_and1 hx).impD fun σ H Q q => ?_
  obtain ⟨F, ρ, Qd, Xd, s, w, q, x⟩ := q
  refine ⟨F, ρ, _, Xd, s, w, fun b F' H' e1 h => ?_, x⟩
  cases b with
  | true => exact q _ F' H' e1 h
  | false => exact q _ F' H' e1 h
theorem t_or1 {e : E} {x : Expr} {pos : Pos} (hx : PT X x (tT W Γ EX e)) : PW X (.BoolOp .Or [x] pos) (tT W Γ EX (.ors (.cons e .nil))) := by
  refine (pw_or1 hx).impD fun σ H Q q => ?_
  obtain ⟨F, ρ, Qd, Xd, s, w, q, x⟩ := q
  refine ⟨F, ρ, _, Xd, s, w, fun b F' H' e1 h => ?_, x⟩
  cases b with
  | true => exact q _ F' H' e1 h
  | false => exact q _ F' H' e1 h
theorem t_and {e e2 : E} {r : EL} {x y : Expr} {xs : List Expr} {pos : Pos} (hx : PT X x (tT W Γ EX e)) (hr : PW X (.BoolOp .And (y :: xs) pos) (tT W Γ EX (.ands (.cons e2 r)))) :
    PW X (.BoolOp .And (x :: y :: xs) pos) (tT W Γ EX (.ands (.cons e (.cons e2 r)))) := by
  refine (pw_and hx hr).impD fun σ H Q q => ?_
  obtain ⟨F, ρ, Qd, Xd, s, w, q, x⟩ := q
  refine ⟨F, ρ, _, Xd, s, w, fun b F' H' e1 h => ?_, x⟩
  cases b with
  | true =>
    rw [if_pos rfl] at h ⊢
    exact ⟨F', ρ, Qd, Xd, s.ext e1, h, fun b F2 H2 e2 z => q b F2 H2 (e1.trans e2) z, x.ext e1⟩
  | false =>
    rw [if_neg Bool.false_ne_true] at h ⊢
    exact q _ F' H' e1 h
theorem t_or {e e2 : E} {r : EL} {x y : Expr} {xs : List Expr} {pos : Pos} (hx : PT X x (tT W Γ EX e)) (hr : PW X (.BoolOp .Or (y :: xs) pos) (tT W Γ EX (.ors (.cons e2 r)))) :
    PW X (.BoolOp .Or (x :: y :: xs) pos) (tT W Γ EX (.ors (.cons e (.cons e2 r)))) := by
  refine (pw_or hx hr).impD fun σ H Q q => ?_
  obtain ⟨F, ρ, Qd, Xd, s, w, q, x⟩ := q
  refine ⟨F, ρ, _, Xd, s, w, fun b F' H' e1 h => ?_, x⟩
  cases b with
  | true =>
    rw [if_pos rfl] at h ⊢
    exact q _ F' H' e1 h
  | false =>
    rw [if_neg Bool.false_ne_true] at h ⊢
    exact ⟨F', ρ, Qd, Xd, s.ext e1, h, fun b F2 H2 e2 z => q b F2 H2 (e1.trans e2) z, x.ext e1⟩
/-! ### subscripts -/
theorem s_idx (C : CtxOk W Γ k EX N sc l X) {a i : E} {x y : Expr} {pos : Pos} (hi : plainIx y = true) (ha : PE X x (tR W Γ EX a)) (hb : PE X y (tR W Γ EX i)) : PE X (.Subscript x y pos) (tE W Γ EX (.idx a i)) := by
  refine (pe_ix (ix_D C.hK) ha hb (plain_ix hi)).impD fun σ H Q q => ?_
  obtain ⟨F, ρ, Qd, Xd, s, w, q, x⟩ := q
  exact two s w x fun d e v u F' H' e1 r1 r2 ⟨r, h1, h2⟩ => ⟨F', d, e, r, e1.ok, e1.gd, r1, r2, h1, fun v' F2 H2 e2 r2 => q r v' F2 H2 (e1.trans e2) r2 h2⟩
theorem o_none : PO X none (tOo W Γ EX .none) := by
  refine po_none.impD fun σ H Q q => ?_
  obtain ⟨F, ρ, Qd, Xd, s, w, q, x⟩ := q
  exact q _ F H (.refl s.f s.g) w
theorem o_some {e : E} {x : Expr} (h : PE X x (tR W Γ EX e)) : PO X (some x) (tOo W Γ EX (.some e)) := by
  refine (po_some h).impD fun σ H Q q => ?_
  obtain ⟨F, ρ, Qd, Xd, s, w, q, x⟩ := q
  refine ⟨F, ρ, _, Xd, s, w, fun d v F' H' e1 r1 w1 => ?_, x⟩
  cases d with
  | int i => cases r1.int; exact ⟨i, rfl, q _ F' H' e1 w1⟩
  | none => cases w1
  | bool _ => cases w1
  | str _ => cases w1
  | list _ => cases w1
  | tuple _ => cases w1
  | dict _ => cases w1
theorem s_slc (C : CtxOk W Γ k EX N sc l X) {a : E} {lo hi : EO} {x : Expr} {lx hx : Option Expr} {p2 pos : Pos} (ha : PE X x (tR W Γ EX a)) (hl : PO X lx (tOo W Γ EX lo)) (hh : PO X hx (tOo W Γ EX hi)) :
    PE X (.Subscript x (.Slice lx hx none p2) pos) (tZ W Γ EX (.slc a lo hi)) := by
  refine (pe_slice (sl_D C.hK) ha hl hh).impD fun σ H Q q => ?_
  obtain ⟨F, ρ, Qd, Xd, s, w, q, x⟩ := q
  refine ⟨F, ρ, _, Xd, s, w, fun d v F' H' e1 r1 w1 => ?_, x⟩
  refine ⟨F', ρ, _, Xd, s.ext e1, w1, fun o F2 H2 e2 w2 => ?_, x.ext e1⟩
  exact ⟨F2, ρ, _, Xd, s.ext (e1.trans e2), w2, fun o2 F3 H3 e3 ⟨r, h1, h2⟩ => ⟨F3, d, r, e3.ok, e3.gd, (r1.ext e2).ext e3, h1, q r F3 H3 ((e1.trans e2).trans e3) h2⟩, x.ext (e1.trans e2)⟩
/-! ### calls of built-in functions -/
theorem s_blt (C : CtxOk W Γ k EX N sc l X) {f : Blt} {g : Str} {as : EL} {xs : List Expr} {p pos : Pos} (hf : bltIs f g = true) (hg : chkGl sc g = true) (hs : noStars xs = true) (hne : xs ≠ []) (ha : PA X xs (tRs W Γ EX as)) :
    PE X (.Call (.Name g p) xs [] pos) (tZ W Γ EX (.blt f as)) := by
  have eg : f.name = g := of_decide_eq_true hf
  obtain ⟨h1, h2, h3⟩ := gl_of C hg
  have hm : X.mg g = none := C.blt g (by rw [← eg]; cases f <;> decide)
  cases xs with
  | nil => exact absurd rfl hne
  | cons y ys =>
    unfold noStars at hs
    simp only [List.all_cons, Bool.and_eq_true, Bool.not_eq_true'] at hs
    have hst := star_ok hs.1 ys X.env
    have hpl := stars_plain (xs := ys) hs.2 pos X.env
    have hc := call_D (W := W) C.calm C.hK C.units f
    have key : PE X (.Call (.Name g p) (y :: ys) [] pos) (fun σ H Q => tRs W Γ EX as σ H fun vs H1 => rBlt W (bltSem f) vs H1 Q) := by
      subst eg
      by_cases ht : f.isTy = true
      · have hc' : CallR X (.type f.id) (rBlt W (bltSem f)) := by
          unfold Blt.val at hc; rw [if_pos ht] at hc; exact hc
        exact pe_callTy hc' h1 hm (by cases f <;> first | (cases ht; done) | decide +kernel) ha h3 h2 hst hpl
      · have hc' : CallR X (.builtin f.id) (rBlt W (bltSem f)) := by
          unfold Blt.val at hc; rw [if_neg ht] at hc; exact hc
        exact pe_callB hc' h1 hm (by cases f <;> first | exact absurd rfl ht | decide +kernel) ha h3 h2 hst hpl
    refine key.impD fun σ H Q q => ?_
    obtain ⟨F, ρ, Qd, Xd, s, w, q, x⟩ := q
    exact ⟨F, ρ, _, Xd, s, w, fun ds vs F' H' e1 r1 ⟨r, h1, h2⟩ => ⟨F', ds, r, e1.ok, e1.gd, r1, h1, q r F' H' e1 h2⟩, x⟩
theorem s_isi (C : CtxOk W Γ k EX N sc l X) {a : E} {T : String} {f t : Str} {x : Expr} {p p2 pos : Pos} (hf : f = "isinstance") (hg : chkGl sc f = true) (ht : t = PySem.Str.ofString T) (hgt : chkGl sc t = true) (hT : T ∈ isTys) (hs : isStar x = false)
    (ha : PE X x (tR W Γ EX a)) : PE X (.Call (.Name f p) [x, .Name t p2] [] pos) (tE W Γ EX (.isi a T)) := by
  obtain ⟨h1, h2, h3⟩ := gl_of C hg
  obtain ⟨g1, g2, g3⟩ := gl_of C hgt
  have hm : X.mg f = none := C.blt f (by rw [hf]; decide)
  have hbt : ∀ T ∈ isTys, PySem.Str.ofString T ∈ bltNames ∧ bootBuiltins (PySem.Str.ofString T) = some (.type T) := by decide +kernel
  have hmt : X.mg t = none := C.blt t (by rw [ht]; exact (hbt T hT).1)
  have pt : PE X (.Name t p2) (tC (.ty T)) := pe_bltn g1 hmt (by rw [ht]; exact (hbt T hT).2) rfl g3 g2
  have key := pe_callB (pos := pos) (p := p) (call_isi1 (W := W) C.hK T) h1 hm (by rw [hf]; decide +kernel) (pa_cons ha (pa_cons pt pa_nil rfl) (star_ok hs _ X.env)) h3 h2 (star_ok hs _ X.env) (by rfl)
  refine key.impD fun σ H Q q => ?_
  obtain ⟨F, ρ, Qd, Xd, s, w, q, x⟩ := q
  exact ⟨F, ρ, _, Xd, s, w, fun d v F' H' e1 r1 w1 => ⟨F', v, d, rfl, e1.ok, r1, hT, q _ _ F' H' e1 (.bl _) w1⟩, x⟩
end
end Dl

set_option Elab.async false
set_option linter.all false
set_option maxRecDepth 100000
set_option maxHeartbeats 8000000
/-! the data layer, part 9: calls of defs, walks, comprehensions -/
namespace Dl
open PySem PySem.Spec PyProof.Rows L2
section
variable {W : Wd} {Γ : Gam} {EX : XK} {X : Cx} {k : Nat} {N : List Str} {sc : Scope} {l : Bool}

/-! ### calls of defs -/
def rowV (W : Wd) (r : Option Nat) : List V := if r.isSome then [V.ref W.R] else []
def tAs (W : Wd) (Γ : Gam) (EX : XK) (r : Option Nat) (e : EL) : TA := fun σ H Q => ∃ F ρ Qd Xd, St W F ρ σ H ∧ rowAt ρ r = true ∧ wpEs Γ e ρ Qd Xd ∧ (∀ ds vs F' H', Ext W F H F' H' → Dats W.K F' vs ds → ds.length = e.len → Qd ds → Q (rowV W r ++ vs) H') ∧ XOK W EX F H Xd
theorem as_none {as : EL} {xs : List Expr} (h : PA X xs (tEs W Γ EX as)) : PA X xs (tAs W Γ EX none as) := by
  refine h.impD fun σ H Q q => ?_
  obtain ⟨F, ρ, Qd, Xd, s, _, w, q, x⟩ := q
  exact ⟨F, ρ, Qd, Xd, s, w, q, x⟩
theorem as_some (C : CtxOk W Γ k EX N sc l X) {i : Nat} {x : Str} {pos : Pos} {as : EL} {xs : List Expr} (hx : chkVar N sc i x = true) (h : PA X xs (tEs W Γ EX as)) : PA X (.Name x pos :: xs) (tAs W Γ EX (some i) as) := by
  unfold chkVar nameOk at hx
  simp only [Bool.and_eq_true, decide_eq_true_eq, Bool.not_eq_true'] at hx
  have hp : PE X (.Name x pos) (tVar i) := pe_var (by rw [C.hN]; exact hx.1.1) (by rw [C.hsc]; exact vis_of hx.1.2) hx.2.1.1 hx.2.1.2
  refine (pa_cons hp h rfl).impD fun σ H Q q => ?_
  obtain ⟨F, ρ, Qd, Xd, s, hr, w, q, x⟩ := q
  exact ⟨_, s.row hr, F, ρ, Qd, Xd, s, w, fun ds vs F' H' e1 r1 l1 w1 => q ds vs F' H' e1 r1 l1 w1, x⟩
/-- keywords -/
inductive KwPE (X : Cx) (W : Wd) (Γ : Gam) (EX : XK) : List Keyword → EL → Prop
  | nil : KwPE X W Γ EX [] .nil
  | cons {n : Option Str} {x : Expr} {p : Pos} {kw : List Keyword} {e : E} {r : EL} : PE X x (tE W Γ EX e) → KwPE X W Γ EX kw r → KwPE X W Γ EX (⟨n, x, p⟩ :: kw) (.cons e r)
theorem KwPE.pk : ∀ {kw : List Keyword} {kws : EL}, KwPE X W Γ EX kw kws → PK X kw (tEs W Γ EX kws)
  | _, _, .nil => ⟨fun pos pins s σ H Q I q => pk_nil.run pos pins s σ H Q I (by
      obtain ⟨F, ρ, Qd, Xd, s, w, q, x⟩ := q
      exact q _ _ F H (.refl s.f s.g) .nil rfl w)⟩
  | _, _, .cons h r => ⟨fun pos pins s σ H Q I q => (pk_cons h r.pk).run pos pins s σ H Q I (by
      obtain ⟨F, ρ, Qd, Xd, s, w, q, x⟩ := q
      refine ⟨F, ρ, _, Xd, s, w, fun d v F' H' e1 r1 w1 => ?_, x⟩
      exact ⟨F', ρ, _, Xd, s.ext e1, w1, fun ds vs F2 H2 e2 r2 l2 w2 => q _ _ F2 H2 (e1.trans e2) (.cons (r1.mono e2.sub) r2) (by simp [EL.len, l2]) w2, x.ext e1⟩)⟩
theorem kw_facts (pos : Pos) (env : Env) : ∀ {kw : List Keyword} {ks : List Str}, kwNames kw = some ks →
    (backToKw pos (keywordEach kw env)).all (·.1.isSome) = true ∧ (backToKw pos (keywordEach kw env)).filterMap (·.1) = ks ∧ (backToKw pos (keywordEach kw env)).any (·.1.isNone) = false
  | [], ks, h => by cases h; exact ⟨rfl, rfl, rfl⟩
  | ⟨some n, v, p⟩ :: r, ks, h => by
    obtain ⟨l, h1, rfl⟩ := Option.map_eq_some_iff.mp (show (kwNames r).map (n :: ·) = some ks from h)
    obtain ⟨a, b, c⟩ := kw_facts pos env h1
    refine ⟨?_, ?_, ?_⟩
    · show (true && (backToKw pos (keywordEach r env)).all (·.1.isSome)) = true
      rw [a]; rfl
    · show n :: (backToKw pos (keywordEach r env)).filterMap (·.1) = n :: l
      rw [b]
    · show (false || (backToKw pos (keywordEach r env)).any (·.1.isNone)) = false
      rw [c]; rfl
  | ⟨none, v, p⟩ :: r, ks, h => by cases h
theorem kw_len {kw : List Keyword} {kws : EL} (h : KwPE X W Γ EX kw kws) : ∀ {ks : List Str}, kwNames kw = some ks → ks.length = kws.len := by
  induction h with
  | nil => intro ks e; cases e; rfl
  | @cons n x p kw e r hx hr ih =>
    intro ks e
    cases n with
    | none => cases e
    | some n =>
      obtain ⟨l, h1, rfl⟩ := Option.map_eq_some_iff.mp (show (kwNames kw).map (n :: ·) = some ks from e)
      simp [EL.len, ih h1]
theorem run_call (C : CtxOk W Γ k EX N sc l X) {f : Str} {r : Option Nat} {as kws : EL} {ks : List Str} {xs : List Expr} {kw : List Keyword} {p pos : Pos} (hg : chkGl sc f = true) (hs : noStars xs = true) (hk : kwNames kw = some ks)
    (ha : PA X xs (tAs W Γ EX r as)) (hkw : KwPE X W Γ EX kw kws) (hne : xs = [] → kw ≠ [] ∧ as = .nil ∧ r = none) : PE X (.Call (.Name f p) xs kw pos) (tE W Γ EX (.call f r as ks kws)) := by
  obtain ⟨g1, g2, g3⟩ := gl_of C hg
  refine ⟨fun pins s σ H Q I q => ?_⟩
  obtain ⟨F, ρ, Qd, Xd, st, ⟨sg, hsg, ⟨hrow, hok⟩, w⟩, q, x⟩ := q
  obtain ⟨fa, fd, h1, h2, h3, h4, h5⟩ := (C.funs f sg hsg).ex
  unfold sgOk at hok
  simp only [Bool.and_eq_true, Bool.or_eq_true, decide_eq_true_eq, beq_iff_eq] at hok
  obtain ⟨hok1, hok2⟩ := hok
  have erow : ∀ vs : List V, rowV W r ++ vs = (if sg.row then [V.ref W.R] else []) ++ vs := fun vs => by
    unfold rowV; rw [hok1]
  -- the end, from all values
  have fin : ∀ (ds es : List D) (vs zs : List V) F1 H1, Ext W F H F1 H1 → Dats W.K F1 vs ds → Dats W.K F1 zs es → sg.sp (ds ++ es) Qd Xd → spV W sg ((rowV W r ++ vs) ++ zs) H1 Q EX := fun ds es vs zs F1 H1 e1 r1 r2 w1 =>
    ⟨F1, ds ++ es, vs ++ zs, Qd, Xd, e1.ok, e1.gd, by rw [erow, List.append_assoc], r1.append r2, w1, fun d v F2 H2 e2 rd wd => q d v F2 H2 (e1.trans e2) rd wd, x.ext e1⟩
  cases kw with
  | nil =>
    have ek : ks = [] := by cases hk; rfl
    subst ek
    cases hkw
    have key : tAs W Γ EX r as σ H (fun vs H1 => spV W sg (vs ++ []) H1 Q EX) := by
      refine ⟨F, ρ, _, Xd, st, hrow, w, fun ds vs F1 H1 e1 r1 l1 w1 => ?_, x⟩
      exact fin ds [] vs [] F1 H1 e1 r1 .nil w1
    cases xs with
    | nil => exact absurd rfl (hne rfl).1
    | cons y ys =>
      have hs' := hs
      unfold noStars at hs'
      simp only [List.all_cons, Bool.and_eq_true, Bool.not_eq_true'] at hs'
      exact (pe_call (x := f) (p := p) (pos := pos) h3 C.room g1 h1 h2 h4 (dvs := []) .nil C.pass ha g2 (star_ok hs'.1 ys X.env) (stars_plain (xs := ys) hs'.2 pos X.env)).run pins s σ H Q I key
  | cons z zs =>
    obtain ⟨k1, k2, k3⟩ := kw_facts pos X.env hk
    have hlen := kw_len hkw hk
    have hks : ks ∈ sg.kws := by
      rcases hok2 with e | e
      · cases ks with
        | nil => cases hkw; cases hlen
        | cons _ _ => cases e
      · exact e
    have B := h5 ks hks
    have key : ∀ σ H F ρ (Qd : D → Prop) (Xd : Str → Prop) (Q : VK), St W F ρ σ H → wpEs Γ as ρ (fun ds => wpEs Γ kws ρ (fun es => sg.sp (ds ++ es) Qd Xd) Xd) Xd → rowAt ρ r = true → XOK W EX F H Xd →
        (∀ d v F' H', Ext W F H F' H' → Dat W.K F' v d → Qd d → Q v H') → tAs W Γ EX r as σ H (fun vs H1 => tEs W Γ EX kws σ H1 fun us H2 => spV W sg (kwG ks.length vs us) H2 Q EX) := fun σ H F ρ Qd Xd Q st w hrow x q => by
      refine ⟨F, ρ, _, Xd, st, hrow, w, fun ds vs F1 H1 e1 r1 l1 w1 => ?_, x⟩
      refine ⟨F1, ρ, _, Xd, st.ext e1, w1, fun es us F2 H2 e2 r2 l2 w2 => ?_, x.ext e1⟩
      show spV W sg (kwG ks.length (rowV W r ++ vs) us) H2 Q EX
      unfold kwG
      rw [if_pos (by rw [r2.length, l2, hlen])]
      exact ⟨F2, ds ++ es, vs ++ us, Qd, Xd, e2.ok, e2.gd, by rw [erow, List.append_assoc], (r1.mono e2.sub).append r2, w2, fun d v F3 H3 e3 rd wd => q d v F3 H3 ((e1.trans e2).trans e3) rd wd, (x.ext e1).ext e2⟩
    cases xs with
    | nil =>
      obtain ⟨_, ha0, hr0⟩ := hne rfl
      subst ha0 hr0
      refine wpAny_Call_Name_kw (ld_glob I g1 h1 ?_ g2)
      refine PySem.W.callWith_KW0 (h₀ := X.base) I.ok.mod.kin h2 k1 ?_ (by rw [k3]; rfl)
      have w' : wpEs Γ kws ρ (fun es => sg.sp ([] ++ es) Qd Xd) Xd := w
      refine thn ((hkw.pk).run pos pins s σ H (fun us H2 => spV W sg (kwG ks.length [] us) H2 Q EX) I ?_) fun ws s2 ⟨zs', H2, I2, rz, q2⟩ => ⟨I2.kIn, ?_⟩
      · refine ⟨F, ρ, _, Xd, st, w', fun es us F2 H2 e2 r2 l2 w2 => ?_, x⟩
        show spV W sg (kwG ks.length [] us) H2 Q EX
        unfold kwG
        rw [if_pos (by rw [r2.length, l2, hlen])]
        exact ⟨F2, [] ++ es, [] ++ us, Qd, Xd, e2.ok, e2.gd, by rw [← erow]; rfl, r2, w2, fun d v F3 H3 e3 rd wd => q d v F3 H3 (e2.trans e3) rd wd, x.ext e2⟩
      · rw [k2]
        exact run_fnk h3 C.room B C.pass I2 .nil rz q2
    | cons y ys =>
      have hs' := hs
      unfold noStars at hs'
      simp only [List.all_cons, Bool.and_eq_true, Bool.not_eq_true'] at hs'
      refine (pe_callK (x := f) (p := p) (pos := pos) h3 C.room g1 h1 h2 B C.pass ha hkw.pk k1 k2 g2 (star_ok hs'.1 ys X.env) ?_).run pins s σ H Q I (key σ H F ρ Qd Xd Q st w hrow x q)
      rw [stars_plain (xs := y :: ys) hs pos X.env, k3]
      rfl
end
end Dl

set_option Elab.async false
set_option linter.all false
set_option maxRecDepth 100000
set_option maxHeartbeats 8000000
/-! the data layer, part 10: what is walked -/
namespace Dl
open PySem PySem.Spec PyProof.Rows L2

/-! ### enumerate of a tuple -/
def IteT (K : PySem.W.Frag) (a : Addr) : It :=
  ⟨fun i H => ∃ (xs : List V) (x : V), SqT K H a xs ∧ xs[i]? = some x,
    fun i H v H' => ∃ T x, v = .ref T ∧ H T = none ∧ H' = upd H T (.tup [.int (i : Nat), x]) ∧ ∀ xs, SqT K H a xs → xs[i]? = some x,
    fun i H => ∃ xs : List V, SqT K H a xs ∧ xs.length = i⟩
theorem tupIter_ne {h : Heap} {a it : Addr} {i : Nat} {items : Array Value} (ht : h.IsTuple a items) (hi : h.IsTupleIter it a i) : a ≠ it := by
  rintro rfl
  obtain ⟨o, e, c, _⟩ := ht
  obtain ⟨o', e', c', _⟩ := hi
  rw [e] at e'
  cases e'
  rw [c] at c'
  exact absurd c' (by decide)
theorem turn_enumT {P : Program} {w : World} {K : PySem.W.Frag} {elts : List Expr} {kk : Nat} {tpos : Pos} (a e it : Addr) :
    Turn P w K (.Tuple elts kk tpos) (IteT K a) [e, it] e (fun i h => (∃ old, IsEnum h e it ((i : Nat) : Int) old) ∧ h.IsTupleIter it a i ∧ e ≠ it) where
  mem := by simp
  obj := fun i h st b hb => by
    obtain ⟨⟨old, he⟩, ⟨o, ho, hc, hd⟩, _⟩ := st
    have e' : b = e ∨ b = it := by simpa using hb
    rcases e' with z | z
    · rw [z]; exact ⟨_, he, fun v q => nomatch q⟩
    · rw [z]; exact ⟨o, ho, fun v q => by rw [hd] at q; cases q⟩
  keep := fun i h h' st k => let ⟨⟨old, he⟩, hi, hne⟩ := st; ⟨⟨old, k e (by simp) _ he⟩, hi.at fun o q => k it (by simp) o q, hne⟩
  item := by
    intro X hP hw hK hc i pins s σ H E I hf st hg
    subst hP hw hK
    obtain ⟨⟨old, he⟩, hit, hne⟩ := st
    obtain ⟨xs, x, hq, hx⟩ := hg
    obtain ⟨its, rv, p, hz⟩ := I.tuple hq
    have hT : s.heap.IsTuple a its.toArray := p
    obtain ⟨u, hu, ru⟩ := rv.get hx
    have hel : e < s.heap.objs.size := Heap.lt_size he
    have hil : it < s.heap.objs.size := by obtain ⟨_, q, _⟩ := hit; exact Heap.lt_size q
    have hai := tupIter_ne hT hit
    have hae : e ≠ a := by
      rintro rfl
      obtain ⟨o, q, c, _⟩ := hT
      rw [he] at q
      cases q
      exact absurd (show Value.type "enumerate" = Value.type "tuple" from c) (by decide)
    have D := Draws.tuple (prog := X.prog) (w := X.w) (A := X.A.in1) (I.ok.hd hc) it a hai its.toArray
    have hlt : i < its.toArray.size := by simpa using (List.getElem?_eq_some_iff.mp hu).1
    refine wpAny_pyNext_enum_itemD D he ⟨hit, hT⟩ hlt hne (by simp [hne, hae]) fun v h' tk hPv ho hit' hT' hsz hk => ?_
    have ev : v = u := by
      have h1 : its.toArray[i]? = some v := hPv
      have h2 : its[i]? = some v := by simpa using h1
      rw [hu] at h2
      exact (Option.some.inj h2).symm
    subst ev
    refine ⟨_, rfl, wpAny_letOwnedTupleGo_enum (s := { s with heap := h', toks := tk + 1 }) ho fun h'' he' sb => ?_⟩
    have hT2 : h''.get? s.heap.objs.size = some { cls := .type "tuple", data := .seq #[.int i tk, v] } := (sb.2 _ (Nat.ne_of_gt hel)).trans hT'
    have new : ObjOk X.prog X.w (upd H s.heap.objs.size (.tup [.int (i : Nat), x])) h'' s.heap.objs.size (.tup [.int (i : Nat), x]) :=
      ⟨by show 2 ≤ sizeLine; decide, [.int i tk, v], .cons ⟨_, rfl⟩ (.cons ru .nil), ⟨_, hT2, rfl, _, rfl⟩⟩
    have I1 : Inv X pins σ (upd H s.heap.objs.size (.tup [.int (i : Nat), x])) { s with heap := h'', toks := tk + 1 } :=
      I.turnedNew (ch := [e, it]) (fun b ob hb q => (sb.2 b (fun z => hb (by simp [z]))).trans (hk b ob (fun z => hb (by simp [z])) (fun z => hb (by simp [z])) q)) hf (Nat.le_refl _) new
    refine ⟨.ref s.heap.objs.size, _, I1, rfl, ⟨_, x, rfl, I.hok.fresh (Nat.le_refl _), rfl, fun ys hy => by rw [I.tuple_inj hy hq]; exact hx⟩, ⟨⟨v, ?_⟩, hit'.1.at fun o q => (sb.2 it (Ne.symm hne)).trans q, hne⟩, fun b hb => ?_⟩
    · have e1 : ((i + 1 : Nat) : Int) = (i : Int) + 1 := by omega
      rw [e1]; exact he'
    · have hb' : b < s.heap.objs.size := by
        have e' : b = e ∨ b = it := by simpa using hb
        rcases e' with z | z
        · rw [z]; exact hel
        · rw [z]; exact hil
      rw [upd_ne (Nat.ne_of_lt hb')]
      exact (hf b hb).1
  done := by
    intro X hP hw hK hc i pins s σ H E I hf st hg
    subst hP hw hK
    obtain ⟨⟨old, he⟩, hit, hne⟩ := st
    obtain ⟨xs, hq, hx⟩ := hg
    obtain ⟨its, rv, p, hz⟩ := I.tuple hq
    have hT : s.heap.IsTuple a its.toArray := p
    obtain ⟨f0, f1, f2, f3, f4, f5⟩ := hf it (by simp)
    have hl := rv.length
    have D := Draws.tuple (prog := X.prog) (w := X.w) (A := X.A.in1) (I.ok.hd hc) it a (tupIter_ne hT hit) its.toArray
    have hn : i = its.toArray.size := by simp; omega
    refine wpAny_pyNext_enum_endD D he ⟨hn ▸ hit, hT⟩ fun h' eb => ⟨rfl, I.turned (t' := s.toks) (fun b o hb q => eb b o hb q) f0 f1 f3 f4 f5⟩
  self := fun A i s Q E st h => let ⟨⟨_, he⟩, _⟩ := st; wpAny_pyIter_enum he h
theorem meets_enumerate_newT (l : Addr) (items : Array Value) (n : Nat) (dct : Option Addr) (sl : Array (Option Value)) :
    Meets (Builtin.«enumerate.__new__» ⟨[.type "enumerate", .ref l], []⟩) (fun _ R s => s.heap.get? l = some { cls := .type "tuple", dict := dct, data := .seq items n, slots := sl } ∧
      R (.ok (.ret (.ref (s.heap.push { cls := .type "tuple_iterator", data := .fields #[.ref l, .int 0 0] }).objs.size)))
        { s with heap := (s.heap.push { cls := .type "tuple_iterator", data := .fields #[.ref l, .int 0 0] }).push { cls := .type "enumerate", data := .fields #[.none, .bool false, .ref s.heap.objs.size, rawInt 0, .none, .none] } }) :=
  .of_wp fun prog w A R s h => by
    obtain ⟨hp, g, d, tk, os⟩ := s
    obtain ⟨hl, h⟩ := h
    have hsub := sub_enumerate
    have hL : Heap.IsTuple (Shared.heap ⟨hp, g, d, tk, os⟩) l items := ⟨_, hl, rfl, n, rfl⟩
    wp_walk using wpAny_loadPart' hl
    refine wpAny_stack_any fun st => wpAny_pure ?_
    split
    · rename_i c _ _ _ _ _
      cases (c == Value.type "enumerate")
      · wp_walk using wpAny_loadPart' hl, wpAny_pyIter_tuple hL
        exact ⟨_, rfl, h⟩
      · wp_walk using wpAny_loadPart' hl, wpAny_pyIter_tuple hL
        exact ⟨_, rfl, h⟩
    · wp_walk using wpAny_loadPart' hl, wpAny_pyIter_tuple hL
      exact ⟨_, rfl, h⟩
theorem call_enumerate_tuple {prog : Program} {w : World} {A : Around} {E : Value → Shared → Prop} {s : Shared} {l : Addr} {items : Array Value} {Q : Value → Shared → Prop} (hL : s.heap.IsTuple l items)
    (h : ∀ h', IsEnum h' (s.heap.objs.size + 1) s.heap.objs.size 0 .none → h'.IsTupleIter s.heap.objs.size l 0 → h'.objs.size = s.heap.objs.size + 2 →
      (∀ b o, s.heap.get? b = some o → h'.get? b = some o) → Q (.ref (s.heap.objs.size + 1)) { s with heap := h' }) :
    wpAny (model prog w) A (call (.type "enumerate") [.ref l]) Q E s := by
  obtain ⟨⟨c, dct, dt, sl⟩, hl, hc, n, hd⟩ := hL
  replace hc : c = .type "tuple" := hc
  replace hd : dt = .seq items n := hd
  subst hc hd
  refine callType_new F.called_enumerate (by decide) (F.typeCall_enumerate_1 _) (F.newCall_enumerate_1 _) (fun obj => F.args_object_init_2 obj _) F.entry_enumerate_new
    (meets_enumerate_newT l items n dct sl) ⟨hl, ?_⟩
  have hz : (s.heap.push { cls := .type "tuple_iterator", data := .fields #[.ref l, .int 0 0] }).objs.size = s.heap.objs.size + 1 := Heap.size_push ..
  show _ ∧ _
  rw [hz]
  have he : IsEnum ((s.heap.push { cls := .type "tuple_iterator", data := .fields #[.ref l, .int 0 0] }).push
      { cls := .type "enumerate", data := .fields #[.none, .bool false, .ref s.heap.objs.size, rawInt 0, .none, .none] }) (s.heap.objs.size + 1) s.heap.objs.size 0 .none := by
    have := Heap.get?_push_size (s.heap.push { cls := .type "tuple_iterator", data := .fields #[.ref l, .int 0 0] })
      (o := { cls := .type "enumerate", data := .fields #[.none, .bool false, .ref s.heap.objs.size, rawInt 0, .none, .none] }) rfl
    rw [hz] at this; exact this
  refine ⟨⟨_, he, rfl⟩, h _ he ⟨_, Heap.get?_push_of_some _ (Heap.get?_push_size _ rfl), rfl, rfl⟩ (by rw [Heap.size_push, hz]) fun b o x => Heap.get?_push_of_some _ (Heap.get?_push_of_some _ x)⟩
def iEnumA (K : PySem.W.Frag) (ta : TA) : TI := fun σ H R => ta σ H fun vs H1 => ∃ a xs, vs = [.ref a] ∧ ((SqL K H1 a xs ∧ R (Ite K a) H1) ∨ (SqT K H1 a xs ∧ R (IteT K a) H1))
theorem pi_enumA {X : Cx} {e : Expr} {ta : TA} {p pos tpos : Pos} {elts : List Expr} {kk : Nat} (hg : Gl X "enumerate") (hm : X.mg "enumerate" = none) (ha : PA X [e] ta) (hs : starEach [e] X.env = [(false, eval e X.env)]) :
    PI X (.Tuple elts kk tpos) (.Call (.Name "enumerate" p) [e] [] pos) (iEnumA X.K ta) := by
  refine ⟨fun pins s σ H R I h => ?_⟩
  refine Call_ (ld_blt I hg hm boot_enumerate (PyProof.Rows.callWith_type1 (thn (ha.run pos pins s σ H _ I h) fun us s1 ⟨vs, H1, I1, r1, q1⟩ => ?_) hs rfl))
  obtain ⟨a, xs, ex, q1⟩ := q1
  subst ex
  have fin : ∀ b, b ∈ [s1.heap.objs.size + 1, s1.heap.objs.size] → FpOk X pins H1 b := fun b hb => by
    have e' : b = s1.heap.objs.size + 1 ∨ b = s1.heap.objs.size := by simpa using hb
    have hle : s1.heap.objs.size ≤ b := by
      rcases e' with z | z
      · rw [z]; exact Nat.le_add_right _ _
      · rw [z]; exact Nat.le_refl _
    exact I1.fpOk hle (I1.hok.fresh hle)
  cases r1 with
  | cons r rr =>
    cases rr
    cases r
    rcases q1 with ⟨hq, q⟩ | ⟨hq, q⟩
    · obtain ⟨its, rv, p', hz⟩ := I1.list hq
      refine call_enumerate_list p'.isList fun h' he hit hsz hk => wpAny_pyIter_enum he ?_
      have I2 : Inv X pins σ H1 { s1 with heap := h' } := I1.kept (t' := s1.toks) hk
      exact ⟨s1.heap.objs.size + 1, [s1.heap.objs.size + 1, s1.heap.objs.size], _, _, H1, rfl, I2, turn_enum a (s1.heap.objs.size + 1) s1.heap.objs.size, ⟨⟨.none, he⟩, hit, Nat.succ_ne_self _⟩, fin, q⟩
    · obtain ⟨its, rv, p', hz⟩ := I1.tuple hq
      refine call_enumerate_tuple (show s1.heap.IsTuple a its.toArray from p') fun h' he hit hsz hk => wpAny_pyIter_enum he ?_
      have I2 : Inv X pins σ H1 { s1 with heap := h' } := I1.kept (t' := s1.toks) hk
      exact ⟨s1.heap.objs.size + 1, [s1.heap.objs.size + 1, s1.heap.objs.size], _, _, H1, rfl, I2, turn_enumT a (s1.heap.objs.size + 1) s1.heap.objs.size, ⟨⟨.none, he⟩, hit, Nat.succ_ne_self _⟩, fin, q⟩
/-- a list or a tuple is walked -/
def iSeq (K : PySem.W.Frag) (te : TE) : TI := fun σ H R => te σ H fun x H1 => ∃ a xs, x = .ref a ∧ ((SqL K H1 a xs ∧ R (Itl K a) H1) ∨ (SqT K H1 a xs ∧ R (Itt K a) H1))
theorem pi_seq {X : Cx} {tg l : Expr} {tl : TE} (hl : PE X l tl) : PI X tg l (iSeq X.K tl) := by
  refine ⟨fun pins s σ H R I h => ?_⟩
  refine thn (hl.run pins s σ H _ I h) fun v s1 ⟨x, H1, I1, r1, q1⟩ => ?_
  obtain ⟨a, xs, e, q⟩ := q1
  subst e
  cases r1
  have fin : ∀ b, b ∈ [s1.heap.objs.size] → FpOk X pins H1 b := fun b hb => by
    have e : b = s1.heap.objs.size := by simpa using hb
    subst e
    exact I1.fpOk (Nat.le_refl _) (I1.hok.fresh (Nat.le_refl _))
  rcases q with ⟨hq, q⟩ | ⟨hq, q⟩
  · obtain ⟨its, rv, p, hz⟩ := I1.list hq
    refine wpAny_pyIter_list p.isList ?_
    exact ⟨s1.heap.objs.size, [s1.heap.objs.size], _, _, H1, rfl, I1.kept (t' := s1.toks) fun b o e => Heap.get?_push_of_some _ e, turn_list a _, ⟨_, Heap.get?_push_size _ rfl, rfl, rfl⟩, fin, q⟩
  · obtain ⟨its, rv, p, hz⟩ := I1.tuple hq
    refine wpAny_pyIter_tuple (show s1.heap.IsTuple a its.toArray from p) ?_
    exact ⟨s1.heap.objs.size, [s1.heap.objs.size], _, _, H1, rfl, I1.kept (t' := s1.toks) fun b o e => Heap.get?_push_of_some _ e, turn_tuple a _, ⟨_, Heap.get?_push_size _ rfl, rfl, rfl⟩, fin, q⟩
theorem walk_enumT {K : PySem.W.Frag} {a : Addr} {xs : List V} : Walk (IteT K a) xs.length (fun H => SqT K H a xs) (YPair (fun i => some (.int (i : Nat))) (fun i => xs[i]?)) :=
  ⟨fun i H hi g => ⟨xs, xs[i], g, List.getElem?_eq_getElem hi⟩, fun H g => ⟨xs, g, rfl⟩, fun i H x H' hi g y => by
    obtain ⟨T, z, e1, e2, e3, e4⟩ := y
    exact ⟨T, _, z, e1, e2, e3, rfl, e4 xs g⟩⟩
end Dl

set_option Elab.async false
set_option linter.all false
set_option maxRecDepth 100000
set_option maxHeartbeats 8000000
/-! the data layer, part 40: list(enumerate(a tuple)) -/
namespace Dl
open PySem PySem.Spec PyProof.Rows L2
section
variable {prog : Program} {w : World} {A : Around} {E : Value → Shared → Prop} {s : Shared}
/-- an enumerate object with its two fields for the tuple it gave out -/
abbrev EnA (h : Heap) (e it : Addr) (i : Int) (old f0 f1 : Value) : Prop :=
  h.get? e = some { cls := .type "enumerate", dict := none, data := .fields #[f0, f1, .ref it, rawInt i, .none, old], slots := #[] }
theorem wpAny_loadIfAlive {a : Addr} {Q : Option Obj → Shared → Prop} (h : Q (s.heap.get? a) s) : wpAny (model prog w) A (loadIfAlive a) Q E s := fun _ _ _ => h
/-- its next item while the tuple that it gave out is still there -/
theorem enum_next_out {e it : Addr} {fp : List Addr} {n i : Nat} {P : Nat → Value → Prop} {St : Nat → Heap → Prop} {old : Value} {a : Addr} {fl : Bool} {Q : Value → Shared → Prop}
    (D : Draws prog w A it fp n P St) (he : EnA s.heap e it i old (rawInt a) (.bool fl)) (hae : a ≠ e) (hai : a ≠ it) (ha : ∃ oa, s.heap.get? a = some oa) (hst : St i s.heap) (hlt : i < n) (hne : e ≠ it) (hef : e ∉ fp)
    (hQ : ∀ x h' tk, P i x → EnA h' e it ((i : Int) + 1) old (rawInt a) (.bool true) → St (i + 1) h' →
      h'.get? s.heap.objs.size = some { cls := .type "tuple", data := .seq #[.int i tk, x] } → h'.objs.size = s.heap.objs.size + 1 →
      (∀ b o, b ≠ e → b ≠ it → s.heap.get? b = some o → h'.get? b = some o) → Q (.ref s.heap.objs.size) { s with heap := h', toks := tk + 1 }) :
    wpAny (model prog w) A (Builtin.«enumerate.__next__» ⟨[.ref e], []⟩) (fun fin s' => ∃ v, fin = .done (.ret v) ∧ Q v s') E s := by
  obtain ⟨hp, g, d, tk₀, os⟩ := s
  obtain ⟨oa, ha⟩ := ha
  show wpAny _ _ (field (.ref e) 2 >>= _) _ _ _
  refine wpAny_bind (wpAny_field he rfl (x := .ref it) rfl ?_)
  refine wpAny_bind (D.item i _ _ _ hlt hst fun x h₁ tk hPx hit₁ hs₁ => ?_)
  replace hs₁ : Heap.SameBut it hp h₁ := hs₁
  have he₁ : EnA h₁ e it i old (rawInt a) (.bool fl) := (hs₁.2 e hne).trans he
  show wpAny _ _ (field (.ref e) 3 >>= _) _ _ ⟨h₁, g, d, tk, os⟩
  refine wpAny_bind (wpAny_field he₁ rfl (x := rawInt i) rfl ?_)
  show wpAny _ _ (field (.ref e) 4 >>= _) _ _ ⟨h₁, g, d, tk, os⟩
  refine wpAny_bind (wpAny_field he₁ rfl (x := .none) rfl ?_)
  show wpAny _ _ (mkInt i >>= _) _ _ ⟨h₁, g, d, tk, os⟩
  refine wpAny_bind (wpAny_mkInt ?_)
  show wpAny _ _ (setField (.ref e) 3 (rawInt ((i : Int) + 1)) >>= _) _ _ ⟨h₁, g, d, tk + 1, os⟩
  refine wpAny_bind (wpAny_setField_rec he₁ (by simp) fun h₂ he₂ hs₂ => ?_)
  replace hs₂ : Heap.SameBut e h₁ h₂ := hs₂
  replace he₂ : EnA h₂ e it ((i : Int) + 1) old (rawInt a) (.bool fl) := he₂
  show wpAny _ _ (setField (.ref e) 4 .none >>= _) _ _ ⟨h₂, g, d, tk + 1, os⟩
  refine wpAny_bind (wpAny_setField_rec he₂ (by simp) fun h₃ he₃ hs₃ => ?_)
  replace hs₃ : Heap.SameBut e h₂ h₃ := hs₃
  replace he₃ : EnA h₃ e it ((i : Int) + 1) old (rawInt a) (.bool fl) := he₃
  show wpAny _ _ (newTuple [.int i tk, x] >>= _) _ _ ⟨h₃, g, d, tk + 1, os⟩
  refine wpAny_bind (wpAny_newTuple ?_)
  have he₄ : EnA (h₃.push { cls := .type "tuple", data := .seq #[.int i tk, x] }) e it ((i : Int) + 1) old (rawInt a) (.bool fl) := Heap.get?_push_of_some _ he₃
  generalize hh₄ : h₃.push { cls := .type "tuple", data := .seq #[.int i tk, x] } = h₄ at he₄
  have hsz : h₃.objs.size = hp.objs.size := by rw [hs₃.1, hs₂.1, hs₁.1]
  have hel : e < hp.objs.size := Heap.lt_size he
  have ht₄ : h₄.get? hp.objs.size = some { cls := .type "tuple", data := .seq #[.int i tk, x] } := by rw [← hh₄, ← hsz]; exact Heap.get?_push_size _ rfl
  have hz₄ : h₄.objs.size = hp.objs.size + 1 := by rw [← hh₄, Heap.size_push, hsz]
  have hk₄ : ∀ b o, b ≠ e → b ≠ it → hp.get? b = some o → h₄.get? b = some o := fun b o hbe hbi hb => by
    rw [← hh₄]; exact Heap.get?_push_of_some _ (hs₃.extBut b o hbe (hs₂.extBut b o hbe (hs₁.extBut b o hbi hb)))
  have hit₄ : St (i + 1) h₄ := D.frame _ _ _ hit₁ fun b hb o y => by
    have hbe : b ≠ e := fun q => hef (q ▸ hb)
    rw [← hh₄]; exact Heap.get?_push_of_some _ (hs₃.extBut b o hbe (hs₂.extBut b o hbe y))
  show wpAny _ _ (Builtin.SmallTypes.ownedTupleIsFree (.ref e) >>= _) _ _ ⟨h₄, g, d, tk + 1, os⟩
  rw [hsz]
  clear hh₄ he₃ hs₃ he₂ hs₂ he₁ hs₁ hit₁ hsz h₃ h₂ h₁
  have ha₄ : h₄.get? a = some oa := hk₄ a oa hae hai ha
  refine wpAny_bind ?_
  unfold Builtin.SmallTypes.ownedTupleIsFree
  refine wpAny_bind (wpAny_field he₄ rfl (x := rawInt a) rfl ?_)
  refine wpAny_bind (wpAny_loadIfAlive ?_)
  rw [show ((a : Int).toNat : Nat) = a from Int.toNat_natCast a]
  show wpAny _ _ (if ((Shared.mk h₄ g d (tk + 1) os).heap.get? a).isNone = true then _ else _) _ _ _
  rw [show (Shared.mk h₄ g d (tk + 1) os).heap.get? a = some oa from ha₄]
  simp only [Option.isNone_some, Bool.false_eq_true, if_false]
  refine wpAny_bind (wpAny_field he₄ rfl (x := .bool fl) rfl ?_)
  cases fl with
  | true =>
    refine wpAny_pure ?_
    exact wpAny_pure ⟨_, rfl, hQ x h₄ tk hPx he₄ hit₄ ht₄ hz₄ hk₄⟩
  | false =>
    show wpAny _ _ (setField (.ref e) 1 (.bool true) >>= _) _ _ _
    refine wpAny_bind (wpAny_setField_rec he₄ (by simp) fun h₅ he₅ hs₅ => ?_)
    replace hs₅ : Heap.SameBut e h₄ h₅ := hs₅
    replace he₅ : EnA h₅ e it ((i : Int) + 1) old (rawInt a) (.bool true) := he₅
    refine wpAny_pure ?_
    refine wpAny_pure ⟨_, rfl, hQ x h₅ tk hPx he₅ ?_ ?_ ?_ ?_⟩
    · exact D.frame _ _ _ hit₄ fun b hb o y => hs₅.extBut b o (fun q => hef (q ▸ hb)) y
    · exact hs₅.extBut _ _ (Nat.ne_of_gt hel) ht₄
    · rw [hs₅.1, hz₄]
    · exact fun b o hbe hbi hb => hs₅.extBut b o hbe (hk₄ b o hbe hbi hb)
theorem pyNext_enum_out {e it : Addr} {fp : List Addr} {n i : Nat} {P : Nat → Value → Prop} {St : Nat → Heap → Prop} {old : Value} {a : Addr} {fl : Bool} {Q : Option Value → Shared → Prop}
    (D : Draws prog w A.in1 it fp n P St) (he : EnA s.heap e it i old (rawInt a) (.bool fl)) (hae : a ≠ e) (hai : a ≠ it) (ha : ∃ oa, s.heap.get? a = some oa) (hst : St i s.heap) (hlt : i < n) (hne : e ≠ it) (hef : e ∉ fp)
    (hQ : ∀ x h' tk, P i x → EnA h' e it ((i : Int) + 1) old (rawInt a) (.bool true) → St (i + 1) h' →
      h'.get? s.heap.objs.size = some { cls := .type "tuple", data := .seq #[.int i tk, x] } → h'.objs.size = s.heap.objs.size + 1 →
      (∀ b o, b ≠ e → b ≠ it → s.heap.get? b = some o → h'.get? b = some o) → Q (some (.ref s.heap.objs.size)) { s with heap := h', toks := tk + 1 }) :
    wpAny (model prog w) A (pyNext (.ref e)) Q E s := by
  have hT : s.TypeIs (.ref e) "enumerate" := ⟨_, he, rfl⟩
  unfold pyNext
  exact wpAny_bind (wpAny_attempt (wpAny_callSpecial?_slot (name := Str.ofString "__next__") hT F.slot_enumerate_next
    (wpAny_call_entry F.slot_enumerate_next hT F.entry_enumerate_next
      (enum_next_out D he hae hai ha hst hlt hne hef fun x h' tk a b c d k q => wpAny_pure (hQ x h' tk a b c d k q)) (F.args_enumerate_next_1 _))))
theorem pyNext_enum_end {e it : Addr} {fp : List Addr} {n : Nat} {P : Nat → Value → Prop} {St : Nat → Heap → Prop} {i : Int} {old f0 f1 : Value} {Q : Option Value → Shared → Prop}
    (D : Draws prog w A.in1 it fp n P St) (he : EnA s.heap e it i old f0 f1) (hst : St n s.heap)
    (hQ : ∀ h', Heap.ExtBut it s.heap h' → Q none { s with heap := h' }) : wpAny (model prog w) A (pyNext (.ref e)) Q E s := by
  have hT : s.TypeIs (.ref e) "enumerate" := ⟨_, he, rfl⟩
  unfold pyNext
  refine wpAny_bind (wpAny_attempt (wpAny_callSpecial?_slot (name := Str.ofString "__next__") hT F.slot_enumerate_next
    (wpAny_call_entry F.slot_enumerate_next hT F.entry_enumerate_next ?_ (F.args_enumerate_next_1 _))))
  show wpAny _ _ (field (.ref e) 2 >>= _) _ _ _
  refine wpAny_bind (wpAny_field he rfl (x := .ref it) rfl ?_)
  refine wpAny_bind (D.done _ _ _ hst fun h' x he' hx' => ?_)
  obtain ⟨o, ho, hc⟩ := hx'
  refine wpAny_bind (wpAny_isInstance (T := "StopIteration") (b := true) ⟨o, ho, hc⟩ isSubtype_stop ?_)
  exact wpAny_pure (hQ _ he')
/-- what is made so far: each thing a pair of its number and what was drawn, at an address of its own -/
def Made (h : Heap) (lo : Nat) (P : Nat → Value → Prop) (acc : Array Value) : Prop :=
  ∀ j, j < acc.size → ∃ T t x, acc[j]? = some (.ref T) ∧ lo ≤ T ∧ P j x ∧ h.get? T = some { cls := .type "tuple", data := .seq #[.int (j : Nat) t, x] }
/-- where an enumerate object stands: nothing given, or the first tuple out -/
def EnSt (h : Heap) (e it : Addr) (i : Nat) (acc : Array Value) : Prop :=
  (i = 0 ∧ ∃ old, IsEnum h e it (i : Nat) old) ∨ ∃ (a : Addr) (old : Value) (fl : Bool), 0 < i ∧ acc[0]? = some (.ref a) ∧ EnA h e it (i : Nat) old (rawInt a) (.bool fl)
theorem code_extend_enum {R : Result → Shared → Prop} {e it : Addr} {fp : List Addr} {n : Nat} {P : Nat → Value → Prop} {St : Nat → Heap → Prop} (D : Draws prog w A.in1.in1 it fp n P St) (hn : n ≤ sizeLine) (S : Addr) (lo : Nat) (res : Value)
    (hSe : S ≠ e) (hSi : S ≠ it) (hSf : S ∉ fp) (hne : e ≠ it) (hef : e ∉ fp) (hlo : e < lo) (hli : it < lo) :
    ∀ (k i : Nat) (s : Shared) (acc : Array Value) (c : Nat), n - i = k → i ≤ n → lo ≤ s.heap.objs.size → S < lo → acc.size = i → EnSt s.heap e it i acc → St i s.heap → Made s.heap lo P acc →
      s.heap.get? S = some { cls := .type "list", dict := none, data := .seq acc c, slots := #[] } →
      (∀ h' tk acc' c', (∀ b o, b < lo → b ≠ S → b ≠ e → b ≠ it → s.heap.get? b = some o → h'.get? b = some o) → acc'.size = n → Made h' lo P acc' →
        h'.get? S = some { cls := .type "list", dict := none, data := .seq acc' c', slots := #[] } → R (.ok (.ret res)) { s with heap := h', toks := tk }) →
      codeAny (model prog w) A (.builtin "list.extend.loop" ⟨[.ref S, .ref e, res], []⟩) R s := by
  intro k
  induction k with
  | zero =>
    intro i s acc c hk hi hlo' hSl hacc hen hst hm hS hR
    have hin : i = n := by omega
    subst hin
    refine codeAny_builtin F.entry_extend_loop ?_
    rw [Around.under_plainId F.plain_extend_loop _]
    show wpAny _ A.in1 (pyNext (.ref e) >>= _) _ _ s
    have fin : ∀ h', Heap.ExtBut it s.heap h' → R (.ok (.ret res)) { s with heap := h' } := fun h' hx => hR h' s.toks acc c (fun b o _ _ _ hb q => hx b o hb q) hacc (fun j hj => by
        obtain ⟨T, t, x, a1, a2, a3, a4⟩ := hm j hj
        exact ⟨T, t, x, a1, a2, a3, hx T _ (Nat.ne_of_gt (Nat.lt_of_lt_of_le hli a2)) a4⟩) (hx S _ hSi hS)
    refine wpAny_bind ?_
    rcases hen with ⟨_, old, he⟩ | ⟨a, old, fl, _, _, he⟩
    · exact pyNext_enum_end D he hst fun h' hx => wpAny_pure (fin h' hx)
    · exact pyNext_enum_end D he hst fun h' hx => wpAny_pure (fin h' hx)
  | succ k ih =>
    intro i s acc c hk hi hlo' hSl hacc hen hst hm hS hR
    have hlt : i < n := by omega
    refine codeAny_builtin F.entry_extend_loop ?_
    rw [Around.under_plainId F.plain_extend_loop _]
    show wpAny _ A.in1 (pyNext (.ref e) >>= _) _ _ s
    have step : ∀ x h' tk f0 f1 old, P i x → EnA h' e it ((i : Int) + 1) old f0 f1 → (∃ (a : Addr) (fl : Bool), f0 = rawInt a ∧ f1 = .bool fl ∧ (acc.push (.ref s.heap.objs.size))[0]? = some (.ref a)) → St (i + 1) h' →
        h'.get? s.heap.objs.size = some { cls := .type "tuple", data := .seq #[.int i tk, x] } → h'.objs.size = s.heap.objs.size + 1 →
        (∀ b o, b ≠ e → b ≠ it → s.heap.get? b = some o → h'.get? b = some o) →
        wpAny (model prog w) A.in1 (updateSeq S (·.push (.ref s.heap.objs.size)) >>= fun _ => again (.builtin "list.extend.loop" ⟨[.ref S, .ref e, res], []⟩)) (fun fin s' => match fin with | .done f => R (.ok f) s' | .again c' => c'.quiet = true ∧ codeAny (model prog w) A c' R s') (fun e s' => R (.error e) s') { s with heap := h', toks := tk + 1 } := by
      intro x h' tk f0 f1 old hP he ⟨a, fl, e0, e1, ea⟩ hst' hT hsz hk'
      subst e0 e1
      have hS' : h'.get? S = some { cls := .type "list", dict := none, data := .seq acc c, slots := #[] } := hk' S _ hSe hSi hS
      have hTS : s.heap.objs.size ≠ S := Nat.ne_of_gt (Nat.lt_of_lt_of_le hSl hlo')
      refine wpAny_bind ?_
      refine wpAny_updateSeq hS' rfl (wpAny_pure ⟨plainId_quiet F.plain_extend_loop _, ih (i + 1) _ (acc.push (.ref s.heap.objs.size)) _ (by omega) hlt ?_ hSl (by rw [Array.size_push, hacc]) ?_ ?_ ?_ (Heap.get?_update_self _ hS' rfl) ?_⟩) (by rw [hacc]; omega) (by show (acc.push _).size ≤ sizeLine + 1; rw [Array.size_push, hacc]; omega)
      · show lo ≤ (h'.update S _).objs.size
        rw [Heap.size_update, hsz]
        exact Nat.le_trans hlo' (Nat.le_succ _)
      · refine .inr ⟨a, old, fl, Nat.succ_pos _, ea, ?_⟩
        have : ((i + 1 : Nat) : Int) = (i : Int) + 1 := by omega
        rw [this]
        exact (Heap.get?_update_other _ _ hSe).trans he
      · exact D.frame _ _ _ hst' fun b hb o y => (Heap.get?_update_other _ _ (fun q : S = b => hSf (q ▸ hb))).trans y
      · intro j hj
        rw [Array.size_push] at hj
        by_cases hji : j < acc.size
        · obtain ⟨T, t, x', a1, a2, a3, a4⟩ := hm j hji
          have aT : h'.get? T = some { cls := .type "tuple", data := .seq #[.int (j : Nat) t, x'] } := hk' T _ (Nat.ne_of_gt (Nat.lt_of_lt_of_le hlo a2)) (Nat.ne_of_gt (Nat.lt_of_lt_of_le hli a2)) a4
          refine ⟨T, t, x', ?_, a2, a3, (Heap.get?_update_other _ _ (Nat.ne_of_lt (Nat.lt_of_lt_of_le hSl a2))).trans aT⟩
          rw [Array.getElem?_push_lt hji, ← Array.getElem?_eq_getElem hji]
          exact a1
        · have ej : j = i := by omega
          subst ej
          refine ⟨s.heap.objs.size, tk, x, ?_, hlo', hP, (Heap.get?_update_other _ _ (Ne.symm hTS)).trans hT⟩
          rw [← hacc]
          exact Array.getElem?_push_size
      · intro h'' tk' acc' c' f1 f2 f3 f4
        refine hR h'' tk' acc' c' (fun b o hb h1 h2 h3 q => f1 b o hb h1 h2 h3 ((Heap.get?_update_other _ _ (Ne.symm h1)).trans (hk' b o h2 h3 q))) f2 f3 f4
    refine wpAny_bind ?_
    rcases hen with ⟨i0, old, he⟩ | ⟨a, old, fl, i0, ea, he⟩
    · refine wpAny_pyNext_enum_itemD D he hst hlt hne hef fun x h' tk hP ho hs' hT hsz hk => ?_
      have e0 : acc.size = 0 := by omega
      exact step x h' tk _ _ _ hP ho ⟨s.heap.objs.size, false, rfl, rfl, by rw [← e0]; exact Array.getElem?_push_size⟩ hs' hT hsz hk
    · have h0 : 0 < acc.size := by omega
      obtain ⟨T, t, x', a1, a2, a3, a4⟩ := hm 0 h0
      rw [ea] at a1
      have e1 : a = T := by
        have := Option.some.inj a1
        injection this
      subst e1
      refine pyNext_enum_out D he (Nat.ne_of_gt (Nat.lt_of_lt_of_le hlo a2)) (Nat.ne_of_gt (Nat.lt_of_lt_of_le hli a2)) ⟨_, a4⟩ hst hlt hne hef fun x h' tk hP ho hs' hT hsz hk => ?_
      refine step x h' tk _ _ _ hP ho ⟨a, true, rfl, rfl, ?_⟩ hs' hT hsz hk
      rw [Array.getElem?_push_lt h0, ← Array.getElem?_eq_getElem h0]
      exact ea
theorem enum_no_len : typeLookup (.type "enumerate") "__len__" = pure none := by rw [typeLookup_type, builtinLookup_eq_fast]; kernel_rfl
theorem enum_no_hint : typeLookup (.type "enumerate") "__length_hint__" = pure none := by rw [typeLookup_type, builtinLookup_eq_fast]; kernel_rfl
theorem extend_enum {R : Result → Shared → Prop} {e it : Addr} {fp : List Addr} {n : Nat} {P : Nat → Value → Prop} {St : Nat → Heap → Prop} (D : Draws prog w A.in1.in1 it fp n P St) (hn : n ≤ sizeLine) (S : Addr) (res : Value) (c₀ : Nat)
    (hSe : S ≠ e) (hSi : S ≠ it) (hSf : S ∉ fp) (hne : e ≠ it) (hef : e ∉ fp) (he : IsEnum s.heap e it 0 .none) (hst : St 0 s.heap) (hil : it < s.heap.objs.size)
    (hS : s.heap.get? S = some { cls := .type "list", data := .seq #[] c₀ })
    (hR : ∀ h' tk acc' c', (∀ b o, b < s.heap.objs.size → b ≠ S → b ≠ e → b ≠ it → s.heap.get? b = some o → h'.get? b = some o) → acc'.size = n → Made h' s.heap.objs.size P acc' →
        h'.get? S = some { cls := .type "list", dict := none, data := .seq acc' c', slots := #[] } → R (.ok (.ret res)) { s with heap := h', toks := tk }) :
    wpAny (model prog w) A.in1 (Builtin.List.listExtendWith (.ref S) (.ref e) res)
      (fun fin s' => match fin with | .done f => R (.ok f) s' | .again c' => c'.quiet = true ∧ codeAny (model prog w) A c' R s') (fun e s' => R (.error e) s') s := by
  have hT : s.TypeIs (.ref e) "enumerate" := ⟨_, he, rfl⟩
  unfold Builtin.List.listExtendWith
  refine wpAny_bind (wpAny_typeOf hT ?_)
  have h1 : Builtin.List.listSameRef (.ref S) (.ref e) = false := by simp [Builtin.List.listSameRef, hSe]
  have h2 : (Value.type "enumerate" == Value.type "list") = false := by decide
  have h3 : (Value.type "enumerate" == Value.type "tuple") = false := by decide
  simp only [h1, h2, h3, Bool.or_false, Bool.false_eq_true, if_false]
  refine wpAny_bind (wpAny_pyIter_enum he ?_)
  refine wpAny_bind (wpAny_holding ?_)
  unfold Builtin.List.listLengthHint
  refine wpAny_bind (wpAny_specialOf hT enum_no_len ?_)
  show wpAny _ A.in1 (specialOf (Value.ref e) (Str.ofString "__length_hint__") >>= _) _ _ _
  refine wpAny_bind (wpAny_specialOf hT enum_no_hint ?_)
  refine wpAny_pure ?_
  show wpAny _ A.in1 (rule "list.extend.makes-room" >>= fun _ => Builtin.List.listTouch (.ref S) >>= fun _ =>
    again (.builtin "list.extend.loop" ⟨[.ref S, .ref e, res], []⟩)) _ _ _
  refine wpAny_bind (wpAny_rule ?_)
  refine wpAny_bind ?_
  show wpAny _ A.in1 (updateSeq S (·.push .none) >>= fun _ => updateSeq S (·.pop)) _ _ _
  refine wpAny_bind (wpAny_updateSeq hS rfl ?_)
  have hS₂ := Heap.get?_update_self (Obj.mapSeq (·.push Value.none)) hS rfl
  refine wpAny_updateSeq (hz := by seq_fits) hS₂ rfl ?_
  have hS₃ := Heap.get?_update_self (Obj.mapSeq (·.pop)) hS₂ rfl
  have oth : ∀ b o, b ≠ S → s.heap.get? b = some o → ((s.heap.update S (Obj.mapSeq (·.push Value.none))).update S (Obj.mapSeq (·.pop))).get? b = some o :=
    fun b o hb e => (Heap.get?_update_other _ _ (Ne.symm hb)).trans ((Heap.get?_update_other _ _ (Ne.symm hb)).trans e)
  refine wpAny_pure ⟨plainId_quiet F.plain_extend_loop _, code_extend_enum D hn S s.heap.objs.size res hSe hSi hSf hne hef (Heap.lt_size he) hil n 0 _ #[] _ rfl (Nat.zero_le _) ?_ (Heap.lt_size hS) rfl (.inl ⟨rfl, _, oth _ _ (Ne.symm hSe) he⟩)
    (D.frame _ _ _ hst fun b hb o y => oth b o (fun q => hSf (q ▸ hb)) y) (fun j hj => absurd hj (Nat.not_lt_zero _)) hS₃ fun h' tk acc' c' f1 f2 f3 f4 => ?_⟩
  · show s.heap.objs.size ≤ ((s.heap.update S _).update S _).objs.size
    rw [Heap.size_update, Heap.size_update]
    exact Nat.le_refl _
  · exact hR h' tk acc' c' (fun b o hb h1 h2 h3 q => f1 b o hb h1 h2 h3 (oth b o h1 q)) f2 f3 f4
theorem list_init_enum {R : Result → Shared → Prop} {e it : Addr} {fp : List Addr} {n : Nat} {P : Nat → Value → Prop} {St : Nat → Heap → Prop} (D : Draws prog w A.in1.in1 it fp n P St) (hn : n ≤ sizeLine) (S : Addr)
    (hSe : S ≠ e) (hSi : S ≠ it) (hSf : S ∉ fp) (hne : e ≠ it) (hef : e ∉ fp) (he : IsEnum s.heap e it 0 .none) (hst : St 0 s.heap) (hil : it < s.heap.objs.size)
    (hS : s.heap.get? S = some { cls := .type "list", data := .seq #[] })
    (hR : ∀ h' tk acc' c', (∀ b o, b < s.heap.objs.size → b ≠ S → b ≠ e → b ≠ it → s.heap.get? b = some o → h'.get? b = some o) → acc'.size = n → Made h' s.heap.objs.size P acc' →
        h'.get? S = some { cls := .type "list", dict := none, data := .seq acc' c', slots := #[] } → R (.ok (.ret .none)) { s with heap := h', toks := tk }) :
    wpAny (model prog w) A.in1 (Builtin.«list.__init__» ⟨[.ref S, .ref e], []⟩)
      (fun fin s' => match fin with | .done f => R (.ok f) s' | .again c' => c'.quiet = true ∧ codeAny (model prog w) A c' R s') (fun e s' => R (.error e) s') s := by
  show wpAny _ A.in1 (do let old ← Builtin.List.listItems (.ref S); Builtin.List.listUpdate (.ref S) (fun _ => #[]); letGo old.toList.reverse; Builtin.List.listExtendWith (.ref S) (.ref e) .none) _ _ s
  refine wpAny_bind ?_
  unfold Builtin.List.listItems
  refine wpAny_bind (wpAny_seqItems hS rfl (wpAny_pure ?_))
  show wpAny _ A.in1 (updateSeq S (fun _ => #[]) >>= fun _ => letGo (#[] : Array Value).toList.reverse >>= fun _ => Builtin.List.listExtendWith (.ref S) (.ref e) .none) _ _ s
  refine wpAny_bind (wpAny_updateSeq hS rfl ?_)
  have hS₂ := Heap.get?_update_self (Obj.mapSeq (fun _ => (#[] : Array Value))) hS rfl
  have oth : ∀ b o, b ≠ S → s.heap.get? b = some o → (s.heap.update S (Obj.mapSeq (fun _ => (#[] : Array Value)))).get? b = some o :=
    fun b o hb e => (Heap.get?_update_other _ _ (Ne.symm hb)).trans e
  refine wpAny_bind (wpAny_letGo ?_)
  have hz : (s.heap.update S (Obj.mapSeq (fun _ => (#[] : Array Value)))).objs.size = s.heap.objs.size := Heap.size_update ..
  refine extend_enum (s := { s with heap := s.heap.update S (Obj.mapSeq (fun _ => (#[] : Array Value))) }) D hn S .none _ hSe hSi hSf hne hef (oth _ _ (Ne.symm hSe) he) (D.frame _ _ _ hst fun b hb o y => oth b o (fun q => hSf (q ▸ hb)) y) (by rw [hz]; exact hil) hS₂ fun h' tk acc' c' f1 f2 f3 f4 => ?_
  refine hR h' tk acc' c' (fun b o hb h1 h2 h3 q => f1 b o (by rw [hz]; exact hb) h1 h2 h3 (oth b o h1 q)) f2 (by rw [hz] at f3; exact f3) f4
/-- list(an enumerate object that has given nothing) -/
theorem call_list_enum {Q : Value → Shared → Prop} {e it : Addr} {fp : List Addr} {n : Nat} {P : Nat → Value → Prop} {St : Nat → Heap → Prop} (D : Draws prog w A.in1.in1.in1 it fp n P St) (hn : n ≤ sizeLine)
    (hfp : ∀ b ∈ fp, b < s.heap.objs.size) (hne : e ≠ it) (hef : e ∉ fp) (he : IsEnum s.heap e it 0 .none) (hst : St 0 s.heap) (hil : it < s.heap.objs.size)
    (hQ : ∀ h' tk acc' c', (∀ b o, b < s.heap.objs.size → b ≠ e → b ≠ it → s.heap.get? b = some o → h'.get? b = some o) → acc'.size = n → Made h' (s.heap.objs.size + 1) P acc' →
        h'.get? s.heap.objs.size = some { cls := .type "list", dict := none, data := .seq acc' c', slots := #[] } → Q (.ref s.heap.objs.size) { s with heap := h', toks := tk }) :
    wpAny (model prog w) A (call (.type "list") [.ref e]) Q E s := by
  have hel : e < s.heap.objs.size := Heap.lt_size he
  refine callType_codes (Q₁ := fun obj s₁ => obj = .ref s.heap.objs.size ∧ s₁ = { s with heap := s.heap.push { cls := .type "list", data := .seq #[] } }) F.called_list (F.typeCall_list_1 _) F.entry_list_init
    (code_list_new _ ⟨rfl, rfl⟩) fun obj s₁ h₁ => ?_
  obtain ⟨rfl, rfl⟩ := h₁
  have hS : (s.heap.push { cls := .type "list", data := .seq #[] }).get? s.heap.objs.size = some { cls := .type "list", data := .seq #[] } := Heap.get?_push_size _ rfl
  have hz : (s.heap.push { cls := .type "list", data := .seq #[] }).objs.size = s.heap.objs.size + 1 := Heap.size_push ..
  refine ⟨⟨_, hS, rfl⟩, F.args_list_init_2 _ _, list_init_enum (A := A.in1) (s := { s with heap := s.heap.push { cls := .type "list", data := .seq #[] } }) D hn s.heap.objs.size (Nat.ne_of_gt hel) (Nat.ne_of_gt hil) (fun q => Nat.lt_irrefl _ (hfp _ q)) hne hef
    (Heap.get?_push_of_some _ he) (D.frame _ _ _ hst fun b hb o y => Heap.get?_push_of_some _ y) (by rw [hz]; exact Nat.lt_succ_of_lt hil) hS fun h' tk acc' c' f1 f2 f3 f4 => ?_⟩
  refine ⟨rfl, hQ h' tk acc' c' (fun b o hb h1 h2 q => f1 b o (by rw [hz]; exact Nat.lt_succ_of_lt hb) (Nat.ne_of_lt hb) h1 h2 (Heap.get?_push_of_some _ q)) f2 (by rw [hz] at f3; exact f3) f4⟩
end
/-! ### what is tracked behind it -/
def tupsH (H : Hp) (i : Nat) : List (Addr × V) → Hp
  | [] => H
  | p :: r => tupsH (upd H p.1 (.tup [.int (i : Nat), p.2])) (i + 1) r
theorem tupsH_ne {b : Addr} : ∀ {ps : List (Addr × V)} {H : Hp} {i : Nat}, b ∉ ps.map (·.1) → tupsH H i ps b = H b
  | [], _, _, _ => rfl
  | p :: r, H, i, h => by
    rw [List.map_cons, List.mem_cons, not_or] at h
    exact (tupsH_ne h.2).trans (upd_ne h.1)
theorem tupsH_at : ∀ {ps : List (Addr × V)} {H : Hp} {i : Nat}, (ps.map (·.1)).Nodup → ∀ j p, ps[j]? = some p → tupsH H i ps p.1 = some (.tup [.int ((i + j : Nat) : Int), p.2])
  | [], _, _, _, _, _, h => by simp at h
  | q :: r, H, i, nd, 0, p, h => by
    rw [List.getElem?_cons_zero] at h
    cases h
    rw [List.map_cons, List.nodup_cons] at nd
    exact (tupsH_ne nd.1).trans upd_same
  | q :: r, H, i, nd, j + 1, p, h => by
    rw [List.getElem?_cons_succ] at h
    rw [List.map_cons, List.nodup_cons] at nd
    have := tupsH_at (H := upd H q.1 (.tup [.int (i : Nat), q.2])) (i := i + 1) nd.2 j p h
    rw [show i + (j + 1) = i + 1 + j by omega]
    exact this
def enumH (H : Hp) (l : Addr) (ps : List (Addr × V)) : Hp := upd (tupsH H 0 ps) l (.lst (ps.map fun p => .ref p.1))
theorem enumH_old {H : Hp} {l : Addr} {ps : List (Addr × V)} {b : Addr} (h1 : b ≠ l) (h2 : b ∉ ps.map (·.1)) : enumH H l ps b = H b := (upd_ne h1).trans (tupsH_ne h2)
theorem Inv.laidT {X : Cx} {pins : List (Addr × Obj)} {σ : L2.St} {H : Hp} {s : Shared} {h' : Heap} {t' : Nat} {l : Addr} {ps : List (Addr × V)} (I : Inv X pins σ H s) (k : ∀ b u, s.heap.get? b = some u → h'.get? b = some u)
    (nd : (ps.map (·.1)).Nodup) (hs : ∀ p ∈ ps, s.heap.objs.size ≤ p.1) (hl : s.heap.objs.size ≤ l) (hn : l ∉ ps.map (·.1)) (hz : ps.length ≤ sizeLine)
    (tp : ∀ j p, ps[j]? = some p → ∃ t u, RelV p.2 u ∧ h'.get? p.1 = some { cls := .type "tuple", data := .seq #[.int (j : Nat) t, u] })
    (ls : ∃ its n, Vals (ps.map fun p => V.ref p.1) its ∧ h'.get? l = some { cls := .type "list", data := .seq its.toArray n }) :
    Inv X pins σ (enumH H l ps) { s with heap := h', toks := t' } := by
  have old : ∀ b, b < s.heap.objs.size → enumH H l ps b = H b := fun b hb => enumH_old (Nat.ne_of_lt (Nat.lt_of_lt_of_le hb hl)) fun z => by
    obtain ⟨p, hp, e⟩ := List.mem_map.mp z
    have := hs p hp
    rw [e] at this
    exact absurd hb (Nat.not_lt.mpr this)
  have oldS : ∀ b o, H b = some o → enumH H l ps b = some o := fun b o q => (old b (I.hok.lt q)).trans q
  refine I.un (t' := t') ⟨fun b u q _ _ _ => k b u q, fun b u q _ _ _ => ⟨u.slots, k b u q⟩, fun b u q n _ => (old b (Heap.lt_size q)).trans n, fun b u q _ => ⟨u, k b u q⟩, fun b xs q => oldS b _ q, fun b u o q => oldS b _ q, fun b ps' q => ⟨#[], by rw [oldS b _ q]; simp⟩⟩ ?_
  intro b o q
  by_cases hbl : b = l
  · subst hbl
    rw [show enumH H b ps b = _ from upd_same] at q
    cases q
    obtain ⟨its, n, v, e⟩ := ls
    exact ⟨by rw [List.length_map]; exact hz, its, n, v, e⟩
  · by_cases hbt : b ∈ ps.map (·.1)
    · obtain ⟨p, hp, e⟩ := List.mem_map.mp hbt
      subst e
      obtain ⟨j, hj⟩ := List.mem_iff_getElem?.mp hp
      rw [show enumH H l ps p.1 = tupsH H 0 ps p.1 from upd_ne hbl, tupsH_at nd j p hj] at q
      cases q
      obtain ⟨t, u, ru, e⟩ := tp j p hj
      rw [Nat.zero_add]
      exact ⟨by show 2 ≤ sizeLine; decide, [.int ((j : Nat) : Int) t, u], .cons ⟨_, rfl⟩ (.cons ru .nil), ⟨_, e, rfl, _, rfl⟩⟩
    · rw [enumH_old hbl hbt] at q
      exact (I.hok b o q).stay (fun c v _ q => k c v q) (fun c q => oldS c _ q) fun c xs q => oldS c _ q
def tLE (K : PySem.W.Frag) (te : TE) : TE := fun σ H Q => te σ H fun v H1 => ∃ a xs, v = .ref a ∧ SqT K H1 a xs ∧ ∀ l ps, ps.map (·.2) = xs → xs.length ≤ sizeLine → (ps.map (·.1)).Nodup → (∀ p ∈ ps, H1 p.1 = none) → l ∉ ps.map (·.1) → H1 l = none → Q (.ref l) (enumH H1 l ps)
theorem pe_listEnum {X : Cx} {x : Expr} {te : TE} {p p2 pos pos2 : Pos} (hc : X.calm = true) (hg1 : Gl X "list") (hm1 : X.mg "list" = none) (hg2 : Gl X "enumerate") (hm2 : X.mg "enumerate" = none) (ha : PE X x te) (hs : starEach [x] X.env = [(false, eval x X.env)]) :
    PE X (.Call (.Name "list" p) [.Call (.Name "enumerate" p2) [x] [] pos2] [] pos) (tLE X.K te) := by
  refine ⟨fun pins s σ H Q I h => ?_⟩
  refine Call_ (ld_blt I hg1 hm1 PyProof.Rows.boot_list (PyProof.Rows.callWith_type1 ?_ rfl rfl))
  refine Calls.spliced_cons ?_
  refine Call_ (ld_blt I hg2 hm2 boot_enumerate (PyProof.Rows.callWith_type1 ?_ hs rfl))
  rw [hs]
  refine Calls.spliced_cons (thn (ha.run pins s σ H _ I h) fun u s1 ⟨v, H1, I1, r1, q1⟩ => Calls.spliced_nil ?_)
  obtain ⟨a, xs, e, hq, q⟩ := q1
  subst e
  cases r1
  obtain ⟨its, rv, p', hz⟩ := I1.tuple hq
  have hl := rv.length
  refine call_enumerate_tuple (show s1.heap.IsTuple a its.toArray from p') fun h' he hit hsz hk => Calls.spliced_nil ?_
  have hT : h'.IsTuple a its.toArray := (show s1.heap.IsTuple a its.toArray from p').at fun o y => hk _ _ y
  have hai : a ≠ s1.heap.objs.size := tupIter_ne hT hit
  have hae : s1.heap.objs.size + 1 ≠ a := by
    rintro rfl
    obtain ⟨o, q, c, _⟩ := hT
    rw [he] at q
    cases q
    exact absurd (show Value.type "enumerate" = Value.type "tuple" from c) (by decide)
  have D := Draws.tuple (prog := X.prog) (w := X.w) (A := X.A.in1.in1.in1) (by have := I1.ok.hd hc; exact this) s1.heap.objs.size a hai its.toArray
  have hn : its.toArray.size = its.length := List.size_toArray ..
  have hat : s1.heap.objs.size + 1 < h'.objs.size := by rw [hsz]; exact Nat.lt_succ_self _
  have hax : a < h'.objs.size := by obtain ⟨o, e, _⟩ := hT; exact Heap.lt_size e
  refine call_list_enum (s := { s1 with heap := h' }) D (by rw [hn, ← hl]; exact hz) (fun b hb => ?_) (Nat.succ_ne_self _) (by simp [hae]) he ⟨hit, hT⟩ (Nat.lt_of_succ_lt hat) fun h'' tk acc c f1 f2 f3 f4 => ?_
  · have e' : b = s1.heap.objs.size ∨ b = a := by simpa using hb
    rcases e' with z | z
    · rw [z]; exact Nat.lt_of_succ_lt hat
    · rw [z]; exact hax
  have kall : ∀ b o, s1.heap.get? b = some o → h''.get? b = some o := fun b o y => by
    have hb := Heap.lt_size y
    exact f1 b o (Nat.lt_trans hb (Nat.lt_of_succ_lt hat)) (Nat.ne_of_lt (Nat.lt_succ_of_lt hb)) (Nat.ne_of_lt hb) (hk b o y)
  have hna : acc.size = its.length := by rw [f2, hn]
  let f : Value → Addr := fun v => match v with | .ref T => T | _ => 0
  have hf : ∀ j, j < its.length → ∃ T t u, (acc.toList.map f)[j]? = some T ∧ acc.toList[j]? = some (.ref T) ∧ h'.objs.size + 1 ≤ T ∧ its[j]? = some u ∧ h''.get? T = some { cls := .type "tuple", data := .seq #[.int (j : Nat) t, u] } := fun j hj => by
    obtain ⟨T, t, u, b1, b2, b3, b4⟩ := f3 j (by rw [hna]; exact hj)
    have b1' : acc.toList[j]? = some (.ref T) := by rw [Array.getElem?_toList]; exact b1
    refine ⟨T, t, u, ?_, b1', b2, ?_, b4⟩
    · rw [List.getElem?_map, b1']; rfl
    · simpa using b3
  have lf : (acc.toList.map f).length = its.length := by rw [List.length_map, Array.length_toList, hna]
  have mf : ((acc.toList.map f).zip xs).map (·.1) = acc.toList.map f := List.map_fst_zip (by omega)
  have ms : ((acc.toList.map f).zip xs).map (·.2) = xs := List.map_snd_zip (by omega)
  have nd : (acc.toList.map f).Nodup := by
    refine List.pairwise_iff_getElem.mpr fun i j hi hj hij e => ?_
    obtain ⟨T, t, u, c1, _, _, _, c4⟩ := hf i (by omega)
    obtain ⟨T2, t2, u2, d1, _, _, _, d4⟩ := hf j (by omega)
    rw [List.getElem?_eq_getElem hi] at c1
    rw [List.getElem?_eq_getElem hj] at d1
    have e1 := Option.some.inj c1
    have e2 := Option.some.inj d1
    rw [← e1, e, e2, d4] at c4
    injection c4 with c4
    injection c4 with _ _ c4 _
    injection c4 with c4 _
    have := congrArg (fun a : Array Value => a[0]?) c4
    simp at this
    omega
  have mem : ∀ T ∈ acc.toList.map f, h'.objs.size + 1 ≤ T := fun T hT => by
    obtain ⟨j, hj⟩ := List.mem_iff_getElem?.mp hT
    have hlt := (List.getElem?_eq_some_iff.mp hj).1
    obtain ⟨T2, t, u, c1, _, c2, _⟩ := hf j (by omega)
    rw [hj] at c1
    cases c1
    exact c2
  have hln : h'.objs.size ∉ acc.toList.map f := fun z => Nat.not_succ_le_self _ (mem _ z)
  have h1s : s1.heap.objs.size ≤ h'.objs.size := by rw [hsz]; exact Nat.le_add_right _ _
  have fr : ∀ p ∈ (acc.toList.map f).zip xs, s1.heap.objs.size ≤ p.1 := fun p hp => by
    have := mem p.1 (by rw [← mf]; exact List.mem_map_of_mem hp)
    exact Nat.le_trans h1s (Nat.le_of_succ_le this)
  refine ⟨.ref h'.objs.size, enumH H1 h'.objs.size ((acc.toList.map f).zip xs), Inv.laidT (s := s1) (h' := h'') (t' := tk) I1 kall (by rw [mf]; exact nd) fr h1s (by rw [mf]; exact hln) (by rw [List.length_zip, lf, hl]; omega) ?_ ?_, rfl, q _ _ ms hz (by rw [mf]; exact nd) (fun p hp => I1.hok.fresh (fr p hp)) (by rw [mf]; exact hln) (I1.hok.fresh h1s)⟩
  · intro j p hj
    have hlt := (List.getElem?_eq_some_iff.mp hj).1
    rw [List.length_zip] at hlt
    obtain ⟨T, t, u, c1, _, _, c3, c4⟩ := hf j (by omega)
    rw [List.getElem?_zip_eq_some] at hj
    rw [c1] at hj
    have e1 := Option.some.inj hj.1
    obtain ⟨u', hu', ru⟩ := rv.get hj.2
    rw [c3] at hu'
    cases hu'
    exact ⟨t, u, ru, by rw [← e1]; exact c4⟩
  · refine ⟨acc.toList, c, ?_, f4⟩
    have e1 : ((acc.toList.map f).zip xs).map (fun p => V.ref p.1) = (acc.toList.map f).map V.ref := by
      conv => rhs; rw [← mf]
      rw [List.map_map]; rfl
    rw [e1]
    have key : ∀ us : List Value, (∀ v ∈ us, ∃ T, v = .ref T) → Vals ((us.map f).map V.ref) us := by
      intro us
      induction us with
      | nil => intro _; exact .nil
      | cons u r ih =>
        intro h
        obtain ⟨T, rfl⟩ := h u List.mem_cons_self
        exact .cons rfl (ih fun v hv => h v (List.mem_cons_of_mem _ hv))
    refine key _ fun v hv => ?_
    obtain ⟨j, hj⟩ := List.mem_iff_getElem?.mp hv
    have hlt := (List.getElem?_eq_some_iff.mp hj).1
    rw [Array.length_toList, hna] at hlt
    obtain ⟨T, t, u, _, c1, _⟩ := hf j hlt
    rw [hj] at c1
    exact ⟨T, Option.some.inj c1⟩
end Dl

set_option Elab.async false
set_option linter.all false
set_option maxRecDepth 100000
set_option maxHeartbeats 4000000
/-! the data layer, part 38: zip of a tuple and a list -/
namespace Dl
open PySem PySem.Spec PyProof.Rows L2 RZ
abbrev zM1 (h : Heap) (l1 : Addr) : Heap := h.push { cls := .type "tuple_iterator", data := .fields #[.ref l1, .int 0 0] }
abbrev zM2 (h : Heap) (l1 l2 : Addr) : Heap := (zM1 h l1).push { cls := .type "list_iterator", data := .fields #[.ref l2, .int 0 0] }
abbrev zM3 (h : Heap) (l1 l2 : Addr) : Heap := (zM2 h l1 l2).push { cls := .type "tuple", data := .seq #[.ref h.objs.size, .ref (zM1 h l1).objs.size] }
abbrev zM4 (h : Heap) (l1 l2 : Addr) : Heap := (zM3 h l1 l2).push { cls := .type "tuple", data := .seq #[.none, .none] }
abbrev zM5 (h : Heap) (l1 l2 : Addr) : Heap := (zM4 h l1 l2).push { cls := .type "zip", data := .fields #[.none, .bool false, .bool false, .ref (zM2 h l1 l2).objs.size, .ref (zM3 h l1 l2).objs.size] }
theorem meets_zipM_new (l1 l2 : Addr) (xs ys : Array Value) :
    Meets (Builtin.«zip.__new__» ⟨[.type "zip", .ref l1, .ref l2], []⟩) (fun _ R s => s.heap.IsTuple l1 xs ∧ s.heap.IsList l2 ys ∧
      R (.ok (.ret (.ref (zM4 s.heap l1 l2).objs.size))) { s with heap := zM5 s.heap l1 l2 }) :=
  .of_wp fun prog w A R s h => by
    obtain ⟨hp, g, d, tk, os⟩ := s; obtain ⟨hl1, hl2, h⟩ := h
    have hsub := sub_zip
    have hL1 : Heap.IsTuple (Shared.heap ⟨hp, g, d, tk, os⟩) l1 xs := hl1
    have hL2 : Heap.IsList (Shared.heap ⟨hp.push { cls := .type "tuple_iterator", data := .fields #[.ref l1, .int 0 0] }, g, d, tk, os⟩) l2 ys := Heap.IsList.push hl2 _
    wp_walk using wpAny_pyIter_tuple hL1, wpAny_pyIter_list hL2
    exact ⟨_, rfl, h⟩
section
variable {prog : Program} {w : World} {A : Around} {E : Value → Shared → Prop} {s : Shared}
theorem call_zipM {l1 l2 : Addr} {xs ys : Array Value} {Q : Value → Shared → Prop} (hl1 : s.heap.IsTuple l1 xs) (hl2 : s.heap.IsList l2 ys)
    (h : ∀ h', IsZip h' (s.heap.objs.size + 4) (s.heap.objs.size + 2) (s.heap.objs.size + 3) .none → IsPair h' (s.heap.objs.size + 2) (.ref s.heap.objs.size) (.ref (s.heap.objs.size + 1)) →
      IsPair h' (s.heap.objs.size + 3) .none .none → h'.IsTupleIter s.heap.objs.size l1 0 → h'.IsListIter (s.heap.objs.size + 1) l2 0 → h'.objs.size = s.heap.objs.size + 5 →
      (∀ c o, s.heap.get? c = some o → h'.get? c = some o) → Q (.ref (s.heap.objs.size + 4)) { s with heap := h' }) :
    wpAny (model prog w) A (call (.type "zip") [.ref l1, .ref l2]) Q E s := by
  refine callType_new F.called_zip (by decide) (F.typeCall_zip_2 _ _) (F.newCall_zip_2 _ _) (fun obj => F.args_object_init_3 obj _ _) F.entry_zip_new
    (meets_zipM_new l1 l2 xs ys) ⟨hl1, hl2, ?_⟩
  have z1 : (zM1 s.heap l1).objs.size = s.heap.objs.size + 1 := Heap.size_push ..
  have z2 : (zM2 s.heap l1 l2).objs.size = s.heap.objs.size + 2 := by rw [Heap.size_push, z1]
  have z3 : (zM3 s.heap l1 l2).objs.size = s.heap.objs.size + 3 := by rw [Heap.size_push, z2]
  have z4 : (zM4 s.heap l1 l2).objs.size = s.heap.objs.size + 4 := by rw [Heap.size_push, z3]
  have z5 : (zM5 s.heap l1 l2).objs.size = s.heap.objs.size + 5 := by rw [Heap.size_push, z4]
  have g5 : (zM5 s.heap l1 l2).get? (zM4 s.heap l1 l2).objs.size = some _ := Heap.get?_push_size _ rfl
  have g4 : (zM5 s.heap l1 l2).get? (zM3 s.heap l1 l2).objs.size = some _ := Heap.get?_push_of_some _ (Heap.get?_push_size _ rfl)
  have g3 : (zM5 s.heap l1 l2).get? (zM2 s.heap l1 l2).objs.size = some _ := Heap.get?_push_of_some _ (Heap.get?_push_of_some _ (Heap.get?_push_size _ rfl))
  have g2 : (zM5 s.heap l1 l2).get? (zM1 s.heap l1).objs.size = some _ := Heap.get?_push_of_some _ (Heap.get?_push_of_some _ (Heap.get?_push_of_some _ (Heap.get?_push_size _ rfl)))
  have g1 : (zM5 s.heap l1 l2).get? s.heap.objs.size = some _ := Heap.get?_push_of_some _ (Heap.get?_push_of_some _ (Heap.get?_push_of_some _ (Heap.get?_push_of_some _ (Heap.get?_push_size _ rfl))))
  show _ ∧ _
  rw [z2, z3, z4] at g5
  rw [z1, z2] at g3
  rw [z3] at g4
  rw [z1] at g2
  rw [z4]
  exact ⟨⟨_, g5, rfl⟩, h _ g5 g3 g4 ⟨_, g1, rfl, rfl⟩ ⟨_, g2, rfl, rfl⟩ z5 fun c o x =>
    Heap.get?_push_of_some _ (Heap.get?_push_of_some _ (Heap.get?_push_of_some _ (Heap.get?_push_of_some _ (Heap.get?_push_of_some _ x))))⟩
end
/-- the tuple at a and the list at b, the items in new pairs -/
def ItzM (K : PySem.W.Frag) (a b : Addr) : It :=
  ⟨fun i H => ∃ (xs ys : List V) (x y : V), SqT K H a xs ∧ SqL K H b ys ∧ xs[i]? = some x ∧ ys[i]? = some y,
    fun i H v H' => ∃ T x y, v = .ref T ∧ H T = none ∧ H' = upd H T (.tup [x, y]) ∧ (∀ xs, SqT K H a xs → xs[i]? = some x) ∧ ∀ ys, SqL K H b ys → ys[i]? = some y,
    fun i H => ∃ xs ys : List V, SqT K H a xs ∧ SqL K H b ys ∧ i = min xs.length ys.length⟩
theorem sepM {z TI TO i1 i2 a b : Addr} (D : ZipApart z TI TO i1 i2 a b) : ZipSep2 z TI TO i1 i2 [i1, a] [i2, b] where
  TIz := D.TIz
  TOz := D.TOz
  TITO := D.TITO
  TIi1 := D.TIi1
  mem1 := by simp
  zf1 := by simp; exact ⟨fun e => D.i1z e.symm, fun e => D.l1z e.symm⟩
  Tf1 := by simp; exact ⟨D.TOi1, fun e => D.l1TO e.symm⟩
  TIi2 := D.TIi2
  mem2 := by simp
  zf2 := by simp; exact ⟨fun e => D.i2z e.symm, fun e => D.l2z e.symm⟩
  Tf2 := by simp; exact ⟨D.TOi2, fun e => D.l2TO e.symm⟩
  sep1_2 := by simp; exact ⟨D.i12, fun e => D.l2i1 e.symm⟩
  sep2_1 := by simp; exact ⟨fun e => D.i12 e.symm, fun e => D.l1i2 e.symm⟩
theorem turn_zipM {P : Program} {w : World} {K : PySem.W.Frag} {elts : List Expr} {kk : Nat} {tpos : Pos} {a b z TI TO i1 i2 : Addr} (D : ZipApart z TI TO i1 i2 a b) :
    Turn P w K (.Tuple elts kk tpos) (ItzM K a b) [z, TI, TO, i1, i2] z (fun i h => IsZip h z TI TO .none ∧ IsPair h TI (.ref i1) (.ref i2) ∧ (∃ x y, IsPair h TO x y) ∧ h.IsTupleIter i1 a i ∧ h.IsListIter i2 b i) where
  mem := by simp
  obj := fun i h st c hc => by
    obtain ⟨hz, hTI, ⟨x, y, hTO⟩, ⟨o1, e1, _, d1⟩, ⟨o2, e2, _, d2⟩⟩ := st
    have e' : c = z ∨ c = TI ∨ c = TO ∨ c = i1 ∨ c = i2 := by simpa using hc
    rcases e' with q | q | q | q | q
    · rw [q]; exact ⟨_, hz, fun v q => nomatch q⟩
    · rw [q]; exact ⟨_, hTI, fun v q => nomatch q⟩
    · rw [q]; exact ⟨_, hTO, fun v q => nomatch q⟩
    · rw [q]; exact ⟨o1, e1, fun v q => by rw [d1] at q; cases q⟩
    · rw [q]; exact ⟨o2, e2, fun v q => by rw [d2] at q; cases q⟩
  keep := fun i h h' st k => by
    obtain ⟨hz, hTI, ⟨x, y, hTO⟩, h1, h2⟩ := st
    exact ⟨k z (by simp) _ hz, k TI (by simp) _ hTI, ⟨x, y, k TO (by simp) _ hTO⟩, h1.at fun o q => k i1 (by simp) o q, h2.at fun o q => k i2 (by simp) o q⟩
  item := by
    intro X hP hw hK hc i pins s σ H E I hf st hg
    subst hP hw hK
    obtain ⟨hz, hTI, ⟨x0, y0, hTO⟩, h1, h2⟩ := st
    obtain ⟨xs, ys, x, y, hqx, hqy, hx, hy⟩ := hg
    obtain ⟨its, rv, p, _⟩ := I.tuple hqx
    obtain ⟨its2, rv2, p2, _⟩ := I.list hqy
    obtain ⟨u, hu, ru⟩ := rv.get hx
    obtain ⟨u2, hu2, ru2⟩ := rv2.get hy
    have hzl : z < s.heap.objs.size := Heap.lt_size hz
    have hd := I.ok.hd hc
    have l1 : i < its.toArray.size := by
      have := (List.getElem?_eq_some_iff.mp hu).1
      simpa using this
    have l2 : i < its2.toArray.size := by
      have := (List.getElem?_eq_some_iff.mp hu2).1
      simpa using this
    refine wpAny_pyNext_zipD2_item (sepM D) (Draws.tuple (A := X.A.in1) hd i1 a D.l1i1 its.toArray) (Draws.list (A := X.A.in1) hd i2 b D.l2i2 its2.toArray) hz hTI hTO ⟨h1, p⟩ ⟨h2, p2.isList⟩ l1 l2 fun x1 x2 h' tk e1 e2 z' TO' h1' h2' hT hsz hk => ?_
    have e1' : x1 = u := by
      have e1 : its.toArray[i]? = some x1 := e1
      rw [List.getElem?_toArray, hu] at e1
      exact (Option.some.inj e1).symm
    have e2' : x2 = u2 := by
      have e2 : its2.toArray[i]? = some x2 := e2
      rw [List.getElem?_toArray, hu2] at e2
      exact (Option.some.inj e2).symm
    subst e1' e2'
    refine ⟨_, rfl, wpAny_letOwnedTupleGo_zip (s := { s with heap := h', toks := tk }) z' fun h'' z'' sb => ?_⟩
    have hT2 : h''.get? s.heap.objs.size = some { cls := .type "tuple", data := .seq #[x1, x2] } := (sb.2 _ (Nat.ne_of_gt hzl)).trans hT
    have new : ObjOk X.prog X.w (upd H s.heap.objs.size (.tup [x, y])) h'' s.heap.objs.size (.tup [x, y]) :=
      ⟨by show 2 ≤ sizeLine; decide, [x1, x2], .cons ru (.cons ru2 .nil), ⟨_, hT2, rfl, _, rfl⟩⟩
    have I1 : Inv X pins σ (upd H s.heap.objs.size (.tup [x, y])) { s with heap := h'', toks := tk } :=
      I.turnedNew (t' := tk) (ch := [z, TI, TO, i1, i2]) (fun c o hb q => (sb.2 c (fun q' => hb (by simp [q']))).trans (hk c o (fun q' => hb (by simp [q'])) (fun q' => hb (by simp [q'])) (fun q' => hb (by simp [q'])) (fun q' => hb (by simp [q'])) q)) hf (Nat.le_refl _) new
    refine ⟨.ref s.heap.objs.size, _, I1, rfl, ⟨_, x, y, rfl, I.hok.fresh (Nat.le_refl _), rfl, fun l hl => by rw [I.tuple_inj hl hqx]; exact hx, fun l hl => by rw [I.list_inj hl hqy]; exact hy⟩, ⟨z'', ?_, ⟨x1, x2, ?_⟩, ?_, ?_⟩, fun c hcm => ?_⟩
    · exact (sb.2 _ D.TIz).trans (hk _ _ D.TIz D.TITO D.TIi1 D.TIi2 hTI)
    · exact (sb.2 _ D.TOz).trans TO'
    · exact h1'.1.at fun o q => (sb.2 _ D.i1z).trans q
    · exact h2'.1.at fun o q => (sb.2 _ D.i2z).trans q
    · have hlt : c < s.heap.objs.size := by
        have e' : c = z ∨ c = TI ∨ c = TO ∨ c = i1 ∨ c = i2 := by simpa using hcm
        rcases e' with q | q | q | q | q
        · rw [q]; exact hzl
        · rw [q]; exact Heap.lt_size hTI
        · rw [q]; exact Heap.lt_size hTO
        · rw [q]; obtain ⟨_, e1, _⟩ := h1; exact Heap.lt_size e1
        · rw [q]; obtain ⟨_, e2, _⟩ := h2; exact Heap.lt_size e2
      rw [upd_ne (Nat.ne_of_lt hlt)]
      exact (hf c hcm).1
  done := by
    intro X hP hw hK hc i pins s σ H E I hf st hg
    subst hP hw hK
    obtain ⟨hz, hTI, ⟨x0, y0, hTO⟩, h1, h2⟩ := st
    obtain ⟨xs, ys, hqx, hqy, hend⟩ := hg
    obtain ⟨its, rv, p, _⟩ := I.tuple hqx
    obtain ⟨its2, rv2, p2, _⟩ := I.list hqy
    have l1 := rv.length
    have l2 := rv2.length
    have hd := I.ok.hd hc
    have n1 : its.toArray.size = xs.length := by rw [List.size_toArray]; exact l1.symm
    have n2 : its2.toArray.size = ys.length := by rw [List.size_toArray]; exact l2.symm
    refine wpAny_pyNext_zipD2_end (sepM D) (Draws.tuple (A := X.A.in1) hd i1 a D.l1i1 its.toArray) (Draws.list (A := X.A.in1) hd i2 b D.l2i2 its2.toArray) hz hTI hTO ⟨h1, p⟩ ⟨h2, p2.isList⟩ (by rw [n1]; omega) (by rw [n2]; omega) (by rw [n1, n2]; omega) fun h' tk hk => ?_
    exact ⟨rfl, I.turnedL (t' := tk) (ch := [z, TI, TO, i1, i2]) (fun c o hb q =>
      hk c o (fun q' => hb (by simp [q'])) (fun q' => hb (by simp [q'])) (fun q' => hb (by simp [q'])) (fun q' => hb (by simp [q'])) q) hf⟩
  self := fun A i s Q E st h => wpAny_pyIter_zip st.1 h
def iZipM (K : PySem.W.Frag) (ta : TA) : TI := fun σ H R => ta σ H fun vs H1 => ∃ a b xs ys, vs = [.ref a, .ref b] ∧
  ((SqL K H1 a xs ∧ SqL K H1 b ys ∧ R (Itz K a b) H1) ∨ (SqT K H1 a xs ∧ SqT K H1 b ys ∧ R (ItzT K a b) H1) ∨ (SqT K H1 a xs ∧ SqL K H1 b ys ∧ R (ItzM K a b) H1))
theorem pi_zipM {X : Cx} {e e2 : Expr} {ta : TA} {p pos tpos : Pos} {elts : List Expr} {kk : Nat} (hg : Gl X "zip") (hm : X.mg "zip" = none) (ha : PA X [e, e2] ta)
    (hs : starEach [e, e2] X.env = (false, eval e X.env) :: starEach [e2] X.env := by rfl) (hpl : (backTo pos (starEach [e2] X.env)).any (·.1) = false := by rfl) :
    PI X (.Tuple elts kk tpos) (.Call (.Name "zip" p) [e, e2] [] pos) (iZipM X.K ta) := by
  refine ⟨fun pins s σ H R I h => ?_⟩
  refine Call_ (ld_blt I hg hm PyProof.Rows.boot_zip (PyProof.Rows.callWith_type1 (thn (ha.run pos pins s σ H _ I h) fun us s1 ⟨vs, H1, I1, r1, q1⟩ => ?_) hs hpl))
  obtain ⟨a, b, xs, ys, ex, q1⟩ := q1
  subst ex
  cases r1 with
  | cons r rr =>
    cases rr with
    | cons r' rr =>
      cases rr
      cases r
      cases r'
      have fresh5 : ∀ c, c ∈ [s1.heap.objs.size + 4, s1.heap.objs.size + 2, s1.heap.objs.size + 3, s1.heap.objs.size, s1.heap.objs.size + 1] → FpOk X pins H1 c := fun c hcm => by
        have e' : c = s1.heap.objs.size + 4 ∨ c = s1.heap.objs.size + 2 ∨ c = s1.heap.objs.size + 3 ∨ c = s1.heap.objs.size ∨ c = s1.heap.objs.size + 1 := by simpa using hcm
        have hle : s1.heap.objs.size ≤ c := by
          rcases e' with z | z | z | z | z <;> rw [z]
          · exact Nat.le_add_right _ _
          · exact Nat.le_add_right _ _
          · exact Nat.le_add_right _ _
          · exact Nat.le_refl _
          · exact Nat.le_add_right _ _
        exact I1.fpOk hle (I1.hok.fresh hle)
      rcases q1 with ⟨hqx, hqy, q⟩ | ⟨hqx, hqy, q⟩ | ⟨hqx, hqy, q⟩
      · obtain ⟨its, rv, p1, _⟩ := I1.list hqx
        obtain ⟨its2, rv2, p2, _⟩ := I1.list hqy
        refine call_zip_2 p1.isList p2.isList fun h' hz hTI hTO h1 h2 hsz hk => wpAny_pyIter_zip hz ?_
        have I2 : Inv X pins σ H1 { s1 with heap := h' } := I1.kept (t' := s1.toks) hk
        exact ⟨s1.heap.objs.size + 4, [s1.heap.objs.size + 4, s1.heap.objs.size + 2, s1.heap.objs.size + 3, s1.heap.objs.size, s1.heap.objs.size + 1], _, _, H1, rfl, I2, turn_zip (PySem.W.ktu_apart s1.heap.objs.size a b p1.lt p2.lt), ⟨hz, hTI, ⟨_, _, hTO⟩, h1, h2⟩, fresh5, q⟩
      · obtain ⟨its, rv, p1, _⟩ := I1.tuple hqx
        obtain ⟨its2, rv2, p2, _⟩ := I1.tuple hqy
        obtain ⟨o1, ho1, _⟩ := id p1
        obtain ⟨o2, ho2, _⟩ := id p2
        refine call_zipT (show s1.heap.IsTuple a its.toArray from p1) (show s1.heap.IsTuple b its2.toArray from p2) fun h' hz hTI hTO h1 h2 hsz hk => wpAny_pyIter_zip hz ?_
        have I2 : Inv X pins σ H1 { s1 with heap := h' } := I1.kept (t' := s1.toks) hk
        exact ⟨s1.heap.objs.size + 4, [s1.heap.objs.size + 4, s1.heap.objs.size + 2, s1.heap.objs.size + 3, s1.heap.objs.size, s1.heap.objs.size + 1], _, _, H1, rfl, I2, turn_zipT (PySem.W.ktu_apart s1.heap.objs.size a b (Heap.lt_size ho1) (Heap.lt_size ho2)), ⟨hz, hTI, ⟨_, _, hTO⟩, h1, h2⟩, fresh5, q⟩
      · obtain ⟨its, rv, p1, _⟩ := I1.tuple hqx
        obtain ⟨its2, rv2, p2, _⟩ := I1.list hqy
        obtain ⟨o1, ho1, _⟩ := id p1
        refine call_zipM (show s1.heap.IsTuple a its.toArray from p1) p2.isList fun h' hz hTI hTO h1 h2 hsz hk => wpAny_pyIter_zip hz ?_
        have I2 : Inv X pins σ H1 { s1 with heap := h' } := I1.kept (t' := s1.toks) hk
        exact ⟨s1.heap.objs.size + 4, [s1.heap.objs.size + 4, s1.heap.objs.size + 2, s1.heap.objs.size + 3, s1.heap.objs.size, s1.heap.objs.size + 1], _, _, H1, rfl, I2, turn_zipM (PySem.W.ktu_apart s1.heap.objs.size a b (Heap.lt_size ho1) p2.lt), ⟨hz, hTI, ⟨_, _, hTO⟩, h1, h2⟩, fresh5, q⟩
end Dl

set_option Elab.async false
set_option linter.all false
set_option maxRecDepth 100000
set_option maxHeartbeats 8000000
/-! the data layer, part 11: walks over data -/
namespace Dl
open PySem PySem.Spec PyProof.Rows L2
section
variable {W : Wd} {Γ : Gam} {EX : XK} {X : Cx} {k : Nat} {N : List Str} {sc : Scope} {l : Bool}

theorem ItOk.list {F : Hp} {a : Addr} {vs : List V} {items : List D} (e : F a = some (.lst vs)) (d : Dats W.K F vs items) : ItOk W F (Itl W.K a) items := by
  refine ⟨fun H => SqL W.K H a vs, YAt vs, by rw [← d.length]; exact walk_list, fun F' H' s f => .inl (.inl (f.sub _ _ (s _ _ e))), fun i F1 H1 x H2 s f g hi y => ?_⟩
  obtain ⟨rfl, hy⟩ := y
  obtain ⟨d', h1, h2⟩ := d.getV hy
  exact ⟨F1, d', .refl f g, h1, h2.mono s⟩
theorem ItOk.tup {F : Hp} {a : Addr} {vs : List V} {items : List D} (e : TupAt W.K F a vs) (d : Dats W.K F vs items) : ItOk W F (Itt W.K a) items := by
  refine ⟨fun H => SqT W.K H a vs, YAt vs, by rw [← d.length]; exact walk_tup, fun F' H' s f => ((e.mono s).mono f.sub).seq, fun i F1 H1 x H2 s f g hi y => ?_⟩
  obtain ⟨rfl, hy⟩ := y
  obtain ⟨d', h1, h2⟩ := d.getV hy
  exact ⟨F1, d', .refl f g, h1, h2.mono s⟩
theorem rangeL_get {lo c : Int} {n i : Nat} (h : i < n) : (rangeL lo c n)[i]? = some (.int (lo + (i : Int) * c)) := by
  unfold rangeL
  rw [List.getElem?_map, List.getElem?_range h]
  rfl
theorem rangeL_len {lo c : Int} {n : Nat} : (rangeL lo c n).length = n := by simp [rangeL]
theorem ItOk.rng {F : Hp} {lo : Int} {n : Nat} : ItOk W F (Itr lo n) (rangeL lo 1 n) := by
  refine ⟨fun _ => True, YFn fun i => .int (lo + i), by rw [rangeL_len]; exact walk_range, fun _ _ _ _ => trivial, fun i F1 H1 x H2 s f g hi y => ?_⟩
  obtain ⟨rfl, rfl⟩ := y
  rw [rangeL_len] at hi
  refine ⟨F1, _, .refl f g, rangeL_get hi, ?_⟩
  rw [Int.mul_one]
  exact .int _
theorem ItOk.rngC {F : Hp} {lo c : Int} {n : Nat} : ItOk W F (Itc lo c n) (rangeL lo c n) := by
  refine ⟨fun _ => True, YFn fun i => .int (lo + (i : Nat) * c), by rw [rangeL_len]; exact walk_rangeC, fun _ _ _ _ => trivial, fun i F1 H1 x H2 s f g hi y => ?_⟩
  obtain ⟨rfl, rfl⟩ := y
  rw [rangeL_len] at hi
  exact ⟨F1, _, .refl f g, rangeL_get hi, .int _⟩
theorem ItOk.pair {F : Hp} {J : It} {n : Nat} {G : Hp → Prop} {f1 f2 : Nat → Option V} {items : List D} (w : Walk J n G (YPair f1 f2)) (hn : items.length = n) (hG : ∀ F' H', Same F F' → FOk W F' H' → G H')
    (hi : ∀ i x y, i < n → f1 i = some x → f2 i = some y → ∃ d e, Dat W.K F x d ∧ Dat W.K F y e ∧ items[i]? = some (.tuple [d, e])) : ItOk W F J items := by
  refine ⟨G, _, by rw [hn]; exact w, hG, fun i F1 H1 x H2 s f g hlt y => ?_⟩
  obtain ⟨T, u, v, rfl, nT, rfl, e1, e2⟩ := y
  obtain ⟨d, e, r1, r2, h⟩ := hi i u v (by omega) e1 e2
  refine ⟨_, _, Ext.tup f g nT, h, .tup (.inl upd_same) (.cons ?_ (.cons ?_ .nil)) (show 2 ≤ 16777216 by decide)⟩
  · exact (r1.mono s).mono (same_new (f.none nT))
  · exact (r2.mono s).mono (same_new (f.none nT))
theorem enumL_get {xs : List D} {i : Nat} {d : D} (h : xs[i]? = some d) : (enumL xs)[i]? = some (.tuple [.int (i : Int), d]) := by
  have hi : i < xs.length := (List.getElem?_eq_some_iff.mp h).1
  unfold enumL
  rw [List.getElem?_zipWith, List.getElem?_range hi, h]
theorem enumL_len {xs : List D} : (enumL xs).length = xs.length := by simp [enumL]
theorem zipL_get {xs ys : List D} {i : Nat} {d e : D} (h : xs[i]? = some d) (h' : ys[i]? = some e) : (zipL xs ys)[i]? = some (.tuple [d, e]) := by
  unfold zipL
  rw [List.getElem?_zipWith, h, h']
theorem zipL_len {xs ys : List D} : (zipL xs ys).length = min xs.length ys.length := by simp [zipL]
/-! ### the sources -/
theorem i_of (C : CtxOk W Γ k EX N sc l X) {e : E} {tg x : Expr} (h : PE X x (tE W Γ EX e)) : PI X tg x (tIt W Γ EX (.of e)) := by
  refine (pi_seq h).impD fun σ H R q => ?_
  obtain ⟨F, ρ, Qd, Xd, s, w, q, x⟩ := q
  refine ⟨F, ρ, _, Xd, s, w, fun d v F' H' e1 r1 ⟨xs, h1, h2⟩ => ?_, x⟩
  cases d with
  | list ys =>
    cases h1
    cases r1 with
    | lst e d z => exact ⟨_, _, rfl, .inl ⟨.inl (.inl (e1.ok.sub _ _ e)), by rw [C.hK]; exact q _ _ F' H' e1 (.list e d) z (h2 z)⟩⟩
  | tuple ys =>
    cases h1
    cases r1 with
    | tup e d z => exact ⟨_, _, rfl, .inr ⟨by rw [C.hK]; exact (e.mono e1.ok.sub).seq, by rw [C.hK]; exact q _ _ F' H' e1 (.tup e d) z (h2 z)⟩⟩
  | none => cases h1
  | bool _ => cases h1
  | int _ => cases h1
  | str _ => cases h1
  | dict _ => cases h1
theorem ItOk.str {F : Hp} {x : Str} (h : PyData.strOk x = true) : ItOk W F (Its x) (signsD x) := by
  have hl : (signsD x).length = x.cps.size := by unfold signsD; rw [List.length_map, Array.length_toList]
  refine ⟨fun _ => True, fun i H v H' => H' = H ∧ ∃ c, x.cps[i]? = some c ∧ v = .str ⟨#[c]⟩, { goes := fun i H h1 _ => (by rw [hl] at h1; exact h1), yields := fun i H v H' _ _ y => y, stops := fun H _ => (by rw [hl]; exact Nat.le_refl _) }, fun _ _ _ _ => trivial, fun i F1 H1 v H2 s f g hi y => ?_⟩
  obtain ⟨rfl, c, hc, rfl⟩ := y
  refine ⟨F1, .str ⟨#[c]⟩, .refl f g, ?_, .str _ ?_⟩
  · unfold signsD
    rw [List.getElem?_map, Array.getElem?_toList, hc]; rfl
  · rw [strOk_iff] at h ⊢
    intro c' hc'
    have : c' = c := by simpa using hc'
    subst this
    exact h _ (Array.mem_toList_iff.mpr (Array.mem_of_getElem? hc))
theorem i_txt (C : CtxOk W Γ k EX N sc l X) {e : E} {tg x : Expr} (h : PE X x (tE W Γ EX e)) : PI X tg x (tIt W Γ EX (.txt e)) := by
  refine (pi_str h).impD fun σ H R q => ?_
  obtain ⟨F, ρ, Qd, Xd, s, w, q, x⟩ := q
  refine ⟨F, ρ, _, Xd, s, w, fun d v F' H' e1 r1 w1 => ?_, x⟩
  cases d <;> try (cases w1; done)
  rename_i x
  cases r1 with
  | str _ hk =>
    obtain ⟨hl, h2⟩ := w1
    refine ⟨x, rfl, q _ _ F' H' e1 (.str hk) ?_ h2⟩
    unfold signsD
    rw [List.length_map, Array.length_toList]
    exact hl
theorem i_rng1 (C : CtxOk W Γ k EX N sc l X) {a : E} {tg x : Expr} {f : Str} {p pos : Pos} (hf : f = "range") (hg : chkGl sc f = true) (hs : isStar x = false) (h : PE X x (tR W Γ EX a)) : PI X tg (.Call (.Name f p) [x] [] pos) (tIt W Γ EX (.rng1 a)) := by
  obtain ⟨g1, g2, g3⟩ := gl_of C hg
  have hm : X.mg f = none := C.blt f (by rw [hf]; decide)
  subst hf
  refine (pi_range1 g1 hm (pa_cons h pa_nil (star_ok hs [] X.env)) (star_ok hs [] X.env)).impD fun σ H R q => ?_
  obtain ⟨F, ρ, Qd, Xd, s, w, q, x⟩ := q
  refine ⟨F, ρ, _, Xd, s, w, fun d v F' H' e1 r1 w1 => ?_, x⟩
  cases d with
  | int j =>
    cases r1.int
    obtain ⟨h1, h2, h3⟩ := w1
    exact ⟨j, rfl, by omega, by omega, q _ _ F' H' e1 .rng (by rw [rangeL_len]; omega) h3⟩
  | none => cases w1
  | bool _ => cases w1
  | str _ => cases w1
  | list _ => cases w1
  | tuple _ => cases w1
  | dict _ => cases w1
theorem i_rng2 (C : CtxOk W Γ k EX N sc l X) {a b : E} {tg x y : Expr} {f : Str} {p pos : Pos} (hf : f = "range") (hg : chkGl sc f = true) (hs : isStar x = false) (hs' : isStar y = false) (h : PE X x (tR W Γ EX a)) (h' : PE X y (tR W Γ EX b)) :
    PI X tg (.Call (.Name f p) [x, y] [] pos) (tIt W Γ EX (.rng2 a b)) := by
  obtain ⟨g1, g2, g3⟩ := gl_of C hg
  have hm : X.mg f = none := C.blt f (by rw [hf]; decide)
  subst hf
  have h1 := star_ok hs [y] X.env
  have h2 := star_ok hs' [] X.env
  refine (pi_range2 g1 hm (pa_cons h (pa_cons h' pa_nil h2) h1) (by rw [h1, h2]; rfl) h2).impD fun σ H R q => ?_
  obtain ⟨F, ρ, Qd, Xd, s, w, q, x⟩ := q
  refine two s w x fun d e v u F' H' e1 r1 r2 w1 => ?_
  cases d <;> try (cases w1; done)
  cases e <;> try (cases w1; done)
  rename_i i j
  cases r1.int
  cases r2.int
  obtain ⟨⟨b1, b2, b3, b4, b5⟩, h3⟩ := w1
  exact ⟨i, j, rfl, ⟨by omega, by omega, by omega, by omega⟩, q _ _ F' H' e1 .rng (by rw [rangeL_len]; omega) h3⟩
theorem rg_ints (i : Int) (n : Nat) : rangeL i 1 n = ((List.range n).map fun k : Nat => i + (k : Int)).map PyData.int := by
  unfold rangeL; rw [List.map_map]; simp [Function.comp_def]
theorem rgV_ints (i j : Int) : rgV i j = ((List.range (j - i).toNat).map fun k : Nat => i + (k : Int)).map V.int := by
  unfold rgV; rw [List.map_map]; rfl
theorem s_lrg (C : CtxOk W Γ k EX N sc l X) {tu : Bool} {a b : E} {x y : Expr} {g f : Str} {p pos p2 pos2 : Pos} (hn : g = seqN tu) (hgg : chkGl sc g = true) (hf : f = "range") (hg : chkGl sc f = true) (hs : isStar x = false) (hs' : isStar y = false) (h : PE X x (tR W Γ EX a)) (h' : PE X y (tR W Γ EX b)) :
    PE X (.Call (.Name g p2) [.Call (.Name f p) [x, y] [] pos] [] pos2) (tZ W Γ EX (.lrg tu a b)) := by
  obtain ⟨g1, g2, g3⟩ := gl_of C hg
  have hm : X.mg f = none := C.blt f (by rw [hf]; decide)
  obtain ⟨k1, k2, k3⟩ := gl_of C hgg
  have km : X.mg g = none := C.blt g (by rw [hn]; cases tu <;> decide)
  subst hf
  have h1 := star_ok hs [y] X.env
  have h2 := star_ok hs' [] X.env
  have hr := prg_2 (p := p) (pos := pos) g1 hm h h' h1 h2 (by rw [h2]; rfl)
  have ok : ∀ {i j : Int}, -(2 ^ 60) ≤ i → i ≤ 2 ^ 60 → -(2 ^ 60) ≤ j → j ≤ 2 ^ 60 → j - i ≤ 16777216 → RgOk i j := fun a b c d e => ⟨by omega, by omega, by omega, by omega, by omega⟩
  cases tu with
  | false =>
    subst hn
    refine (pe_listRg C.calm k1 km hr (star_ok rfl [] X.env)).impD fun σ H Q q => ?_
    obtain ⟨F, ρ, Qd, Xd, s, w, q, x⟩ := q
    refine two s w x fun d e v u F' H' e1 r1 r2 w1 => ?_
    cases d <;> try (cases w1; done)
    cases e <;> try (cases w1; done)
    rename_i i j
    cases r1.int
    cases r2.int
    obtain ⟨⟨b1, b2, b3, b4, b5⟩, h3⟩ := w1
    refine ⟨i, j, rfl, rfl, ok b1 b2 b3 b4 b5, fun r n => ?_⟩
    exact q _ F' H' e1 h3 r _ n (by rw [rg_ints, rgV_ints]; exact Dats.ofInts _) (by rw [rangeL_len]; omega)
  | true =>
    subst hn
    refine (pe_tupRg C.calm k1 km hr (star_ok rfl [] X.env)).impD fun σ H Q q => ?_
    obtain ⟨F, ρ, Qd, Xd, s, w, q, x⟩ := q
    refine two s w x fun d e v u F' H' e1 r1 r2 w1 => ?_
    cases d <;> try (cases w1; done)
    cases e <;> try (cases w1; done)
    rename_i i j
    cases r1.int
    cases r2.int
    obtain ⟨⟨b1, b2, b3, b4, b5⟩, h3⟩ := w1
    refine ⟨i, j, rfl, rfl, ok b1 b2 b3 b4 b5, fun r n => ?_⟩
    exact (show Res W F' H' (.tuple (rangeL i 1 (j - i).toNat)) Q from q _ F' H' e1 h3).tup e1.ok e1.gd n (by rw [rg_ints, rgV_ints]; exact Dats.ofInts _) (by rw [rangeL_len]; omega)
theorem s_lrg1 (C : CtxOk W Γ k EX N sc l X) {tu : Bool} {a : E} {x : Expr} {g f : Str} {p pos p2 pos2 : Pos} (hn : g = seqN tu) (hgg : chkGl sc g = true) (hf : f = "range") (hg : chkGl sc f = true) (hs : isStar x = false) (h : PE X x (tR W Γ EX a)) :
    PE X (.Call (.Name g p2) [.Call (.Name f p) [x] [] pos] [] pos2) (tZ W Γ EX (.lrg1 tu a)) := by
  obtain ⟨g1, g2, g3⟩ := gl_of C hg
  have hm : X.mg f = none := C.blt f (by rw [hf]; decide)
  obtain ⟨k1, k2, k3⟩ := gl_of C hgg
  have km : X.mg g = none := C.blt g (by rw [hn]; cases tu <;> decide)
  subst hf
  have h1 := star_ok hs [] X.env
  have hr := prg_1 (p := p) (pos := pos) g1 hm h h1
  have ok : ∀ {i j : Int}, -(2 ^ 60) ≤ i → i ≤ 2 ^ 60 → -(2 ^ 60) ≤ j → j ≤ 2 ^ 60 → j - i ≤ 16777216 → RgOk i j := fun a b c d e => ⟨by omega, by omega, by omega, by omega, by omega⟩
  cases tu with
  | false =>
    subst hn
    refine (pe_listRg C.calm k1 km hr (star_ok rfl [] X.env)).impD fun σ H Q q => ?_
    obtain ⟨F, ρ, Qd, Xd, s, w, q, x⟩ := q
    refine ⟨F, ρ, _, Xd, s, w, fun d v F' H' e1 r1 w1 => ?_, x⟩
    cases d <;> try (cases w1; done)
    rename_i j
    cases r1.int
    obtain ⟨⟨b1, b2⟩, h3⟩ := w1
    refine ⟨j, rfl, ok (by decide) (by decide) b2 (by omega) (by omega), fun r n => ?_⟩
    exact q _ F' H' e1 h3 r _ n (by rw [rg_ints, rgV_ints, Int.sub_zero]; exact Dats.ofInts _) (by rw [rangeL_len]; omega)
  | true =>
    subst hn
    refine (pe_tupRg C.calm k1 km hr (star_ok rfl [] X.env)).impD fun σ H Q q => ?_
    obtain ⟨F, ρ, Qd, Xd, s, w, q, x⟩ := q
    refine ⟨F, ρ, _, Xd, s, w, fun d v F' H' e1 r1 w1 => ?_, x⟩
    cases d <;> try (cases w1; done)
    rename_i j
    cases r1.int
    obtain ⟨⟨b1, b2⟩, h3⟩ := w1
    refine ⟨j, rfl, ok (by decide) (by decide) b2 (by omega) (by omega), fun r n => ?_⟩
    exact (show Res W F' H' (.tuple (rangeL 0 1 j.toNat)) Q from q _ F' H' e1 h3).tup e1.ok e1.gd n (by rw [rg_ints, rgV_ints, Int.sub_zero]; exact Dats.ofInts _) (by rw [rangeL_len]; omega)
theorem rg3_ints (i c : Int) (n : Nat) : rangeL i c n = ((List.range n).map fun k : Nat => i + (k : Int) * c).map PyData.int := by
  unfold rangeL; rw [List.map_map]; rfl
def rgV3 (i c : Int) (n : Nat) : List V := (List.range n).map fun k : Nat => V.int (i + (k : Int) * c)
theorem rgV3_ints (i c : Int) (n : Nat) : rgV3 i c n = ((List.range n).map fun k : Nat => i + (k : Int) * c).map V.int := by
  unfold rgV3; rw [List.map_map]; rfl
theorem vals_rg3 {i c : Int} {n : Nat} {acc : Array Value} (h : ItemsOf (fun k v => ∃ t, v = .int (i + k * c) t) acc n) : Vals (rgV3 i c n) acc.toList := by
  have e : acc.toList.length = n := by rw [Array.length_toList]; exact h.1
  unfold rgV3
  rw [← e]
  refine vals_of_get acc.toList _ fun j u hj => ?_
  obtain ⟨t, rfl⟩ := h.2 j u (by rw [← hj, Array.getElem?_toList])
  exact ⟨t, rfl⟩
def tLst3 (ta : TA) : TE := fun σ H Q => ta σ H fun vs H1 => ∃ (i j c : Int) (n : Nat), vs = [.int i, .int j, .int c] ∧ RgC i j c n ∧ n ≤ 16777216 ∧ ∀ q, H1 q = none → Q (.ref q) (upd H1 q (.lst (rgV3 i c n)))
theorem pe_listRg3 {X : Cx} {a b c : Expr} {ta : TA} {p pos p2 pos2 : Pos} (hc : X.calm = true) (hg : Gl X "range") (hm : X.mg "range" = none) (kg : Gl X "list") (km : X.mg "list" = none) (ha : PA X [a, b, c] ta)
    (hs : starEach [a, b, c] X.env = (false, eval a X.env) :: starEach [b, c] X.env) (hpl : (backTo pos (starEach [b, c] X.env)).any (·.1) = false)
    (na : starEach [Expr.Call (.Name "range" p) [a, b, c] [] pos] X.env = (false, eval (Expr.Call (.Name "range" p) [a, b, c] [] pos) X.env) :: starEach [] X.env) :
    PE X (.Call (.Name "list" p2) [.Call (.Name "range" p) [a, b, c] [] pos] [] pos2) (tLst3 ta) := by
  refine ⟨fun pins s σ H Q I h => ?_⟩
  have run : wpAny (model X.prog X.w) X.A (eval (Expr.Call (.Name "range" p) [a, b, c] [] pos) X.env) (fun x s' => ∃ r i j c n t u v H', x = .ref r ∧ IsRange s'.heap r i j c t u v ∧ RgC i j c n ∧ n ≤ 16777216 ∧ Inv X pins σ H' s' ∧ ∀ q, H' q = none → Q (.ref q) (upd H' q (.lst (rgV3 i c n)))) X.xe s := by
    refine Call_ (ld_blt I hg hm boot_range (PyProof.Rows.callWith_type1 (thn (ha.run pos pins s σ H _ I h) fun us s1 ⟨vs, H1, I1, r1, q1⟩ => ?_) hs hpl))
    obtain ⟨i, j, k, n, e, ⟨c0, c1, c2, c3⟩, hn, q⟩ := q1
    subst e
    cases r1 with
    | cons r rr =>
      cases rr with
      | cons r' rr =>
        cases rr with
        | cons r'' rr =>
          cases rr
          obtain ⟨t, rfl⟩ := r
          obtain ⟨t', rfl⟩ := r'
          obtain ⟨t'', rfl⟩ := r''
          exact call_range_3 c0 ⟨_, i, j, k, n, _, _, _, H1, rfl, IsRange.new _ _ _ _ _ _ _, ⟨c0, c1, c2, c3⟩, hn, I1.kept fun b u e => Heap.get?_push_of_some _ e, q⟩ (.inl (PyProof.noPylong_small c1))
  refine Call_ (ld_blt I kg km boot_list (PyProof.Rows.callWith_type1 (args_cons (thn run fun x s1 ⟨r, i, j, k, n, t, u, v, H1, ex, hr, ok, hn, I1, q⟩ => args_nil ?_) na) na))
  subst ex
  obtain ⟨c0, c1, c2, c3⟩ := ok
  refine call_list_range (n := n) (I1.ok.hd hc) hr c2 c3 hn fun h' tk acc c' hk e' hi => ?_
  refine ⟨.ref s1.heap.objs.size, upd H1 s1.heap.objs.size (.lst (rgV3 i k n)), I1.laid hk (Nat.le_refl _) (show ObjOk X.prog X.w _ _ _ (.lst (rgV3 i k n)) from ⟨?_, acc.toList, c', vals_rg3 hi, ?_⟩), rfl, q _ (I1.hok.fresh (Nat.le_refl _))⟩
  · unfold rgV3; rw [List.length_map, List.length_range, sizeLine_eq]; omega
  · rw [Array.toArray_toList]; exact e'
theorem s_lrg3 (C : CtxOk W Γ k EX N sc l X) {a b c : E} {x y z : Expr} {g f : Str} {p pos p2 pos2 : Pos} (hn : g = "list") (hgg : chkGl sc g = true) (hf : f = "range") (hg : chkGl sc f = true) (hs : isStar x = false) (hs' : isStar y = false) (hs'' : isStar z = false) (h : PE X x (tR W Γ EX a)) (h' : PE X y (tR W Γ EX b)) (h'' : PE X z (tR W Γ EX c)) :
    PE X (.Call (.Name g p2) [.Call (.Name f p) [x, y, z] [] pos] [] pos2) (tZ W Γ EX (.lrg3 a b c)) := by
  obtain ⟨g1, g2, g3⟩ := gl_of C hg
  have hm : X.mg f = none := C.blt f (by rw [hf]; decide)
  obtain ⟨k1, k2, k3⟩ := gl_of C hgg
  have km : X.mg g = none := C.blt g (by rw [hn]; decide)
  subst hf hn
  have h1 := star_ok hs [y, z] X.env
  have h2 := star_ok hs' [z] X.env
  have h3 := star_ok hs'' [] X.env
  refine (pe_listRg3 C.calm g1 hm k1 km (pa_cons h (pa_cons h' (pa_cons h'' pa_nil h3) h2) h1) h1 (by rw [h2, h3]; rfl) (star_ok rfl [] X.env)).impD fun σ H Q q => ?_
  obtain ⟨F, ρ, Qd, Xd, s, w, q, x⟩ := q
  refine ⟨F, ρ, _, Xd, s, w, fun d v F' H' e1 r1 w1 => ⟨F', ρ, _, Xd, s.ext e1, w1, fun d2 v2 F2 H2 e2 r2 w2 => ⟨F2, ρ, _, Xd, (s.ext e1).ext e2, w2, fun d3 v3 F3 H3 e3 r3 w3 => ?_, (x.ext e1).ext e2⟩, x.ext e1⟩, x⟩
  cases d <;> try (cases w3; done)
  cases d2 <;> try (cases w3; done)
  cases d3 <;> try (cases w3; done)
  rename_i i j c
  cases r1.int
  cases r2.int
  cases r3.int
  obtain ⟨b1, b2, h4⟩ := w3
  refine ⟨i, j, c, _, rfl, b1, b2, fun r n => ?_⟩
  exact q _ F3 H3 ((e1.trans e2).trans e3) h4 r _ n (by rw [rg3_ints, rgV3_ints]; exact Dats.ofInts _) (by rw [rangeL_len]; omega)
theorem i_enum (C : CtxOk W Γ k EX N sc l X) {a : E} {x : Expr} {elts : List Expr} {kk : Nat} {tpos : Pos} {f : Str} {p pos : Pos} (hf : f = "enumerate") (hg : chkGl sc f = true) (hs : isStar x = false) (h : PE X x (tE W Γ EX a)) :
    PI X (.Tuple elts kk tpos) (.Call (.Name f p) [x] [] pos) (tIt W Γ EX (.enum a)) := by
  obtain ⟨g1, g2, g3⟩ := gl_of C hg
  have hm : X.mg f = none := C.blt f (by rw [hf]; decide)
  subst hf
  refine (pi_enumA g1 hm (pa_cons h pa_nil (star_ok hs [] X.env)) (star_ok hs [] X.env)).impD fun σ H R q => ?_
  obtain ⟨F, ρ, Qd, Xd, s, w, q, x⟩ := q
  refine ⟨F, ρ, _, Xd, s, w, fun d v F' H' e1 r1 ⟨xs, h1, h2⟩ => ?_, x⟩
  have hit : ∀ {vs : List V}, Dats W.K F' vs xs → ∀ i x y, i < vs.length → some (V.int (i : Nat)) = some x → vs[i]? = some y → ∃ d e, Dat W.K F' x d ∧ Dat W.K F' y e ∧ (enumL xs)[i]? = some (.tuple [d, e]) := fun {vs} dd i x y hi ex ey => by
    obtain ⟨d', e1, e2⟩ := dd.getV ey
    cases ex
    exact ⟨_, _, .int _, e2, enumL_get e1⟩
  cases d with
  | list ys =>
    cases h1
    cases r1 with
    | lst e d z => exact ⟨_, _, rfl, .inl ⟨.inl (.inl (e1.ok.sub _ _ e)), by rw [C.hK]; exact q _ _ F' H' e1 (.pair walk_enum (by rw [enumL_len, d.length]) (fun F2 H2 s f => .inl (.inl (f.sub _ _ (s _ _ e)))) (hit d)) (by rw [enumL_len]; exact z) (h2 z)⟩⟩
  | tuple ys =>
    cases h1
    cases r1 with
    | tup e d z => exact ⟨_, _, rfl, .inr ⟨by rw [C.hK]; exact (e.mono e1.ok.sub).seq, by rw [C.hK]; exact q _ _ F' H' e1 (.pair walk_enumT (by rw [enumL_len, d.length]) (fun F2 H2 s f => ((e.mono s).mono f.sub).seq) (hit d)) (by rw [enumL_len]; exact z) (h2 z)⟩⟩
  | none => cases h1
  | bool _ => cases h1
  | int _ => cases h1
  | str _ => cases h1
  | dict _ => cases h1
theorem i_rng3 (C : CtxOk W Γ k EX N sc l X) {a b c : E} {tg x y z : Expr} {f : Str} {p pos : Pos} (hf : f = "range") (hg : chkGl sc f = true) (hs : isStar x = false) (hs' : isStar y = false) (hs'' : isStar z = false) (h : PE X x (tR W Γ EX a)) (h' : PE X y (tR W Γ EX b)) (h'' : PE X z (tR W Γ EX c)) :
    PI X tg (.Call (.Name f p) [x, y, z] [] pos) (tIt W Γ EX (.rng3 a b c)) := by
  obtain ⟨g1, g2, g3⟩ := gl_of C hg
  have hm : X.mg f = none := C.blt f (by rw [hf]; decide)
  subst hf
  have h1 := star_ok hs [y, z] X.env
  have h2 := star_ok hs' [z] X.env
  have h3 := star_ok hs'' [] X.env
  refine (pi_range3 g1 hm (pa_cons h (pa_cons h' (pa_cons h'' pa_nil h3) h2) h1) h1 (by rw [h2, h3]; rfl)).impD fun σ H R q => ?_
  obtain ⟨F, ρ, Qd, Xd, s, w, q, x⟩ := q
  refine ⟨F, ρ, _, Xd, s, w, fun d v F' H' e1 r1 w1 => ⟨F', ρ, _, Xd, s.ext e1, w1, fun d2 v2 F2 H2 e2 r2 w2 => ⟨F2, ρ, _, Xd, (s.ext e1).ext e2, w2, fun d3 v3 F3 H3 e3 r3 w3 => ?_, (x.ext e1).ext e2⟩, x.ext e1⟩, x⟩
  cases d <;> try (cases w3; done)
  cases d2 <;> try (cases w3; done)
  cases d3 <;> try (cases w3; done)
  rename_i i j c
  cases r1.int
  cases r2.int
  cases r3.int
  obtain ⟨b1, b2, h3⟩ := w3
  exact ⟨i, j, c, _, rfl, b1, q _ _ F3 H3 ((e1.trans e2).trans e3) .rngC (by rw [rangeL_len]; exact b2) h3⟩
theorem walk_zipT {K : PySem.W.Frag} {a b : Addr} {xs ys : List V} {n : Nat} (hn : n = min xs.length ys.length) : Walk (RZ.ItzT K a b) n (fun H => SqT K H a xs ∧ SqT K H b ys) (YPair (fun i => xs[i]?) (fun i => ys[i]?)) := by
  subst hn
  refine ⟨fun i _ hi q => ?_, fun _ q => ⟨xs, ys, q.1, q.2, by omega⟩, fun i H v H' _ q y => ?_⟩
  · have h1 : i < xs.length := by omega
    have h2 : i < ys.length := by omega
    exact ⟨xs, ys, xs[i], ys[i], q.1, q.2, by simp [h1], by simp [h2]⟩
  · obtain ⟨T, x, z, h1, h2, h3, h4, h5⟩ := y
    exact ⟨T, x, z, h1, h2, h3, h4 xs q.1, h5 ys q.2⟩
theorem walk_zipM {K : PySem.W.Frag} {a b : Addr} {xs ys : List V} {n : Nat} (hn : n = min xs.length ys.length) : Walk (ItzM K a b) n (fun H => SqT K H a xs ∧ SqL K H b ys) (YPair (fun i => xs[i]?) (fun i => ys[i]?)) := by
  subst hn
  refine ⟨fun i _ hi q => ?_, fun _ q => ⟨xs, ys, q.1, q.2, rfl⟩, fun i H v H' _ q y => ?_⟩
  · have h1 : i < xs.length := by omega
    have h2 : i < ys.length := by omega
    exact ⟨xs, ys, xs[i], ys[i], q.1, q.2, by simp [h1], by simp [h2]⟩
  · obtain ⟨T, x, z, h1, h2, h3, h4, h5⟩ := y
    exact ⟨T, x, z, h1, h2, h3, h4 xs q.1, h5 ys q.2⟩
theorem i_zip (C : CtxOk W Γ k EX N sc l X) {a b : E} {x y : Expr} {elts : List Expr} {kk : Nat} {tpos : Pos} {f : Str} {p pos : Pos} (hf : f = "zip") (hg : chkGl sc f = true) (hs : isStar x = false) (hs' : isStar y = false) (h : PE X x (tE W Γ EX a)) (h' : PE X y (tE W Γ EX b)) :
    PI X (.Tuple elts kk tpos) (.Call (.Name f p) [x, y] [] pos) (tIt W Γ EX (.zip a b)) := by
  obtain ⟨g1, g2, g3⟩ := gl_of C hg
  have hm : X.mg f = none := C.blt f (by rw [hf]; decide)
  subst hf
  have h1 := star_ok hs [y] X.env
  have h2 := star_ok hs' [] X.env
  refine (pi_zipM g1 hm (pa_cons h (pa_cons h' pa_nil h2) h1) h1 (by rw [h2]; rfl)).impD fun σ H R q => ?_
  obtain ⟨F, ρ, Qd, Xd, s, w, q, x⟩ := q
  refine ⟨F, ρ, _, Xd, s, w, fun d v F1 H1 e1 r1 w1 => ⟨F1, ρ, _, Xd, s.ext e1, w1, fun d2 v2 F' H' e2 r2 w2 => ?_, x.ext e1⟩, x⟩
  obtain ⟨⟨xs, ys⟩, h3, w3⟩ := w2
  have r1 := r1.mono e2.sub
  have hit : ∀ {vs us : List V}, Dats W.K F' vs xs → Dats W.K F' us ys → ∀ i x y, i < min vs.length us.length → vs[i]? = some x → us[i]? = some y → ∃ d e, Dat W.K F' x d ∧ Dat W.K F' y e ∧ (zipL xs ys)[i]? = some (.tuple [d, e]) := fun {vs us} dd de i x y hi ex ey => by
    obtain ⟨d', e1, e2⟩ := dd.getV ex
    obtain ⟨d'', e3, e4⟩ := de.getV ey
    exact ⟨_, _, e2, e4, zipL_get e1 e3⟩
  unfold zipD at h3
  split at h3
  · cases h3
    cases r1 with
    | lst q1 k1 z1 =>
      cases r2 with
      | lst q2 k2 z2 =>
        refine ⟨_, _, _, _, rfl, .inl ⟨.inl (.inl (e2.ok.sub _ _ q1)), .inl (.inl (e2.ok.sub _ _ q2)), ?_⟩⟩
        rw [C.hK]
        refine q _ _ F' H' (e1.trans e2) (.pair (walk_zip rfl) (by rw [zipL_len, k1.length, k2.length]) (fun F2 H2 s f => ⟨.inl (.inl (f.sub _ _ (s _ _ q1))), .inl (.inl (f.sub _ _ (s _ _ q2)))⟩) (hit k1 k2)) ?_ (w3 z1 z2)
        rw [zipL_len]; exact Nat.le_trans (Nat.min_le_left _ _) z1
  · cases h3
    cases r1 with
    | tup q1 k1 z1 =>
      cases r2 with
      | tup q2 k2 z2 =>
        refine ⟨_, _, _, _, rfl, .inr (.inl ⟨by rw [C.hK]; exact (q1.mono e2.ok.sub).seq, by rw [C.hK]; exact (q2.mono e2.ok.sub).seq, ?_⟩)⟩
        rw [C.hK]
        refine q _ _ F' H' (e1.trans e2) (.pair (walk_zipT rfl) (by rw [zipL_len, k1.length, k2.length]) (fun F2 H2 s f => ⟨((q1.mono s).mono f.sub).seq, ((q2.mono s).mono f.sub).seq⟩) (hit k1 k2)) ?_ (w3 z1 z2)
        rw [zipL_len]; exact Nat.le_trans (Nat.min_le_left _ _) z1
  · cases h3
    cases r1 with
    | tup q1 k1 z1 =>
      cases r2 with
      | lst q2 k2 z2 =>
        refine ⟨_, _, _, _, rfl, .inr (.inr ⟨by rw [C.hK]; exact (q1.mono e2.ok.sub).seq, .inl (.inl (e2.ok.sub _ _ q2)), ?_⟩)⟩
        rw [C.hK]
        refine q _ _ F' H' (e1.trans e2) (.pair (walk_zipM rfl) (by rw [zipL_len, k1.length, k2.length]) (fun F2 H2 s f => ⟨((q1.mono s).mono f.sub).seq, .inl (.inl (f.sub _ _ (s _ _ q2)))⟩) (hit k1 k2)) ?_ (w3 z1 z2)
        rw [zipL_len]; exact Nat.le_trans (Nat.min_le_left _ _) z1
  · cases h3
end
end Dl

set_option Elab.async false
set_option linter.all false
set_option maxRecDepth 100000
set_option maxHeartbeats 8000000
/-! the data layer, part 35: the rules of the special forms -/
namespace Dl
open PySem PySem.Spec PyProof.Rows L2
section
variable {X : Cx}
def tBack (K : PySem.W.Frag) (te : TE) : TE := fun σ H Q => te σ H fun x H1 => ∃ a xs, x = .ref a ∧ ((SqL K H1 a xs ∧ ∀ p, H1 p = none → Q (.ref p) (upd H1 p (.lst xs.reverse))) ∨ (SqT K H1 a xs ∧ ∀ p, H1 p = none → Q (.ref p) (upd H1 p (.tup xs.reverse))))
theorem pe_back {e : Expr} {te : TE} {k : Nat} {p1 p2 p3 pos : Pos} (he : PE X e te) : PE X (.Subscript e (.Slice none none (some (.UnaryOp .USub (.Constant (.int 1) k p1) p2)) p3) pos) (tBack X.K te) := by
  refine ⟨fun pins s σ H Q I h => Subscript_ (thn (he.run pins s σ H _ I h) fun v s1 ⟨x, H1, I1, r1, a, xs, ex, q⟩ => ?_)⟩
  subst ex
  cases r1
  have step : PO X (some (.UnaryOp .USub (.Constant (.int 1) k p1) p2)) (tPart (tUn (rU fun i => .int (-i)) (tC (.int 1)))) := po_some (pe_un un_neg pe_int)
  refine wpAny_Slice (thn (po_none.run pins s1 σ H1 (fun o G => o = none ∧ G = H1) I1 ⟨rfl, rfl⟩) fun vl s2 ⟨_, _, I2, pl, z1, z2⟩ => ?_)
  subst z1 z2
  refine thn (po_none.run pins s2 σ _ (fun o G => o = none ∧ G = _) I2 ⟨rfl, rfl⟩) fun vu s3 ⟨_, _, I3, pu, z1, z2⟩ => ?_
  subst z1 z2
  refine thn (step.run pins s3 σ _ (fun o G => o = some (-1) ∧ G = _) I3 ⟨1, rfl, -1, rfl, rfl, rfl⟩) fun vs s4 ⟨_, H4, I4, ps, z1, z2⟩ => ?_
  subst z1 z2
  cases pl
  cases pu
  generalize eh : s4.heap.push { cls := .type "slice", data := .fields #[.none, .none, vs] } = h5
  have I5 : Inv X pins σ H4 { s4 with heap := h5 } := by subst eh; exact I4.kept (t' := s4.toks) fun b ob q => Heap.get?_push_of_some _ q
  have sl : ({ s4 with heap := h5 } : Shared).heap.IsSliceOf s4.heap.objs.size .none .none vs := by subst eh; exact Heap.IsSliceOf.new _ _ _ vs
  show wpAny (model X.prog X.w) X.A (subscriptTail e (.Slice none none (some (.UnaryOp .USub (.Constant (.int 1) k p1) p2)) p3) (.ref a) (.ref s4.heap.objs.size)) (EP X pins σ Q) X.xe { s4 with heap := h5 }
  rcases q with ⟨hx, q⟩ | ⟨hx, q⟩
  · obtain ⟨its, r, ht, hz⟩ := I5.list hx
    refine tail_any (ops := [.ref a, .ref s4.heap.objs.size]) ht.isList.typeIs (PySem.slot_list_getitem.lookup) ?_ (by with_unfolding_all rfl)
    refine wpAny_getItem_list_slice ht.isList sl .none .none ps (by decide) ?_ (by rw [List.size_toArray, ← r.length]; exact hz)
    rw [PySem.W.krv_pick]
    refine ⟨.ref _, _, I5.laid (t' := s4.toks) (o := .lst xs.reverse) (fun b ob q => Heap.get?_push_of_some _ q) (Nat.le_refl _) ?_, rfl, q _ (I5.hok.fresh (Nat.le_refl _))⟩
    exact ⟨by rw [List.length_reverse]; exact hz, _, 0, r.reverse, Heap.get?_push_size _ rfl⟩
  · obtain ⟨its, r, ht, hz⟩ := I5.tuple hx
    cases ps with
    | int _ tk =>
      refine tail_any (ops := [.ref a, .ref s4.heap.objs.size]) ht.typeIs PyProof.Rows.slot_tuple_getitem.lookup ?_ (by with_unfolding_all rfl)
      refine get_back ht sl (by rw [List.size_toArray, ← r.length]; exact hz) ?_
      refine ⟨.ref _, _, I5.laid (t' := s4.toks) (o := .tup xs.reverse) (fun b ob q => Heap.get?_push_of_some _ q) (Nat.le_refl _) ?_, rfl, q _ (I5.hok.fresh (Nat.le_refl _))⟩
      exact ⟨by rw [List.length_reverse]; exact hz, _, r.reverse, IsTup.new _ _⟩
end
section
variable {W : Wd} {Γ : Gam} {EX : XK} {X : Cx} {k : Nat} {N : List Str} {sc : Scope} {l : Bool}
theorem s_rev (C : CtxOk W Γ k EX N sc l X) {a : E} {x : Expr} {c : Nat} {p1 p2 p3 pos : Pos} (ha : PE X x (tR W Γ EX a)) : PE X (.Subscript x (.Slice none none (some (.UnaryOp .USub (.Constant (.int 1) c p1) p2)) p3) pos) (tZ W Γ EX (.sp .rev a)) := by
  refine (pe_back ha).impD fun σ H Q q => ?_
  obtain ⟨F, ρ, Qd, Xd, s, w, q, x⟩ := q
  refine ⟨F, ρ, _, Xd, s, w, fun d v F' H' e1 r1 w1 => ?_, x⟩
  obtain ⟨r, h1, h2⟩ := w1
  cases d <;> try (cases h1; done)
  · rename_i xs
    cases h1
    obtain ⟨a, vs, rfl, t1, d1, z1⟩ := r1.lst e1.ok
    exact ⟨a, vs, rfl, .inl ⟨.inl (.inl t1), fun p n => q _ F' H' e1 h2 p _ n d1.reverse (by rw [List.length_reverse]; exact z1)⟩⟩
  · rename_i xs
    cases h1
    obtain ⟨a, vs, rfl, t1, d1, z1⟩ := r1.tup e1.ok
    exact ⟨a, vs, rfl, .inr ⟨C.hK ▸ t1.seq, fun p n => (q _ F' H' e1 h2).tup e1.ok e1.gd n d1.reverse (by rw [List.length_reverse]; exact z1)⟩⟩
theorem seqT_new {K : PySem.W.Frag} {F H : Hp} {a b : Addr} {xs : List V} {o : HO} (h : TupAt K F b xs) (s : Same F H) (n : H a = none) : SqT K (upd H a o) b xs := ((h.mono s).mono (same_new n)).seq
theorem s_setLen (C : CtxOk W Γ k EX N sc l X) {a : E} {x : Expr} {f g : Str} {p pos p2 pos2 : Pos} (hf : f = "len") (hgf : chkGl sc f = true) (hg : g = "set") (hgg : chkGl sc g = true) (hs : isStar x = false) (ha : PE X x (tR W Γ EX a)) :
    PE X (.Call (.Name f p) [.Call (.Name g p2) [x] [] pos2] [] pos) (tZ W Γ EX (.sp .setLen a)) := by
  obtain ⟨f1, f2, f3⟩ := gl_of C hgf
  obtain ⟨g1, g2, g3⟩ := gl_of C hgg
  have fm : X.mg f = none := C.blt f (by rw [hf]; decide)
  have gm : X.mg g = none := C.blt g (by rw [hg]; decide)
  subst hf hg
  have st := star_ok hs [] X.env
  have inner := pe_callTy (pos := pos2) (p := p2) ((cr_setI C.calm).or (cr_setOfT C.calm C.units)) g1 gm (by decide +kernel) (pa_cons ha pa_nil st) g3 g2 st (by rfl)
  have key := pe_callB (pos := pos) (p := p) cr_lenSet f1 fm (by decide +kernel) (pa_cons inner pa_nil (star_ok rfl [] X.env)) f3 f2 (star_ok rfl [] X.env) (by rfl)
  refine key.impD fun σ H Q q => ?_
  obtain ⟨F, ρ, Qd, Xd, s, w, q, x⟩ := q
  refine ⟨F, ρ, _, Xd, s, w, fun d v F' H' e1 r1 w1 => ?_, x⟩
  obtain ⟨r, h1, h2⟩ := w1
  replace h1 : lenSetSem d = some r := h1
  unfold lenSetSem at h1
  obtain ⟨xs, hx, h1⟩ := Option.bind_eq_some_iff.mp h1
  obtain ⟨b, ws, rfl, d1, z1, hh⟩ := r1.seq e1.ok hx
  cases hi : intsOf xs with
  | some ns =>
    rw [hi] at h1
    simp only at h1
    split at h1
    rotate_left
    · cases h1
    rename_i hl
    cases h1
    rw [intsOf_eq hi] at d1
    cases d1.ints
    refine .inl ⟨b, ns, rfl, ?_, hl, fun c hc => ⟨c, rfl, .inl ⟨_, _, upd_same, ?_⟩⟩⟩
    · rcases hh with ⟨z, _⟩ | ⟨z, _⟩
      · exact .inl (.inl (.inl z))
      · exact .inr (C.hK ▸ z.seq)
    · have e2 := Ext.new (o := SetO X.w c (fun j => decide (j ∈ ns)) (nub ns).length) e1.ok e1.gd hc
      exact (q _ _ _ (e1.trans e2) h2).int e2.ok e2.gd
  | none =>
    rw [hi] at h1
    cases d with
    | list xs' => ?_
    | _ => cases h1
    have : xs' = xs := Option.some.inj hx
    subst this
    obtain ⟨ts, ht, h1⟩ := Option.bind_eq_some_iff.mp h1
    by_cases hl : ts.length < 64
    rotate_left
    · rw [if_neg hl] at h1; cases h1
    rw [if_pos hl] at h1
    cases h1
    rcases hh with ⟨z, _⟩ | ⟨z, e⟩
    · rw [tupsOf_eq ht] at d1
      obtain ⟨ks, rfl, hk, rfl⟩ := tups_at d1
      refine .inr ⟨b, ks, rfl, .inl (.inl z), fun p hp => C.hK ▸ ((hk p hp).mono e1.ok.sub).seq, by simpa using hl, fun c L hc hL hL2 => ⟨c, rfl, .inr ⟨L, upd_same, fun p hp => C.hK ▸ seqT_new (hk p (hL p hp)) e1.ok.sub hc, fun nd => ?_⟩⟩⟩
      have e2 := Ext.new (o := SetTO X.prog X.w c L) e1.ok e1.gd hc
      have el : (nub (ks.map (·.2))).length = L.length := by
        rw [(nub_perm (l := ks.map (·.2)) nd fun y => ⟨fun hy => ?_, fun hy => ?_⟩).length_eq, List.length_map]
        · obtain ⟨p, hp, rfl⟩ := List.mem_map.mp hy
          exact List.mem_map.mpr ⟨p, hL p hp, rfl⟩
        · obtain ⟨p, hp, rfl⟩ := List.mem_map.mp hy
          exact hL2 p hp
      rw [el] at h2
      exact (q _ _ _ (e1.trans e2) h2).int e2.ok e2.gd
    · cases e
theorem s_setSort (C : CtxOk W Γ k EX N sc l X) {a : E} {x : Expr} {f g : Str} {p pos p2 pos2 : Pos} (hf : f = "sorted") (hgf : chkGl sc f = true) (hg : g = "set") (hgg : chkGl sc g = true) (hs : isStar x = false) (ha : PE X x (tR W Γ EX a)) :
    PE X (.Call (.Name f p) [.Call (.Name g p2) [x] [] pos2] [] pos) (tZ W Γ EX (.sp .setSort a)) := by
  obtain ⟨f1, f2, f3⟩ := gl_of C hgf
  obtain ⟨g1, g2, g3⟩ := gl_of C hgg
  have fm : X.mg f = none := C.blt f (by rw [hf]; decide)
  have gm : X.mg g = none := C.blt g (by rw [hg]; decide)
  subst hf hg
  have st := star_ok hs [] X.env
  have inner := pe_callTy (pos := pos2) (p := p2) ((cr_setI C.calm).or (cr_setOfT C.calm C.units)) g1 gm (by decide +kernel) (pa_cons ha pa_nil st) g3 g2 st (by rfl)
  have key := pe_callB (pos := pos) (p := p) ((cr_sortedSet C.calm).or (cr_sortedT C.calm)) f1 fm (by decide +kernel) (pa_cons inner pa_nil (star_ok rfl [] X.env)) f3 f2 (star_ok rfl [] X.env) (by rfl)
  refine key.impD fun σ H Q q => ?_
  obtain ⟨F, ρ, Qd, Xd, s, w, q, x⟩ := q
  refine ⟨F, ρ, _, Xd, s, w, fun d v F' H' e1 r1 w1 => ?_, x⟩
  obtain ⟨r, h1, h2⟩ := w1
  replace h1 : setSortSem d = some r := h1
  unfold setSortSem at h1
  obtain ⟨xs, hx, h1⟩ := Option.bind_eq_some_iff.mp h1
  obtain ⟨b, ws, rfl, d1, z1, hh⟩ := r1.seq e1.ok hx
  cases hi : intsOf xs with
  | some ns =>
    rw [hi] at h1
    simp only at h1
    split at h1
    rotate_left
    · cases h1
    rename_i hl
    cases h1
    rw [intsOf_eq hi] at d1
    cases d1.ints
    have hn := nub_le ns
    refine .inl ⟨b, ns, rfl, ?_, by omega, fun c hc => .inl ⟨c, _, _, rfl, upd_same, by omega, fun ms p1 o1 o2 o3 hp => ?_⟩⟩
    · rcases hh with ⟨z, _⟩ | ⟨z, _⟩
      · exact .inl (.inl (.inl z))
      · exact .inr (C.hK ▸ z.seq)
    · have e2 := Ext.new (o := SetO X.w c (fun j => decide (j ∈ ns)) (nub ns).length) e1.ok e1.gd hc
      have nd : ms.Nodup := o1.imp fun {a b} h z => by omega
      have pm : (nub ns).Perm ms := nub_perm nd fun y => (o2 y).trans (by simp)
      have em : ms = sortI (nub ns) := sorted_unique (o1.imp fun {a b} h => by omega) (sortI_sorted _) (pm.symm.trans (sortI_perm _).symm)
      rw [em]
      refine q _ _ _ (e1.trans e2) h2 p1 _ hp (Dats.ofInts _) ?_
      rw [List.length_map, (sortI_perm _).length_eq]
      omega
  | none =>
    rw [hi] at h1
    cases d with
    | list xs' => ?_
    | _ => cases h1
    have : xs' = xs := Option.some.inj hx
    subst this
    obtain ⟨ts, ht, h1⟩ := Option.bind_eq_some_iff.mp h1
    by_cases hl : ts.length < 64 ∧ okT ts = true
    rotate_left
    · rw [if_neg hl] at h1; cases h1
    rw [if_pos hl] at h1
    cases h1
    obtain ⟨hl, ho⟩ := hl
    obtain ⟨dd, hd, hall⟩ := okT_all ho
    rcases hh with ⟨z, _⟩ | ⟨z, e⟩
    · rw [tupsOf_eq ht] at d1
      obtain ⟨ks, rfl, hk, rfl⟩ := tups_at d1
      refine .inr ⟨b, ks, rfl, .inl (.inl z), fun p hp => C.hK ▸ ((hk p hp).mono e1.ok.sub).seq, by simpa using hl, fun c L hc hL hL2 => .inr ⟨c, L, dd, 1000000000000, rfl, upd_same, fun p hp => C.hK ▸ seqT_new (hk p (hL p hp)) e1.ok.sub hc, hd, fun p hp => hall p.2 (List.mem_map.mpr ⟨p, hL p hp, rfl⟩), fun L' p1 hperm nd hl' hpw hp1 => ?_⟩⟩
      have e2 := Ext.new (o := SetTO X.prog X.w c L) e1.ok e1.gd hc
      have hmem : ∀ p ∈ L', p ∈ ks := fun p hp => hL p (hperm.mem_iff.mp hp)
      have hsort : (L'.map (·.2)).Pairwise (fun a b => lexLe a b = true) := by
        rw [List.pairwise_map]
        refine List.Pairwise.imp_of_mem (fun {u v} hu hv h => ?_) hpw
        obtain ⟨u1, u2⟩ := hall u.2 (List.mem_map.mpr ⟨u, hmem u hu, rfl⟩)
        obtain ⟨v1, v2⟩ := hall v.2 (List.mem_map.mpr ⟨v, hmem v hv, rfl⟩)
        exact code_le (by decide) (by omega) u2 v2 h
      have hpn : (nub (ks.map (·.2))).Perm (L'.map (·.2)) := nub_perm nd fun y => by
        constructor
        · intro hy
          obtain ⟨p, hp, rfl⟩ := List.mem_map.mp hy
          exact List.mem_map.mpr ⟨p, hmem p hp, rfl⟩
        · intro hy
          obtain ⟨p, hp, rfl⟩ := List.mem_map.mp hy
          obtain ⟨p', hp', e'⟩ := List.mem_map.mp (hL2 p hp)
          exact List.mem_map.mpr ⟨p', hperm.mem_iff.mpr hp', e'⟩
      have he : L'.map (·.2) = sortT (nub (ks.map (·.2))) := sortedT_unique hsort (sortT_sorted _) (hpn.symm.trans (sortT_perm _).symm)
      refine q _ _ _ (e1.trans e2) h2 p1 _ hp1 ?_ ?_
      · rw [← he, List.map_map]
        refine dats_tups fun p hp => ⟨(hk p (hmem p hp)).mono e2.sub, ?_⟩
        obtain ⟨i, hi', rfl⟩ := List.getElem_of_mem (hmem p hp)
        obtain ⟨v, g1, g2⟩ := d1.get (i := i) (d := .tuple (ks[i].2.map .int)) (by rw [List.map_map, List.getElem?_map, List.getElem?_eq_getElem hi']; rfl)
        cases g2 with
        | tup _ _ z => simpa using z
      · rw [List.length_map, ← he, List.length_map]; omega
    · cases e
/-! ### methods of texts -/
theorem pad_ok {n : Nat} (h : n ≤ 1000) : PadOk (n : Int) = true := by
  unfold PadOk fitsSsize Builtin.Str.tooLong
  rw [sizeLine_eq]
  simp
  omega
theorem s_zfill {a : E} {x : Expr} {n j : Nat} {p ap cp : Pos} (hb : isSupC x = false) (hl : (ap.endLine == cp.line) = true) (ha : PE X x (tR W Γ EX a)) :
    PE X (.Call (.Attribute x "zfill" ap) [.Constant (.int (n : Int)) j p] [] cp) (tZ W Γ EX (.sp (.zfill n) a)) := by
  refine (pe_m1 F.slot_str_zfill F.type_str_zfill mt_zfill ha (pe_int (i := (n : Int)) (j := j) (pos := p)) rfl (base_ok hb _ _ _) hl).impD fun σ H Q q => ?_
  obtain ⟨F, ρ, Qd, Xd, s, w, q, x⟩ := q
  refine ⟨F, ρ, _, Xd, s, w, fun d v F' H' e1 r1 ⟨r, h1, h2⟩ => ?_, x⟩
  cases d <;> try (cases h1; done)
  replace h1 : (if _ then _ else _) = some r := h1
  split at h1 <;> cases h1
  rename_i hh
  obtain ⟨rfl, _⟩ := r1.str
  exact ⟨⟨_, rfl⟩, _, _, rfl, rfl, pad_ok hh.1, (q _ F' H' e1 h2).str e1.ok e1.gd hh.2⟩
theorem s_split {a : E} {x : Expr} {t : Str} {j : Nat} {p ap cp : Pos} (hb : isSupC x = false) (hl : (ap.endLine == cp.line) = true) (ha : PE X x (tR W Γ EX a)) :
    PE X (.Call (.Attribute x "split" ap) [.Constant (.str t) j p] [] cp) (tZ W Γ EX (.sp (.split t) a)) := by
  refine (pe_split ha (pe_str (x := t) (j := j) (pos := p)) rfl (base_ok hb _ _ _) hl).impD fun σ H Q q => ?_
  obtain ⟨F, ρ, Qd, Xd, s, w, q, x⟩ := q
  refine ⟨F, ρ, _, Xd, s, w, fun d v F' H' e1 r1 ⟨r, h1, h2⟩ => ?_, x⟩
  cases d <;> try (cases h1; done)
  replace h1 : (if _ then _ else _) = some r := h1
  split at h1 <;> cases h1
  rename_i hh
  obtain ⟨rfl, _⟩ := r1.str
  exact ⟨⟨_, rfl⟩, _, _, rfl, rfl, hh.1, by rw [sizeLine_eq]; omega, fun p1 n1 => q _ F' H' e1 h2 p1 _ n1 (dats_ofStrs hh.2.2.1) (by rw [List.length_map]; exact hh.2.2.2)⟩
theorem s_join (hK : X.K = W.K) {a : E} {x : Expr} {t : Str} {j : Nat} {p ap cp : Pos} (hs : isStar x = false) (hl : (ap.endLine == cp.line) = true) (ha : PE X x (tR W Γ EX a)) :
    PE X (.Call (.Attribute (.Constant (.str t) j p) "join" ap) [x] [] cp) (tZ W Γ EX (.sp (.join t) a)) := by
  refine (pe_join (pe_str (x := t) (j := j) (pos := p)) ha (star_ok hs [] X.env) rfl hl).impD fun σ H Q q => ?_
  refine ⟨⟨_, rfl⟩, ?_⟩
  obtain ⟨F, ρ, Qd, Xd, s, w, q, x⟩ := q
  refine ⟨F, ρ, _, Xd, s, w, fun d v F' H' e1 r1 ⟨r, h1, h2⟩ => ?_, x⟩
  cases d <;> try (cases h1; done)
  replace h1 : joinSem t _ = some r := h1
  unfold joinSem at h1
  obtain ⟨ys, hy, h1⟩ := Option.bind_eq_some_iff.mp h1
  split at h1 <;> cases h1
  rename_i hh
  obtain ⟨b, vs, rfl, t1, d1, z1⟩ := r1.lst e1.ok
  rw [strsOf_eq hy] at d1
  have := dats_strs d1
  subst this
  exact ⟨_, b, ys, rfl, rfl, .inl (.inl (.inl t1)), hh.1, (q _ F' H' e1 h2).str e1.ok e1.gd hh.2⟩
/-! ### list(enumerate(..)) -/
def enumI (i : Nat) : List PyData → List PyData
  | [] => []
  | x :: r => .tuple [.int (i : Nat), x] :: enumI (i + 1) r
theorem enumI_eq : ∀ (xs : List PyData) (i : Nat), enumI i xs = ((List.range' i xs.length).zipWith (fun (i : Nat) x => PyData.tuple [.int (i : Int), x]) xs)
  | [], _ => rfl
  | x :: r, i => by
    rw [List.length_cons, List.range'_succ, List.zipWith_cons_cons, ← enumI_eq r (i + 1)]
    rfl
theorem ext_tups {W : Wd} : ∀ {ps : List (Addr × V)} {ds : List PyData} {F H : Hp} {i : Nat}, FOk W F H → Good W H → (ps.map (·.1)).Nodup → (∀ p ∈ ps, H p.1 = none) → Dats W.K F (ps.map (·.2)) ds →
    Ext W F H (tupsH F i ps) (tupsH H i ps) ∧ Dats W.K (tupsH F i ps) (ps.map fun p => .ref p.1) (enumI i ds)
  | [], _, F, H, _, f, g, _, _, d => by
    cases d
    exact ⟨.refl f g, .nil⟩
  | p :: r, _, F, H, i, f, g, nd, hn, d => by
    rw [List.map_cons] at d
    cases d with
    | cons d1 d2 =>
      rw [List.map_cons, List.nodup_cons] at nd
      have hp := hn p List.mem_cons_self
      have e := Ext.tup (xs := [.int (i : Nat), p.2]) f g hp
      have sm : Same F (upd F p.1 (.tup [.int (i : Nat), p.2])) := e.sub
      obtain ⟨e2, d3⟩ := ext_tups (ps := r) (i := i + 1) e.ok e.gd nd.2 (fun q hq => (upd_ne fun (z : q.1 = p.1) => nd.1 (by rw [← z]; exact List.mem_map_of_mem hq)).trans (hn q (List.mem_cons_of_mem _ hq))) (d2.mono sm)
      refine ⟨e.trans e2, .cons ?_ d3⟩
      refine .tup (.inl ((tupsH_ne nd.1).trans upd_same)) (.cons (.int _) (.cons ((d1.mono sm).mono e2.sub) .nil)) (by simp)
theorem enumI_len : ∀ {ds : List PyData} {i : Nat}, (enumI i ds).length = ds.length
  | [], _ => rfl
  | _ :: r, i => congrArg (· + 1) (enumI_len (ds := r))
theorem s_enumL (C : CtxOk W Γ k EX N sc l X) {a : E} {x : Expr} {f g : Str} {p pos p2 pos2 : Pos} (hf : f = "list") (hgf : chkGl sc f = true) (hg : g = "enumerate") (hgg : chkGl sc g = true) (hs : isStar x = false) (ha : PE X x (tR W Γ EX a)) :
    PE X (.Call (.Name f p) [.Call (.Name g p2) [x] [] pos2] [] pos) (tZ W Γ EX (.sp .enumL a)) := by
  obtain ⟨f1, f2, f3⟩ := gl_of C hgf
  obtain ⟨g1, g2, g3⟩ := gl_of C hgg
  have fm : X.mg f = none := C.blt f (by rw [hf]; decide)
  have gm : X.mg g = none := C.blt g (by rw [hg]; decide)
  subst hf hg
  have key := pe_listEnum (p := p) (p2 := p2) (pos := pos) (pos2 := pos2) C.calm f1 fm g1 gm ha (star_ok hs [] X.env)
  refine key.impD fun σ H Q q => ?_
  obtain ⟨F, ρ, Qd, Xd, s, w, q, x⟩ := q
  refine ⟨F, ρ, _, Xd, s, w, fun d v F' H' e1 r1 ⟨r, h1, h2⟩ => ?_, x⟩
  cases d with
  | tuple ds =>
    cases h1
    obtain ⟨b, ws, rfl, ta, d1, z1⟩ := r1.tup e1.ok
    refine ⟨b, ws, rfl, C.hK ▸ ta.seq, fun l ps em hl nd hn hln hlf => ?_⟩
    subst em
    obtain ⟨e2, d2⟩ := ext_tups (i := 0) e1.ok e1.gd nd hn d1
    have hr := q _ _ _ (e1.trans e2) h2
    refine hr l _ ((tupsH_ne hln).trans hlf) ?_ ?_
    · rw [show (List.range ds.length).zipWith (fun (i : Nat) x => PyData.tuple [.int (i : Int), x]) ds = enumI 0 ds by rw [enumI_eq, List.range_eq_range']]
      exact d2
    · rw [List.length_zipWith, List.length_range]; omega
  | _ => cases h1
theorem s_sp (C : CtxOk W Γ k EX N sc l X) {f : SpF} {a : E} {x y : Expr} (h : spArg f sc x = some y) (ha : PE X y (tR W Γ EX a)) : PE X x (tZ W Γ EX (.sp f a)) := by
  unfold spArg at h
  split at h
  · split at h <;> cases h
    rename_i m _ _ hm
    unfold isM1 at hm
    split at hm
    · cases of_decide_eq_true hm
      exact s_rev C ha
    · cases hm
  · split at h <;> cases h
    rename_i hb
    simp only [Bool.and_eq_true, decide_eq_true_eq, Bool.not_eq_true'] at hb
    exact s_setLen C hb.1.1 hb.1.2 hb.2.1.1 hb.2.1.2 hb.2.2 ha
  · split at h <;> cases h
    rename_i hb
    simp only [Bool.and_eq_true, decide_eq_true_eq, Bool.not_eq_true'] at hb
    exact s_setSort C hb.1.1 hb.1.2 hb.2.1.1 hb.2.1.2 hb.2.2 ha
  · split at h <;> cases h
    rename_i hb
    simp only [Bool.and_eq_true, decide_eq_true_eq, Bool.not_eq_true'] at hb
    exact s_enumL C hb.1.1 hb.1.2 hb.2.1.1 hb.2.1.2 hb.2.2 ha
  · split at h <;> cases h
    rename_i hb
    simp only [Bool.and_eq_true, decide_eq_true_eq, Bool.not_eq_true'] at hb
    obtain ⟨rfl, rfl, h1, h2⟩ := hb
    exact s_zfill h2 h1 ha
  · split at h <;> cases h
    rename_i hb
    simp only [Bool.and_eq_true, decide_eq_true_eq, Bool.not_eq_true'] at hb
    obtain ⟨rfl, rfl, h1, h2⟩ := hb
    exact s_split h2 h1 ha
  · split at h <;> cases h
    rename_i hb
    simp only [Bool.and_eq_true, decide_eq_true_eq, Bool.not_eq_true'] at hb
    obtain ⟨rfl, rfl, h1, h2⟩ := hb
    exact s_join C.hK h2 h1 ha
  · cases h
end
end Dl

set_option Elab.async false
set_option linter.all false
set_option maxRecDepth 100000
set_option maxHeartbeats 8000000
/-! the data layer, part 39: dicts of the def's own, with ints as keys: sorted, in, what stands at a key -/
namespace Dl
open PySem PySem.Spec PyProof.Rows L2
theorem kvd_find {K : PySem.W.Frag} {F : Hp} {k : Int} : ∀ {kvs : List (Int × PyData)} {vs : List (Key × V)}, KvD K F vs kvs → (valV vs (Sum.inl k)).isSome = (dVal kvs k).isSome ∧ ∀ d, dVal kvs k = some d → ∃ v, valV vs (Sum.inl k) = some v ∧ Dat K F v d
  | [], vs, h => by
    have := congrArg List.length h.1
    simp at this
    subst this
    exact ⟨rfl, fun d z => by cases z⟩
  | p :: r, [], h => by have := congrArg List.length h.1; simp at this
  | (j, d) :: r, (j', v) :: vs, h => by
    obtain ⟨h1, h2⟩ := h
    simp only [List.map_cons, List.cons.injEq] at h1
    obtain ⟨rfl, h1⟩ := h1
    cases h2 with
    | cons a b =>
      have ih := kvd_find (k := k) (kvs := r) (vs := vs) ⟨h1, b⟩
      unfold valV dVal at ih ⊢
      by_cases hk : j = k
      · subst hk
        simp only [List.find?_cons, decide_true]
        exact ⟨rfl, fun d' z => by cases z; exact ⟨v, rfl, a⟩⟩
      · have : ¬ (Sum.inl j : Key) = Sum.inl k := fun z => hk (Sum.inl.inj z)
        simp only [List.find?_cons, hk, this, decide_false]
        exact ih
theorem kvd_put {K : PySem.W.Frag} {F : Hp} {k : Int} {d : PyData} {v : V} (r : Dat K F v d) {kvs : List (Int × PyData)} {vs : List (Key × V)} (h : KvD K F vs kvs) : KvD K F (putK vs (Sum.inl k) v) (dPut kvs k d) := by
  have ea : (vs.any fun kv => decide (kv.1 = Sum.inl k)) = kvs.any fun kv => decide (kv.1 = k) := by
    have : ∀ {kvs : List (Int × PyData)} {vs : List (Key × V)}, vs.map (·.1) = kvs.map (fun p => Sum.inl p.1) → (vs.any fun kv => decide (kv.1 = Sum.inl k)) = kvs.any fun kv => decide (kv.1 = k) := by
      intro kvs
      induction kvs with
      | nil => intro vs h; simp at h; subst h; rfl
      | cons p r ih =>
        intro vs h
        cases vs with
        | nil => simp at h
        | cons q vs =>
          simp only [List.map_cons, List.cons.injEq] at h
          rw [List.any_cons, List.any_cons, ih h.2, h.1]
          congr 1
          rw [decide_eq_decide]
          exact ⟨Sum.inl.inj, congrArg _⟩
    exact this h.1
  unfold putK dPut
  rw [ea]
  split
  · have : ∀ {kvs : List (Int × PyData)} {vs : List (Key × V)}, KvD K F vs kvs → KvD K F (vs.map fun kv => if kv.1 = Sum.inl k then (kv.1, v) else kv) (kvs.map fun kv => if kv.1 = k then (kv.1, d) else kv) := by
      intro kvs
      induction kvs with
      | nil =>
        intro vs h
        have := congrArg List.length h.1
        simp at this
        subst this
        exact h
      | cons p rr ih =>
        intro vs h
        cases vs with
        | nil => have := congrArg List.length h.1; simp at this
        | cons q vs =>
          obtain ⟨h1, h2⟩ := h
          simp only [List.map_cons, List.cons.injEq] at h1
          cases h2 with
          | cons a b =>
            obtain ⟨i1, i2⟩ := ih ⟨h1.2, b⟩
            by_cases hk : p.1 = k
            · have hq : q.1 = Sum.inl k := by rw [h1.1, hk]
              refine ⟨?_, ?_⟩
              · simp only [List.map_cons, hk, hq, if_true, i1]
              · simp only [List.map_cons, hk, hq, if_true]
                exact .cons r i2
            · have hq : ¬ q.1 = Sum.inl k := by rw [h1.1]; exact fun z => hk (Sum.inl.inj z)
              refine ⟨?_, ?_⟩
              · simp only [List.map_cons, hk, hq, if_false, i1]
                rw [h1.1]
              · simp only [List.map_cons, hk, hq, if_false]
                exact .cons a i2
    exact this h
  · refine ⟨?_, ?_⟩
    · rw [List.map_append, List.map_append, h.1]; rfl
    · rw [List.map_append, List.map_append]
      exact h.2.append (.cons r .nil)
theorem dPut_len {kvs : List (Int × PyData)} {k : Int} {d : PyData} : (dPut kvs k d).length ≤ kvs.length + 1 := by
  unfold dPut
  split <;> simp
section
variable {W : Wd} {Γ : Gam} {EX : XK} {X : Cx} {k : Nat} {N : List Str} {sc : Scope} {l : Bool}
theorem varD (C : CtxOk W Γ k EX N sc l X) {i : Nat} {x : Str} {pos : Pos} (h : chkVar N sc i x = true) : PE X (.Name x pos) (tVar i) := by
  unfold chkVar nameOk at h
  simp only [Bool.and_eq_true, decide_eq_true_eq, Bool.not_eq_true'] at h
  exact pe_var (by rw [C.hN]; exact h.1.1) (by rw [C.hsc]; exact vis_of h.1.2) h.2.1.1 h.2.1.2
theorem s_dsrt (C : CtxOk W Γ k EX N sc l X) {i : Nat} {a : E} {y : Str} {p p2 pos : Pos} (hg : chkGl sc "sorted" = true) (hx : chkVar N sc i y = true) : PE X (.Call (.Name "sorted" p) [.Name y p2] [] pos) (tZ W Γ EX (.dx .srt i a)) := by
  obtain ⟨f1, f2, f3⟩ := gl_of C hg
  have fm : X.mg "sorted" = none := C.blt "sorted" (by decide)
  have key := pe_callB (pos := pos) (p := p) (call_sortedDI C.calm) f1 fm (by decide +kernel) (pa_cons (varD (pos := p2) C hx) pa_nil (star_ok rfl [] X.env)) f3 f2 (star_ok rfl [] X.env) (by rfl)
  refine key.impD fun σ H Q q => ?_
  obtain ⟨F, ρ, Qd, Xd, s, ⟨kvs, h1, h2, h3⟩, q, x⟩ := q
  obtain ⟨b, vs, e1, e2, e3, e4, e5, e6⟩ := s.dct h1
  refine ⟨_, e1, b, vs, kvs.map (·.1), rfl, .inl e2, by rw [e5.1, List.map_map]; rfl, by rw [List.length_map]; exact h2, fun ys p1 o1 o2 hp => ?_⟩
  have em : ys = sortI (kvs.map (·.1)) := sorted_unique o2 (sortI_sorted _) (o1.trans (sortI_perm _).symm)
  rw [em]
  refine q _ F H (.refl s.f s.g) h3 p1 _ hp (Dats.ofInts _) ?_
  rw [List.length_map, (sortI_perm _).length_eq, List.length_map]
  omega
theorem din_imp {neg : Bool} {i : Nat} {a : E} {σ : L2.St} {H : Hp} {Q : VK} (q : tE W Γ EX (.dx (.isin neg) i a) σ H Q) : (tR W Γ EX a) σ H fun y H1 => (tVar i) σ H1 fun x H2 => ∃ ad o, x = .ref ad ∧ DGet H2 ad y o ∧ Q (.bl (o.isSome != neg)) H2 := by
  obtain ⟨F, ρ, Qd, Xd, s, w, q, x⟩ := q
  refine ⟨F, ρ, _, Xd, s, w, fun d v F' H' e1 r w1 => ?_, x⟩
  cases d <;> try (cases w1; done)
  rename_i j
  have := r.int
  subst this
  obtain ⟨kvs, h1, h2⟩ := w1
  obtain ⟨ad, vs, g1, g2, g3, g4, g5, g6⟩ := (s.ext e1).dct h1
  refine ⟨_, g1, ad, _, rfl, DGet.k (k := Sum.inl j) g2, ?_⟩
  rw [(kvd_find (k := j) g5).1]
  exact q _ _ F' H' e1 (.bl _) h2
theorem din_impT {neg : Bool} {i : Nat} {a : E} {σ : L2.St} {H : Hp} {Q : Bool → Hp → Prop} (q : tT W Γ EX (.dx (.isin neg) i a) σ H Q) : (tR W Γ EX a) σ H fun y H1 => (tVar i) σ H1 fun x H2 => ∃ ad o, x = .ref ad ∧ DGet H2 ad y o ∧ ∃ b, (V.bl (o.isSome != neg)) = .bl b ∧ Q b H2 := by
  obtain ⟨F, ρ, Qd, Xd, s, w, q, x⟩ := q
  refine ⟨F, ρ, _, Xd, s, w, fun d v F' H' e1 r w1 => ?_, x⟩
  cases d <;> try (cases w1; done)
  rename_i j
  have := r.int
  subst this
  obtain ⟨kvs, h1, h2⟩ := w1
  obtain ⟨ad, vs, g1, g2, g3, g4, g5, g6⟩ := (s.ext e1).dct h1
  refine ⟨_, g1, ad, _, rfl, DGet.k (k := Sum.inl j) g2, _, rfl, ?_⟩
  rw [(kvd_find (k := j) g5).1]
  exact q _ F' H' e1 h2
theorem s_dinT (C : CtxOk W Γ k EX N sc l X) {neg : Bool} {i : Nat} {a : E} {z : Expr} {y : Str} {p pos : Pos} (ha : PE X z (tR W Γ EX a)) (hx : chkVar N sc i y = true) : PT X (.Compare z [dinOp neg] [.Name y p] pos) (tT W Γ EX (.dx (.isin neg) i a)) := by
  have hu : X.A.units + 1 < cLine := by have := C.units; omega
  cases neg with
  | true =>
    refine (pt_cmp (op := .NotIn) (pc_dnotin hu ha (varD C hx)) rfl).impD fun σ H Q q => ?_
    have := din_impT q
    simp only [Bool.bne_true] at this
    exact this
  | false =>
    refine (pt_cmp (op := .In) (pc_din hu ha (varD C hx)) rfl).impD fun σ H Q q => ?_
    have := din_impT q
    simp only [Bool.bne_false] at this
    exact this
theorem s_din (C : CtxOk W Γ k EX N sc l X) {neg : Bool} {i : Nat} {a : E} {z : Expr} {y : Str} {p pos : Pos} (ha : PE X z (tR W Γ EX a)) (hx : chkVar N sc i y = true) : PE X (.Compare z [dinOp neg] [.Name y p] pos) (tE W Γ EX (.dx (.isin neg) i a)) := by
  have hu : X.A.units + 1 < cLine := by have := C.units; omega
  cases neg with
  | true =>
    refine (pe_cmp (op := .NotIn) (pc_dnotin hu ha (varD C hx)) rfl).impD fun σ H Q q => ?_
    have := din_imp q
    simp only [Bool.bne_true] at this
    exact this
  | false =>
    refine (pe_cmp (op := .In) (pc_din hu ha (varD C hx)) rfl).impD fun σ H Q q => ?_
    have := din_imp q
    simp only [Bool.bne_false] at this
    exact this
theorem s_dget (C : CtxOk W Γ k EX N sc l X) {i : Nat} {a : E} {z : Expr} {y : Str} {p pos : Pos} (hp : plainIx z = true) (ha : PE X z (tR W Γ EX a)) (hx : chkVar N sc i y = true) : PE X (.Subscript (.Name y p) z pos) (tE W Γ EX (.dx .get i a)) := by
  have hu : X.A.units + 1 < cLine := by have := C.units; omega
  refine (pe_dget hu (varD C hx) ha (fun ov iv => plain_ix hp ov iv)).impD fun σ H Q q => ?_
  obtain ⟨F, ρ, Qd, Xd, s, ⟨kvs, h1, w⟩, q, x⟩ := q
  obtain ⟨ad, vs, g1, g2, g3, g4, g5, g6⟩ := s.dct h1
  refine ⟨_, g1, F, ρ, _, Xd, s, w, fun d v F' H' e1 r w1 => ?_, x⟩
  cases d <;> try (cases w1; done)
  rename_i j
  have := r.int
  subst this
  obtain ⟨d, h2, h3⟩ := w1
  obtain ⟨ad', vs', k1, k2, k3, k4, k5, k6⟩ := (s.ext e1).dct h1
  rw [g1] at k1
  cases k1
  obtain ⟨v, f1, f2⟩ := (kvd_find (k := j) k5).2 d h2
  refine ⟨ad, v, rfl, ?_, q d v F' H' e1 f2 h3⟩
  have := DGet.k (k := Sum.inl j) k2
  rw [f1] at this
  exact this
end
end Dl

set_option Elab.async false
set_option linter.all false
set_option maxRecDepth 100000
set_option maxHeartbeats 8000000
/-! the data layer, part 46: dicts of the def's own with nested tuples of ints as keys; dicts of the module; displays -/
namespace Dl
open PySem PySem.Spec PyProof.Rows L2
section
variable {X : Cx} {pins : List (Addr × Obj)} {σ : L2.St} {H F : Hp} {s : Shared}
mutual
theorem key_is (I : Inv X pins σ H s) (f : Same F H) : ∀ (d : D) (v : V) (u : Value), Dat X.K F v d → kPl d = true → RelV v u → NestedIs s.heap (kOf d) u
  | .int i, v, u, h, k, r => by
    cases h
    obtain ⟨t, rfl⟩ := r
    exact .int i t
  | .tuple ds, v, u, h, k, r => by
    cases h with
    | tup e g z =>
      cases r
      obtain ⟨its, r1, ⟨o, ho, hc, n, hd⟩, _⟩ := I.tuple (e.mono f).seq
      have k : kPls ds = true := k
      exact .tup ho hc hd (keys_is I f ds _ _ g k r1)
  | .none, v, u, h, k, r => by cases k
  | .bool _, v, u, h, k, r => by cases k
  | .str _, v, u, h, k, r => by cases k
  | .list _, v, u, h, k, r => by cases k
  | .dict _, v, u, h, k, r => by cases k
theorem keys_is (I : Inv X pins σ H s) (f : Same F H) : ∀ (ds : List D) (vs : List V) (us : List Value), Dats X.K F vs ds → kPls ds = true → Vals vs us → NestedAll s.heap (kOfs ds) us
  | [], vs, us, h, k, r => by cases h; cases r; exact .nil
  | d :: ds, vs, us, h, k, r => by
    cases h with
    | cons a b =>
      cases r with
      | cons r1 r2 =>
        have k : (kPl d && kPls ds) = true := k
        simp only [Bool.and_eq_true] at k
        exact .cons (key_is I f d _ _ a k.1 r1) (keys_is I f ds _ _ b k.2 r2)
end
mutual
theorem hash_pl {w w' : World} : ∀ (d : D), kPl d = true → (kOf d).hash w = (kOf d).hash w'
  | .int i, k => rfl
  | .tuple ds, k => by
    have k : kPls ds = true := k
    show NestedKey.hash w (.tup (kOfs ds)) = NestedKey.hash w' (.tup (kOfs ds))
    unfold NestedKey.hash
    rw [hashes_pl ds k]
  | .none, k => rfl
  | .bool _, k => rfl
  | .str _, k => rfl
  | .list _, k => rfl
  | .dict _, k => rfl
theorem hashes_pl {w w' : World} : ∀ (ds : List D), kPls ds = true → NestedKey.hashes w (kOfs ds) = NestedKey.hashes w' (kOfs ds)
  | [], k => rfl
  | d :: ds, k => by
    have k : (kPl d && kPls ds) = true := k
    simp only [Bool.and_eq_true] at k
    show NestedKey.hashes w (kOf d :: kOfs ds) = NestedKey.hashes w' (kOf d :: kOfs ds)
    unfold NestedKey.hashes
    rw [hash_pl d k.1, hashes_pl ds k.2]
end
theorem kOk_tup {d : D} (h : kOk d = true) : (∃ ds, d = .tuple ds) ∧ kPl d = true ∧ (kOf d).depth ≤ 8 := by
  cases d with
  | tuple ds =>
    have h : (kPls ds && decide ((kOf (.tuple ds)).depth ≤ 8)) = true := h
    simp only [Bool.and_eq_true, decide_eq_true_eq] at h
    exact ⟨⟨ds, rfl⟩, h.1, h.2⟩
  | _ => cases h
theorem ksd_all {K : PySem.W.Frag} : ∀ {ds : List D} {xs : List (NestedKey × Addr × Value)}, xs.map (·.1) = ds.map kOf → Dats K F (xs.map fun q => .ref q.2.1) ds → ∀ x ∈ xs, ∃ d ∈ ds, x.1 = kOf d ∧ Dat K F (.ref x.2.1) d
  | [], [], _, _, x, hx => by cases hx
  | [], _ :: _, h, _, x, hx => by simp at h
  | _ :: _, [], h, _, x, hx => by simp at h
  | d :: ds, y :: ys, h, r, x, hx => by
    simp only [List.map_cons, List.cons.injEq] at h
    rw [List.map_cons] at r
    cases r with
    | cons a b =>
      rcases List.mem_cons.mp hx with rfl | hx
      · exact ⟨d, List.mem_cons_self, h.1, a⟩
      · obtain ⟨d', h1, h2⟩ := ksd_all h.2 b x hx
        exact ⟨d', List.mem_cons_of_mem _ h1, h2⟩
theorem ks_at {a : Addr} {es : Array DictEntry} {xs : List (NestedKey × Addr × Value)} {ds : List D} (I : Inv X pins σ H s) (f : Same F H) (e : H a = some (KsO a es)) (D : KsD X.K F es xs ds) : s.heap.DictOfH (nestedKind X.prog X.w) a xs := by
  obtain ⟨⟨o, ep, h1, h2, h3⟩, _, _⟩ := I.hok a _ e
  refine ⟨o, es, ep, h1, h2, h3, D.es X.w, fun x hx => ?_, by rw [D.ks]; exact D.nd⟩
  obtain ⟨d, m, e1, r⟩ := ksd_all D.ks D.ad x hx
  obtain ⟨_, k1, k2⟩ := kOk_tup (D.ok d m)
  rw [e1]
  exact ⟨key_is I f d _ _ r k1 rfl, k2⟩
theorem atKey_mem {κ : Type} [DecidableEq κ] {k : κ} : ∀ {xs : List (κ × Addr × Value)}, (atKey xs k).isSome = decide (k ∈ xs.map (·.1))
  | [] => by simp [atKey]
  | x :: xs => by
    have ih := atKey_mem (k := k) (xs := xs)
    unfold atKey at ih ⊢
    rw [List.find?_cons]
    by_cases h : x.1 = k
    · simp [h]
    · have h' : ¬ k = x.1 := fun z => h z.symm
      simp only [decide_eq_false h, List.map_cons, List.mem_cons, h', false_or]
      exact ih
theorem ksO_new {P : Program} {w : World} {H : Hp} {h : Heap} {a : Addr} {es : Array DictEntry} {o : Obj} {ep : Nat} (h1 : h.get? a = some o) (h2 : o.ExactDict) (h3 : o.data = .dict es ep) : ObjOk P w H h a (KsO a es) :=
  ⟨⟨o, ep, h1, h2, h3⟩, ⟨o, h1⟩, fun _ _ ⟨o', ep', q1, q2, q3⟩ k => ⟨o', ep', k _ q1, q2, q3⟩⟩
end
/-- what stands ready: a dict with these keys, a key -/
def KsRd (K : PySem.W.Frag) (F H : Hp) (a : Addr) (es : Array DictEntry) (xs : List (NestedKey × Addr × Value)) (ds : List D) : Prop := Same F H ∧ H a = some (KsO a es) ∧ KsD K F es xs ds ∧ (a == sysModules) = false
def tKin (K : PySem.W.Frag) (neg : Bool) (ty td : TE) : TE := fun σ H Q => ty σ H fun y H1 => td σ H1 fun x H2 => ∃ F a es xs ds d, KsRd K F H2 a es xs ds ∧ x = .ref a ∧ Dat K F y d ∧ kOk d = true ∧ Q (.bl (decide (kOf d ∈ ds.map kOf) != neg)) H2
def tKnew : TE := fun _ H Q => ∀ p, H p = none → (p == sysModules) = false → Q (.ref p) (upd H p (KsO p #[]))
def sKput (K : PySem.W.Frag) (td ty : TE) (b : Bool) : TS := fun D σ H => td σ H fun x H2 => ty σ H2 fun y H3 => ∃ F a es xs ds d, KsRd K F H3 a es xs ds ∧ x = .ref a ∧ Dat K F y d ∧ kOk d = true ∧ ds.length < 16777216 ∧
  ∀ es' xs', KsD K F es' xs' (ksPut ds d) → D.nx σ (upd H3 a (KsO a es'))
section
variable {X : Cx} {i o : Expr} {pos pos' : Pos} {ty td : TE}
theorem nk_room (hu : X.A.units + 64 < cLine) : (nestedKind X.prog X.w).room X.A.in1 := by
  show X.A.in1.units + 8 < cLine
  have : X.A.in1.units ≤ X.A.units + 1 := by first | exact Nat.le_refl _ | exact Nat.le_succ _
  omega
theorem pc_kin {neg : Bool} (hu : X.A.units + 64 < cLine) (hi : PE X i ty) (ho : PE X o td) : PC X (dinOp neg) i o (tKin X.K neg ty td) := by
  refine ⟨fun pins s σ H Q I h => ?_⟩
  refine thn (hi.run pins s σ H _ I h) fun iv s1 ⟨y, H1, I1, ry, q1⟩ => thn (ho.run pins s1 σ H1 _ I1 q1) fun u s2 ⟨x, H2, I2, rx, F, a, es, xs, ds, d, ⟨f, e, D, hm⟩, ex, r, hk, q2⟩ => ?_
  subst ex
  obtain rfl : u = Value.ref a := rx
  obtain ⟨⟨ts, rfl⟩, k1, k2⟩ := kOk_tup hk
  have ki := key_is I2 f _ _ _ r k1 ry
  obtain ⟨b, rfl⟩ : ∃ b, iv = .ref b := by cases ki; exact ⟨_, rfl⟩
  have dd := ks_at I2 f e D
  have em := atKey_mem (k := kOf (.tuple ts)) (xs := xs)
  rw [D.ks] at em
  cases neg with
  | false =>
    refine wpAny_in_heap (nk_room hu) (show (nestedKind X.prog X.w).is _ _ _ from ⟨ki, k2⟩) hm dd ?_
    rw [em]
    exact ⟨.bl _, H2, I2.tok _, rfl, by simpa using q2⟩
  | true =>
    refine wpAny_notIn_heap (nk_room hu) (show (nestedKind X.prog X.w).is _ _ _ from ⟨ki, k2⟩) hm dd ?_
    rw [em]
    exact ⟨.bl _, H2, I2.tok _, rfl, by simpa using q2⟩
theorem pe_knew : PE X (.Dict [] [] pos) tKnew := ⟨fun pins s σ H Q I h =>
  wpAny_Dict_empty ⟨.ref s.heap.objs.size, _, I.laid (a := s.heap.objs.size) (o := KsO s.heap.objs.size #[]) (t' := s.toks) (fun _ _ q => Heap.get?_push_of_some _ q) (Nat.le_refl _) (ksO_new (Heap.get?_push_size _ rfl) ⟨rfl, rfl, rfl⟩ rfl), rfl,
    h _ (I.hok.fresh (Nat.le_refl _)) (beq_eq_false_iff_ne.mpr (Ne.symm (Nat.ne_of_lt I.big)))⟩⟩
theorem ksd_new {K : PySem.W.Frag} {F : Hp} : KsD K F #[] [] [] := ⟨fun _ => rfl, rfl, .nil, fun _ h => (by cases h), .nil⟩
theorem ps_kput {b : Bool} {j : Nat} {vp : Pos} (hu : X.A.units + 64 < cLine) (ho : PE X o td) (hi : PE X i ty) (hs : swapsWith (.Constant (.bool b) j vp) (some (.Subscript o i pos')) pos.line X.env = pure false) :
    PS X (.Assign [.Subscript o i pos'] (.Constant (.bool b) j vp) pos) (sKput X.K td ty b) := by
  refine ⟨fun pins s σ H D I h => ?_⟩
  refine wpAny_Assign_Subscript (thn ((pe_bl (b := b) (j := j) (pos := vp)).run pins s σ H (fun v H1 => v = .bl b ∧ H1 = H) I ⟨rfl, rfl⟩) fun r s1 ⟨v, H1, I1, rv, e1, e2⟩ => ?_) hs
  subst e1 e2
  refine thn (ho.run pins s1 σ H1 _ I1 h) fun u s2 ⟨x, H2, I2, rx, q2⟩ => thn (hi.run pins s2 σ H2 _ I2 q2) fun iv s3 ⟨y, H3, I3, ry, F, a, es, xs, ds, d, ⟨f, e, D', hm⟩, ex, rr, hk, hl, q3⟩ => ?_
  subst ex
  obtain rfl : u = Value.ref a := rx
  obtain ⟨⟨ts, rfl⟩, k1, k2⟩ := kOk_tup hk
  have ki := key_is I3 f _ _ _ rr k1 ry
  obtain ⟨b', rfl⟩ : ∃ b, iv = .ref b := by cases ki; exact ⟨_, rfl⟩
  have ey : y = .ref b' := by cases rr with | tup _ _ _ => cases ry; rfl
  subst ey
  have dd := ks_at I3 f e D'
  have hxl : xs.length = ds.length := by have := congrArg List.length D'.ks; simpa using this
  refine wpAny_setItem_heap (hsz := by rw [hxl, sizeLine_eq]; omega) (nk_room hu) (show (nestedKind X.prog X.w).is _ _ _ from ⟨ki, k2⟩) dd fun h' dd' hs' => ?_
  obtain ⟨o', es', ep', g1, g2, g3, g4, g5, g6⟩ := dd'
  have I4 : Inv X pins σ (upd H3 a (KsO a es')) { s3 with heap := h', toks := s3.toks + (nestedKind X.prog X.w).draws (kOf (.tuple ts)) } := d_write I3 (by rw [e]; trivial) hs' ⟨o', g1⟩ (ksO_new g1 g2 g3)
  refine ⟨σ, _, I4, q3 es' (storedH xs (kOf (.tuple ts)) b' r) ?_⟩
  have em := atKey_mem (k := kOf (.tuple ts)) (xs := xs)
  rw [D'.ks] at em
  have keys : (storedH xs (kOf (.tuple ts)) b' r).map (·.1) = (ksPut ds (.tuple ts)).map kOf := by
    unfold storedH ksPut
    rw [em]
    by_cases hd : kOf (.tuple ts) ∈ ds.map kOf
    · rw [if_pos (decide_eq_true hd), if_pos hd, keys_map_putAt, D'.ks]
    · rw [if_neg (by simpa using hd), if_neg hd, List.map_append, List.map_append, D'.ks]; rfl
  have okk : ∀ d ∈ ksPut ds (.tuple ts), kOk d = true := fun d hd => by
    unfold ksPut at hd
    split at hd
    · exact D'.ok d hd
    · rcases List.mem_append.mp hd with hd | hd
      · exact D'.ok d hd
      · rw [List.mem_singleton.mp hd]; exact hk
  refine ⟨fun w => ?_, keys, ?_, okk, ?_⟩
  · rw [g4]
    refine List.map_congr_left fun q hq => ?_
    have hm2 : q.1 ∈ (ksPut ds (.tuple ts)).map kOf := by rw [← keys]; exact List.mem_map.mpr ⟨q, hq, rfl⟩
    obtain ⟨d, m, e3⟩ := List.mem_map.mp hm2
    show (⟨q.1.hash X.w, .ref q.2.1, q.2.2⟩ : DictEntry) = ⟨q.1.hash w, .ref q.2.1, q.2.2⟩
    rw [← e3, hash_pl d (kOk_tup (okk d m)).2.1 (w := X.w) (w' := w)]
  · unfold storedH ksPut
    rw [em]
    by_cases hd : kOf (.tuple ts) ∈ ds.map kOf
    · rw [if_pos (decide_eq_true hd), if_pos hd, List.map_map]
      have : ((fun q : NestedKey × Addr × Value => V.ref q.2.1) ∘ putAt (kOf (.tuple ts)) r) = fun q => V.ref q.2.1 := by
        funext q
        simp only [Function.comp]
        unfold putAt
        split <;> rfl
      rw [this]
      exact D'.ad
    · rw [if_neg (by simpa using hd), if_neg hd, List.map_append]
      exact D'.ad.append (.cons rr .nil)
  · rw [← keys]
    exact g6
end

theorem Rdv.dat {W : Wd} {F H : Hp} {v : V} {ds : List D} (r : Rdv W F H v (.tuple ds)) : Dat W.K F v (.tuple ds) := by
  rcases r with r | ⟨a, vs, ds', rfl, e, _⟩
  · exact r
  · cases e
theorem Good.updD {W : Wd} {H : Hp} {a : Addr} {vs vs' : List (Key × V)} (g : Good W H) (e : H a = some (.dK vs)) : Good W (upd H a (.dK vs')) := by
  obtain ⟨⟨⟨i, s1, gg, q1, hb⟩, ns, hs, hl⟩, t⟩ := g
  have nR : W.R ≠ a := fun z => by rw [z, e] at q1; cases q1
  refine ⟨⟨⟨i, s1, gg, by rw [upd_ne nR]; exact q1, hb⟩, ns, ?_, hl⟩, fun p hp => ?_⟩
  · rcases hs with ⟨h | ⟨o, h⟩, n⟩ | h
    · have nS : W.S ≠ a := fun z => by rw [z, e] at h; cases h
      exact .inl ⟨.inl (by rw [upd_ne nS]; exact h), n⟩
    · have nS : W.S ≠ a := fun z => by rw [z, e] at h; cases h
      exact .inl ⟨.inr ⟨o, by rw [upd_ne nS]; exact h⟩, n⟩
    · exact .inr h
  · obtain ⟨ps, t1, t2, t3⟩ := t p hp
    have n1 : p.1 ≠ a := fun z => by rw [z, e] at t1; cases t1
    refine ⟨ps, by rw [upd_ne n1]; exact t1, t2, fun pos cv h => ?_⟩
    obtain ⟨c, c1, c2⟩ := t3 pos cv h
    have n2 : c ≠ a := fun z => by rw [z, e] at c2; cases c2
    exact ⟨c, c1, by rw [upd_ne n2]; exact c2⟩
/-! ### displays -/
def tInts (ns : List Int) : TA := fun _ H Q => Q (ns.map V.int) H
def trs (kvs : List (Int × List Int)) : List (TE × TE) := kvs.map fun kv => (tC (.int kv.1), tLst (tInts kv.2))
theorem pa_intCs {X : Cx} : ∀ {ns : List Int} {xs : List Expr}, intCs ns xs = true → PA X xs (tInts ns)
  | [], [], _ => pa_nil
  | [], _ :: _, h => by cases h
  | n :: ns, [], h => by cases h
  | n :: ns, x :: xs, h => by
    cases x <;> try (cases h; done)
    rename_i k k1 k2
    cases k <;> try (cases h; done)
    rename_i k3
    have h : (decide (k3 = n) && intCs ns xs) = true := h
    simp only [Bool.and_eq_true, decide_eq_true_eq] at h
    obtain ⟨rfl, h2⟩ := h
    have ih : PA X xs (tInts ns) := pa_intCs h2
    have hh : PA X (.Constant (.int k3) k1 k2 :: xs) (tCons (tC (.int k3)) (tInts ns)) := pa_cons pe_int ih
    exact hh
theorem pps_lit {X : Cx} {p : Pos} : ∀ {kvs : List (Int × List Int)} {ks : List (Option Expr)} {vs : List Expr}, litOk kvs ks vs = true → PPs X p ks vs (trs kvs) ∧ ks.all (·.isSome) = true ∧ ks.length = kvs.length ∧ vs.length = kvs.length ∧ ∀ kv ∈ kvs, kv.2.length ≤ 1000
  | [], [], [], _ => ⟨pps_nil, rfl, rfl, rfl, fun _ h => (by cases h)⟩
  | [], [], _ :: _, h => by cases h
  | [], _ :: _, _, h => by cases h
  | kv :: r, [], _, h => by cases h
  | kv :: r, none :: _, _, h => by cases h
  | kv :: r, some k :: ks, [], h => by cases k <;> first | (cases h; done) | (rename_i c _ _; cases c <;> cases h)
  | kv :: r, some k :: ks, v :: vs, h => by
    cases k <;> try (cases h; done)
    rename_i k _ _
    cases k <;> try (cases h; done)
    cases v <;> try (cases h; done)
    rename_i j xs _
    have h : (decide (j = kv.1) && (intCs kv.2 xs && (decide (kv.2.length ≤ 1000) && litOk r ks vs))) = true := h
    simp only [Bool.and_eq_true, decide_eq_true_eq] at h
    obtain ⟨rfl, h1, h2, h3⟩ := h
    obtain ⟨i1, i2, i3, i4, i5⟩ := pps_lit (p := p) h3
    refine ⟨pps_cons pe_int (pe_lst (pa_intCs h1)) i1, by simpa using i2, by simp [i3], by simp [i4], fun q hq => ?_⟩
    rcases List.mem_cons.mp hq with rfl | hq
    · exact h2
    · exact i5 q hq
theorem pairs_lit {W : Wd} {σ : L2.St} : ∀ {kvs : List (Int × List Int)} {F H : Hp} {Q : List (V × V) → Hp → Prop}, FOk W F H → Good W H → (∀ kv ∈ kvs, kv.2.length ≤ 1000) →
    (∀ F2 H2 vs, Ext W F H F2 H2 → Dats W.K F2 vs (kvs.map fun kv => .list (kv.2.map .int)) → Q ((kvs.map fun kv => V.int kv.1).zip vs) H2) → tPairs (trs kvs) σ H Q
  | [], F, H, Q, f, g, _, h => h F H [] (.refl f g) .nil
  | kv :: r, F, H, Q, f, g, hk, h => by
    show (kv.2.map V.int).length ≤ sizeLine ∧ ∀ p, H p = none → tPairs (trs r) σ (upd H p (.lst (kv.2.map V.int))) fun ps H3 => Q ((V.int kv.1, .ref p) :: ps) H3
    have h1 := hk kv List.mem_cons_self
    refine ⟨by rw [List.length_map, sizeLine_eq]; omega, fun p hp => ?_⟩
    have e := Ext.lst (xs := kv.2.map V.int) f g hp
    refine pairs_lit e.ok e.gd (fun q hq => hk q (List.mem_cons_of_mem _ hq)) fun F2 H2 vs e2 d => ?_
    refine h F2 H2 (.ref p :: vs) (e.trans e2) (.cons (.lst (e2.sub _ _ upd_same) (Dats.ofInts _) (by rw [List.length_map]; omega)) d)
theorem merge_nd : ∀ {more acc : List (Key × V)}, ((acc ++ more).map (·.1)).Nodup → mergeK acc more = acc ++ more
  | [], acc, _ => by simp [mergeK]
  | kv :: r, acc, h => by
    have hn : valV acc kv.1 = none := by
      unfold valV
      rw [List.find?_eq_none.mpr fun x hx => ?_]
      · rfl
      · simp only [decide_eq_true_eq]
        intro z
        rw [List.map_append, List.map_cons] at h
        exact (List.nodup_append.mp h).2.2 x.1 (List.mem_map.mpr ⟨x, hx, rfl⟩) kv.1 List.mem_cons_self z
    show mergeK (putK acc kv.1 kv.2) r = _
    rw [putK_new _ hn, merge_nd (acc := acc ++ [(kv.1, kv.2)]) (by simpa using h)]
    simp
theorem zip_kV : ∀ {kvs : List (Int × List Int)} {vs : List V}, (kvs.map fun kv => V.int kv.1).zip vs = ((kvs.map fun kv => (Sum.inl kv.1 : Key)).zip vs).map fun kv => (kV kv.1, kv.2)
  | [], vs => by simp
  | kv :: r, [] => by simp
  | kv :: r, v :: vs => by simp [zip_kV (kvs := r) (vs := vs), kV]
theorem lit_find {K : PySem.W.Frag} {F : Hp} {j : Int} {ns : List Int} : ∀ {kvs : List (Int × List Int)} {vs : List V}, iAt kvs j = some ns → Dats K F vs (kvs.map fun kv => .list (kv.2.map .int)) → ∃ v, valV ((kvs.map fun kv => (Sum.inl kv.1 : Key)).zip vs) (Sum.inl j) = some v ∧ Dat K F v (.list (ns.map .int))
  | [], vs, h, _ => by cases h
  | kv :: r, vs, h, d => by
    rw [List.map_cons] at d
    cases d with
    | cons a b =>
      rename_i v vs
      unfold iAt at h
      rw [List.find?_cons] at h
      unfold valV
      rw [List.map_cons, List.zip_cons_cons, List.find?_cons]
      by_cases hj : kv.1 = j
      · subst hj
        simp only [decide_true, Option.map_some, Option.some.injEq] at h ⊢
        subst h
        exact ⟨v, rfl, a⟩
      · have hj' : ¬ (Sum.inl kv.1 : Key) = Sum.inl j := fun z => hj (Sum.inl.inj z)
        simp only [decide_eq_false hj, decide_eq_false hj'] at h ⊢
        exact lit_find (kvs := r) (vs := vs) h b
/-! ### the rules over data -/
section
variable {W : Wd} {Γ : Gam} {EX : XK} {X : Cx} {k : Nat} {N : List Str} {sc : Scope} {l : Bool}
theorem kin_imp (C : CtxOk W Γ k EX N sc l X) {neg : Bool} {i : Nat} {a : E} {σ : L2.St} {H : Hp} {Q : VK} (q : tE W Γ EX (.dx (.kin neg) i a) σ H Q) : tKin X.K neg (tR W Γ EX a) (tVar i) σ H Q := by
  obtain ⟨F, ρ, Qd, Xd, s, w, q, x⟩ := q
  refine ⟨F, ρ, _, Xd, s, w, fun d v F' H' e1 r w1 => ?_, x⟩
  obtain ⟨ds, h1, h2, h3⟩ := w1
  obtain ⟨ad, es, g1, g2, g3, g4, ⟨xs, g5⟩, g6, g7⟩ := (s.ext e1).ks h1
  obtain ⟨⟨ts, rfl⟩, _, _⟩ := kOk_tup h2
  exact ⟨_, g1, F', ad, es, xs, ds, _, ⟨e1.ok.sub, g2, C.hK ▸ g5, g6⟩, rfl, C.hK ▸ r.dat, h2, q _ _ F' H' e1 (.bl _) h3⟩
theorem s_kin (C : CtxOk W Γ k EX N sc l X) {neg : Bool} {i : Nat} {a : E} {z : Expr} {y : Str} {p pos : Pos} (ha : PE X z (tR W Γ EX a)) (hx : chkVar N sc i y = true) : PE X (.Compare z [dinOp neg] [.Name y p] pos) (tE W Γ EX (.dx (.kin neg) i a)) :=
  (pe_cmp (pc_kin C.units ha (varD (pos := p) C hx)) (by cases neg <;> rfl)).impD fun σ H Q q => kin_imp C q
theorem s_kinT (C : CtxOk W Γ k EX N sc l X) {neg : Bool} {i : Nat} {a : E} {z : Expr} {y : Str} {p pos : Pos} (ha : PE X z (tR W Γ EX a)) (hx : chkVar N sc i y = true) : PT X (.Compare z [dinOp neg] [.Name y p] pos) (tT W Γ EX (.dx (.kin neg) i a)) := by
  refine (pt_cmp (pc_kin C.units ha (varD (pos := p) C hx)) (by cases neg <;> rfl)).impD fun σ H Q q => ?_
  obtain ⟨F, ρ, Qd, Xd, s, w, q, x⟩ := q
  refine ⟨F, ρ, _, Xd, s, w, fun d v F' H' e1 r w1 => ?_, x⟩
  obtain ⟨ds, h1, h2, h3⟩ := w1
  obtain ⟨ad, es, g1, g2, g3, g4, ⟨xs, g5⟩, g6, g7⟩ := (s.ext e1).ks h1
  obtain ⟨⟨ts, rfl⟩, _, _⟩ := kOk_tup h2
  exact ⟨_, g1, F', ad, es, xs, ds, _, ⟨e1.ok.sub, g2, C.hK ▸ g5, g6⟩, rfl, C.hK ▸ r.dat, h2, _, rfl, q _ F' H' e1 h3⟩
theorem s_dcon (C : CtxOk W Γ k EX N sc l X) {i : Nat} {a : E} {z : Expr} {y : Str} {p pos : Pos} {kvs : List (Int × List Int)} (hp : plainIx z = true) (ha : PE X z (tR W Γ EX a)) (hg : chkGl sc y = true) : PE X (.Subscript (.Name y p) z pos) (tE W Γ EX (.dx (.con y kvs) i a)) := by
  obtain ⟨g, dm, _⟩ := gl_of C hg
  refine ⟨fun pins s σ H Q I q => ?_⟩
  obtain ⟨F, ρ, Qd, Xd, st, ⟨hc, w⟩, q, x⟩ := q
  obtain ⟨ad, es, n, m1, lk, ko, fa⟩ := C.dcons _ _ hc
  have hh : tR W Γ EX a σ H (fun y H2 => ∃ (j : Int) (pt : Addr), y = .int j ∧ findBy Value.isInt es j = some (.ref pt) ∧ Q (.ref pt) H2) := by
    refine ⟨F, ρ, _, Xd, st, w, fun d v F' H' e1 r w1 => ?_, x⟩
    cases d <;> try (cases w1; done)
    rename_i j
    have := r.int
    subst this
    obtain ⟨ns, h2, h3⟩ := w1
    obtain ⟨pt, f1, f2⟩ := fa j ns h2
    exact ⟨j, pt, rfl, f1, q _ _ F' H' e1 (C.hK ▸ f2 F') h3⟩
  refine subD_of PySem.F.slot_dict_getitem.lookup (fun ov iv => plain_ix hp ov iv) (thn ((pe_glob (pos := p) g m1 (v := .ref ad) rfl dm).run pins s σ H (fun v H1 => v = .ref ad ∧ H1 = H) I ⟨rfl, rfl⟩) fun u s1 ⟨v, H1, I1, rv, e1, e2⟩ => ?_)
  subst e1 e2
  obtain rfl : u = Value.ref ad := rv
  refine thn (ha.run pins s1 σ _ _ I1 hh) fun iv s2 ⟨y, H2, I2, ry, j, pt, ey, hf, q2⟩ => ?_
  subst ey
  obtain ⟨t, rfl⟩ := ry
  have mo : s2.heap.MapOf (intKind X.prog X.w) ad (findBy Value.isInt es) := ⟨_, es, n, I2.kIn ad _ lk, ⟨rfl, rfl, rfl⟩, rfl, fun e he => ko e he, fun k => rfl⟩
  exact ⟨mo.typeIs, wpAny_getItem_of (knd := intKind X.prog X.w) (show Value.isInt j (.int j t) = true by simp [Value.isInt]) mo hf ⟨.ref pt, H2, I2.tok _, rfl, q2⟩⟩
theorem s_dlit (C : CtxOk W Γ k EX N sc l X) {i : Nat} {a : E} {z : Expr} {ks : List (Option Expr)} {vs : List Expr} {p pos : Pos} {kvs : List (Int × List Int)} (hp : plainIx z = true) (ha : PE X z (tR W Γ EX a)) (hl : litOk kvs ks vs = true) (h0 : 0 < kvs.length) (h15 : kvs.length ≤ 15) (nd : (kvs.map (·.1)).Nodup) :
    PE X (.Subscript (.Dict ks vs p) z pos) (tE W Γ EX (.dx (.lit kvs) i a)) := by
  have hu : X.A.units + 1 < cLine := by have := C.units; omega
  obtain ⟨l1, l2, l3, l4, l5⟩ := pps_lit (X := X) (p := p) hl
  refine (pe_dget hu (pe_disp l1 l2 (by rw [l3, l4]) (fun z => by rw [z] at l3; simp at l3; omega) (by omega)) ha (fun ov iv => plain_ix hp ov iv)).impD fun σ H Q q => ?_
  obtain ⟨F, ρ, Qd, Xd, s, w, q, x⟩ := q
  intro pd hpd
  have e1 := Ext.new (o := .dK []) s.f s.g hpd
  refine pairs_lit e1.ok e1.gd l5 fun F2 H2 us e2 du => ?_
  have hR : pd ≠ W.R := fun z => s.g.nR (z ▸ hpd)
  have hp2 : H2 pd = some (.dK []) := e2.keep pd _ upd_same (fun ps z => by cases z) hR
  have hF2 : F2 pd = none := e2.fr pd _ (s.f.none hpd) upd_same (fun ps z => by cases z)
  have hul : us.length = kvs.length := by rw [du.length, List.length_map]
  refine ⟨hp2, (kvs.map fun kv => (Sum.inl kv.1 : Key)).zip us, zip_kV, by simp; omega, ?_⟩
  have ek : ((kvs.map fun kv => (Sum.inl kv.1 : Key)).zip us).map (·.1) = kvs.map fun kv => (Sum.inl kv.1 : Key) := by
    rw [← List.unzip_fst, List.unzip_zip_left (by simp; omega)]
  have em : mergeK [] ((kvs.map fun kv => (Sum.inl kv.1 : Key)).zip us) = (kvs.map fun kv => (Sum.inl kv.1 : Key)).zip us := by
    refine (merge_nd (acc := []) ?_).trans rfl
    rw [List.nil_append, ek]
    have : (kvs.map fun kv => (Sum.inl kv.1 : Key)) = (kvs.map (·.1)).map Sum.inl := by rw [List.map_map]; rfl
    rw [this]
    exact List.Pairwise.map _ (fun a b h z => h (Sum.inl.inj z)) nd
  rw [em]
  generalize hZ : (kvs.map fun kv => (Sum.inl kv.1 : Key)).zip us = Z at *
  have f3 : FOk W F2 (upd H2 pd (.dK Z)) := ⟨fun b o h => by
    have hb : b ≠ pd := fun z => by rw [z, hF2] at h; cases h
    rw [upd_ne hb]; exact e2.ok.sub b o h, e2.ok.imm, e2.ok.nr⟩
  have e12 := e1.trans e2
  have e3 : Ext W F H F2 (upd H2 pd (.dK Z)) := ⟨fun b o h1 h2 h3 => by
    have hb : b ≠ pd := fun z => by rw [z, hpd] at h1; cases h1
    rw [upd_ne hb]; exact e12.keep b o h1 h2 h3, e12.sub, e12.fr, f3, e2.gd.updD hp2⟩
  refine ⟨F2, ρ, _, Xd, s.ext e3, w, fun d v F' H' e4 r w1 => ?_, x.ext e3⟩
  cases d <;> try (cases w1; done)
  rename_i j
  have := r.int
  subst this
  obtain ⟨ns, h2, h3⟩ := w1
  obtain ⟨v, v1, v2⟩ := lit_find (j := j) h2 du
  rw [hZ] at v1
  have hZ' : H' pd = some (.dK Z) := e4.keep pd _ upd_same (fun ps z => by cases z) hR
  refine ⟨pd, v, rfl, ?_, q _ _ F' H' (e3.trans e4) (v2.mono e4.sub) h3⟩
  have := DGet.k (k := Sum.inl j) hZ'
  rw [v1] at this
  exact this

/-! ### a list of the def's own that is handed to _law_pick -/
def cutA (F : Hp) (a : Addr) : Hp := fun b => if b = a then none else F b
theorem cutA_ne {F : Hp} {a b : Addr} (h : b ≠ a) : cutA F a b = F b := if_neg h
theorem Ext.unfrz {W : Wd} {F H F2 H2 : Hp} {a : Addr} {vs : List V} (e : Ext W (upd F a (.lst vs)) H F2 H2) (hF : F a = none) (hR : a ≠ W.R) : Ext W F H (cutA F2 a) H2 := by
  have sub : ∀ b o, cutA F2 a b = some o → F2 b = some o := fun b o h => by
    unfold cutA at h
    split at h
    · cases h
    · exact h
  refine ⟨e.keep, fun b o h => ?_, fun b o h1 h2 h3 => ?_, ⟨fun b o h => e.ok.sub b o (sub b o h), fun b o h => e.ok.imm b o (sub b o h), ?_⟩, e.gd⟩
  · have hb : b ≠ a := fun z => by rw [z, hF] at h; cases h
    rw [cutA_ne hb]
    exact e.sub b o (by rw [upd_ne hb]; exact h)
  · by_cases hb : b = a
    · rw [hb]; exact if_pos rfl
    · rw [cutA_ne hb]
      exact e.fr b o (by rw [upd_ne hb]; exact h1) h2 h3
  · rw [cutA_ne (Ne.symm hR)]; exact e.ok.nr
mutual
theorem Dat.cut {K : PySem.W.Frag} {F : Hp} {a : Addr} {vs : List V} (h : F a = some (.lst vs)) : ∀ (d : D) (v : V), noLst d = true → Dat K F v d → Dat K (cutA F a) v d
  | .none, v, _, r => by cases r; exact .non
  | .bool _, v, _, r => by cases r; exact .bl _
  | .int _, v, _, r => by cases r; exact .int _
  | .str _, v, _, r => by cases r with | str _ k => exact .str _ k
  | .list _, v, n, r => by cases n
  | .tuple ds, v, n, r => by
    cases r with
    | tup e k z =>
      refine .tup ?_ (Dats.cut h ds _ n k) z
      rcases e with e | e
      · exact .inl (by rw [cutA_ne (fun z => by rw [z, h] at e; cases e)]; exact e)
      · exact .inr e
  | .dict _, v, n, r => by cases r
theorem Dats.cut {K : PySem.W.Frag} {F : Hp} {a : Addr} {vs : List V} (h : F a = some (.lst vs)) : ∀ (ds : List D) (us : List V), noLsts ds = true → Dats K F us ds → Dats K (cutA F a) us ds
  | [], us, _, r => by cases r; exact .nil
  | d :: ds, us, n, r => by
    have n : (noLst d && noLsts ds) = true := n
    simp only [Bool.and_eq_true] at n
    cases r with
    | cons p q => exact .cons (Dat.cut h d _ n.1 p) (Dats.cut h ds _ n.2 q)
end
theorem s_dpick (C : CtxOk W Γ k EX N sc l X) {r i : Nat} {a : E} {z y : Str} {p p1 p2 pos : Pos} (hg : chkGl sc "_law_pick" = true) (hr : chkVar N sc r z = true) (hi : chkVar N sc i y = true) : PE X (.Call (.Name "_law_pick" p) [.Name z p1, .Name y p2] [] pos) (tE W Γ EX (.dx (.pick r) i a)) := by
  obtain ⟨g1, g2, g3⟩ := gl_of C hg
  refine ⟨fun pins s σ H Q I q => ?_⟩
  obtain ⟨F, ρ, Qd, Xd, st, ⟨sg, hsg, ⟨hrow, hok⟩, xs, ho, w⟩, q, x⟩ := q
  obtain ⟨fa, fd, h1, h2, h3, h4, h5⟩ := (C.funs _ sg hsg).ex
  unfold sgOk at hok
  simp only [Bool.and_eq_true, beq_iff_eq] at hok
  have hrw : sg.row = true := hok.1
  obtain ⟨ad, vs, e1, e2, e3, e4, e5, e6⟩ := st.own ho
  have ha := pa_cons (varD (pos := p1) C hr) (pa_cons (varD (pos := p2) C hi) pa_nil (star_ok rfl [] X.env)) (star_ok rfl [.Name y p2] X.env)
  have sm : Same F (upd F ad (.lst vs)) := fun b o h => by
    have hb : b ≠ ad := fun z => by rw [z, e3] at h; cases h
    rw [upd_ne hb]; exact h
  refine (pe_call (x := "_law_pick") (p := p) (pos := pos) h3 C.room g1 h1 h2 h4 (dvs := []) .nil C.pass ha g2 (star_ok rfl [.Name y p2] X.env) (stars_plain (xs := [.Name y p2]) rfl pos X.env)).run pins s σ H Q I ?_
  refine ⟨_, st.row hrow, _, e1, ?_⟩
  refine ⟨upd F ad (.lst vs), [.list xs], [.ref ad], _, Xd, Ext.frzOwn st.f st.g e2 e4, st.g, by rw [hrw]; rfl, .cons (.lst upd_same (e5.mono sm) e6) .nil, w, fun d v F2 H2 e rd ⟨n, wd⟩ => ?_, fun n cls dd F2 H2 e ix hx => ?_⟩
  · exact q d v _ H2 (e.unfrz e3 e4) (Dat.cut (e.sub _ _ upd_same) d v n rd) wd
  · exact (x.ext (e.unfrz e3 e4)) n cls dd _ H2 (.refl (e.unfrz e3 e4).ok (e.unfrz e3 e4).gd) ix hx
end
end Dl

set_option Elab.async false
set_option linter.all false
set_option maxRecDepth 100000
set_option maxHeartbeats 8000000
/-! the data layer, part 12: targets, comprehensions, lambdas that are asked -/
namespace Dl
open PySem PySem.Spec PyProof.Rows L2

/-! ### targets -/
theorem each_plain {x : Expr} (h : isStar x = false) (es : List Expr) (env : Env) : assignEach (x :: es) env = (false, assign x env) :: assignEach es env := by
  cases x <;> first | rfl | cases h
theorem each_facts : ∀ {xs : List Expr}, noStars xs = true → ∀ env : Env, (assignEach xs env).length = xs.length ∧ (assignEach xs env).findIdx? (·.1) = none
  | [], _, env => ⟨rfl, rfl⟩
  | x :: xs, h, env => by
    unfold noStars at h
    simp only [List.all_cons, Bool.and_eq_true, Bool.not_eq_true'] at h
    obtain ⟨a, b⟩ := each_facts (xs := xs) (by unfold noStars; exact h.2) env
    rw [each_plain h.1]
    refine ⟨by simp [a], ?_⟩
    rw [List.findIdx?_cons]
    simp [b]
theorem wipe_set {x : Option V} {i : Nat} : ∀ {vs : List Nat} {σ : L2.St}, wipe (σ.set i x) vs = if i ∈ vs then wipe σ vs else (wipe σ vs).set i x
  | [], σ => by simp [wipe]
  | v :: vs, σ => by
    unfold wipe
    rw [wipe_set (vs := vs)]
    by_cases hv : i = v
    · subst hv
      rw [if_pos List.mem_cons_self]
      by_cases hm : i ∈ vs
      · rw [if_pos hm]
      · rw [if_neg hm, List.set_set]
    · by_cases hm : i ∈ vs
      · rw [if_pos hm, if_pos (List.mem_cons_of_mem _ hm)]
      · rw [if_neg hm, if_neg (fun z => (List.mem_cons.mp z).elim hv hm), List.set_comm _ _ hv]
theorem wipe_in {x : Option V} {i : Nat} {vs : List Nat} {σ : L2.St} (h : i ∈ vs) : wipe (σ.set i x) vs = wipe σ vs := by rw [wipe_set, if_pos h]
/-- only these slots changed -/
def SlotsOnly (is : List Nat) (σ σ' : L2.St) : Prop := ∀ vs : List Nat, (∀ i ∈ is, i ∈ vs) → wipe σ' vs = wipe σ vs
def gP (W : Wd) (p : Pat) : TG := fun v σ H Q => ∃ F ρ d ρ', St W F ρ σ H ∧ Dat W.K F v d ∧ bindP p d ρ = some ρ' ∧ ∀ σ', St W F ρ' σ' H → SlotsOnly p.slots σ σ' → Q σ' H
def gPs (W : Wd) (p : Pats) : TGs := fun vs σ H Q => ∃ F ρ ds ρ', St W F ρ σ H ∧ Dats W.K F vs ds ∧ bindPs p ds ρ = some ρ' ∧ ∀ σ', St W F ρ' σ' H → SlotsOnly p.slots σ σ' → Q σ' H
theorem _root_.L2.PG.impD {X : Cx} {e : Expr} {t t' : TG} (h : PG X e t) (i : ∀ v σ H Q, t' v σ H Q → t v σ H Q) : PG X e t' := ⟨fun pins s σ H v u Q I r q => h.run pins s σ H v u Q I r (i _ _ _ _ q)⟩
theorem _root_.L2.PGs.impD {X : Cx} {e : List Expr} {t t' : TGs} (h : PGs X e t) (i : ∀ v σ H Q, t' v σ H Q → t v σ H Q) : PGs X e t' := ⟨fun pins s σ H v u Q I r q => h.run pins s σ H v u Q I r (i _ _ _ _ q)⟩
section
variable {W : Wd} {X : Cx} {N : List Str} {sc : Scope} {st : Str → Bool}
mutual
theorem sndP (hK : X.K = W.K) (hN : X.N = N) (nd : N.Nodup) (hsc : X.env.scope = sc) (hc : X.calm = true) (hst : ∀ x, locB sc x = true → st x = true → X.fn x = true ∨ X.env.scope.names.lookup x = some .local) : ∀ (p : Pat) (x : Expr), chkP N sc st p x = true → PG X x (gP W p)
  | .name i n, x, h => by
    unfold chkP at h
    split at h
    · rename_i heq
      cases heq
      simp only [Bool.and_eq_true, decide_eq_true_eq] at h
      obtain ⟨⟨⟨rfl, h2⟩, h3⟩, h4⟩ := h
      refine (pg_name (i := i) (by rw [hN]; exact nd) (by rw [hN]; exact h2) (by rw [hsc]; exact loc_of h3) (hst _ h3 h4)).impD fun v σ H Q q => ?_
      obtain ⟨F, ρ, d, ρ', s, r, e, q⟩ := q
      cases e
      exact q _ (s.set i r) fun vs hv => wipe_in (hv i List.mem_cons_self)
    · exact absurd ‹Pat.name _ _ = Pat.tup _› (fun z => by cases z)
    · cases h
  | .tup ps, x, h => by
    unfold chkP at h
    split at h
    · exact absurd ‹Pat.tup _ = Pat.name _ _› (fun z => by cases z)
    · rename_i heq
      cases heq
      simp only [Bool.and_eq_true] at h
      obtain ⟨f1, f2⟩ := each_facts h.1 X.env
      refine (pg_tup hc (sndPs hK hN nd hsc hc hst ps _ h.2 h.1) f1 f2).impD fun v σ H Q q => ?_
      obtain ⟨F, ρ, d, ρ', s, r, e, q⟩ := q
      have hd : ∃ ds, d = .tuple ds ∧ bindPs ps ds ρ = some ρ' := by
        unfold bindP at e
        split at e
        · exact ⟨_, rfl, e⟩
        · cases e
      obtain ⟨ds, rfl, e⟩ := hd
      cases r with
      | tup e1 d1 z =>
        refine ⟨_, _, rfl, hK ▸ (e1.mono s.f.sub).seq, ?_, F, ρ, ds, ρ', s, d1, e, fun σ' s' o => q σ' s' o⟩
        rw [d1.length]
        exact bindPs_len ps _ h.2 ds ρ ρ' e
    · cases h
theorem sndPs (hK : X.K = W.K) (hN : X.N = N) (nd : N.Nodup) (hsc : X.env.scope = sc) (hc : X.calm = true) (hst : ∀ x, locB sc x = true → st x = true → X.fn x = true ∨ X.env.scope.names.lookup x = some .local) : ∀ (p : Pats) (xs : List Expr), chkPs N sc st p xs = true → noStars xs = true → PGs X xs (gPs W p)
  | .nil, xs, h, hs => by
    cases xs with
    | nil =>
      refine pgs_nil.impD fun v σ H Q q => ?_
      obtain ⟨F, ρ, d, ρ', s, r, e, q⟩ := q
      cases d with
      | nil => cases r; cases e; exact ⟨rfl, q σ s fun vs hv => rfl⟩
      | cons _ _ => cases e
    | cons _ _ => cases h
  | .cons p r, xs, h, hs => by
    cases xs with
    | nil => cases h
    | cons x xs =>
      unfold chkPs at h
      simp only [Bool.and_eq_true] at h
      unfold noStars at hs
      simp only [List.all_cons, Bool.and_eq_true, Bool.not_eq_true'] at hs
      refine (pgs_cons (sndP hK hN nd hsc hc hst p x h.1) (sndPs hK hN nd hsc hc hst r xs h.2 (by unfold noStars; exact hs.2)) (by rw [each_plain hs.1]; rfl)).impD fun v σ H Q q => ?_
      obtain ⟨F, ρ, ds, ρ', s, dd, e, q⟩ := q
      cases ds with
      | nil => cases e
      | cons d ds =>
        cases dd with
        | cons d1 d2 =>
          obtain ⟨ρ1, e1, e2⟩ := Option.bind_eq_some_iff.mp (show (bindP p d ρ).bind (fun ρ' => bindPs r ds ρ') = some ρ' from e)
          refine ⟨_, _, rfl, F, ρ, d, ρ1, s, d1, e1, fun σ1 s1 o1 => ⟨F, ρ1, ds, ρ', s1, d2, e2, fun σ2 s2 o2 => q σ2 s2 fun vs hv => ?_⟩⟩
          rw [o2 vs fun i hi => hv i (List.mem_append_right _ hi)]
          exact o1 vs fun i hi => hv i (List.mem_append_left _ hi)
theorem bindPs_len : ∀ (p : Pats) (xs : List Expr), chkPs N sc st p xs = true → ∀ (ds : List D) (ρ ρ' : Env1), bindPs p ds ρ = some ρ' → ds.length = xs.length
  | .nil, xs, h, ds, ρ, ρ', e => by
    cases xs with
    | nil => cases ds with
      | nil => rfl
      | cons _ _ => cases e
    | cons _ _ => cases h
  | .cons p r, xs, h, ds, ρ, ρ', e => by
    cases xs with
    | nil => cases h
    | cons x xs =>
      cases ds with
      | nil => cases e
      | cons d ds =>
        unfold chkPs at h
        simp only [Bool.and_eq_true] at h
        obtain ⟨ρ1, e1, e2⟩ := Option.bind_eq_some_iff.mp (show (bindP p d ρ).bind (fun ρ' => bindPs r ds ρ') = some ρ' from e)
        simp [bindPs_len r xs h.2 ds ρ1 ρ' e2]
end
end
end Dl

set_option Elab.async false
set_option linter.all false
set_option maxRecDepth 100000
set_option maxHeartbeats 8000000
/-! the data layer, part 13: comprehensions -/
namespace Dl
open PySem PySem.Spec PyProof.Rows L2

/-! ### a list that is being filled, seen from without -/
def rmv (H : Hp) (D : Addr) : Hp := fun b => if b = D then none else H b
theorem rmv_same {H : Hp} {D : Addr} : rmv H D D = none := by simp [rmv]
theorem rmv_ne {H : Hp} {D b : Addr} (h : b ≠ D) : rmv H D b = H b := by simp [rmv, h]
theorem upd_rmv {H : Hp} {D : Addr} {o : HO} (h : H D = some o) : upd (rmv H D) D o = H := by
  funext b
  by_cases hb : b = D
  · subst hb; rw [upd_same, h]
  · rw [upd_ne hb, rmv_ne hb]
theorem rmv_upd {H : Hp} {D : Addr} {o : HO} : rmv (upd H D o) D = rmv H D := by
  funext b
  by_cases hb : b = D
  · subst hb; rw [rmv_same, rmv_same]
  · rw [rmv_ne hb, rmv_ne hb, upd_ne hb]
theorem upd_id {H : Hp} {D : Addr} {o : HO} (h : H D = some o) : upd H D o = H := by
  funext b
  by_cases hb : b = D
  · subst hb; rw [upd_same, h]
  · rw [upd_ne hb]
theorem rmv_new {H : Hp} {D : Addr} (h : H D = none) : rmv H D = H := by
  funext b
  by_cases hb : b = D
  · subst hb; rw [rmv_same, h]
  · rw [rmv_ne hb]
section
variable {W : Wd} {F H F' H' : Hp} {D : Addr}
/-- the list D is there at H (new since G), and a step from H to H' leaves it -/
theorem Ext.del {acc : List V} {G : Hp} (f : FOk W F G) (g : Good W G) (nG : G D = none) (e : Ext W F (upd G D (.lst acc)) F' H') : Ext W F G F' (rmv H' D) ∧ H' D = some (.lst acc) ∧ rmv H' D D = none ∧ D ≠ W.R ∧ F' D = none := by
  have nR : D ≠ W.R := fun z => g.nR (z ▸ nG)
  have hD : H' D = some (.lst acc) := e.keep _ _ upd_same (fun ps z => by cases z) nR
  have fD : F' D = none := e.fr _ _ (f.none nG) upd_same (fun ps z => by cases z)
  refine ⟨⟨fun b o h1 h2 h3 => ?_, e.sub, fun b o h1 h2 h3 => ?_, ⟨fun b o h => ?_, e.ok.imm, e.ok.nr⟩, ?_⟩, hD, rmv_same, nR, fD⟩
  · have hb : b ≠ D := fun z => by rw [z, nG] at h1; cases h1
    rw [rmv_ne hb]
    exact e.keep b o (by rw [upd_ne hb]; exact h1) h2 h3
  · have hb : b ≠ D := fun z => by rw [z, nG] at h2; cases h2
    exact e.fr b o h1 (by rw [upd_ne hb]; exact h2) h3
  · have hb : b ≠ D := fun z => by rw [z, fD] at h; cases h
    rw [rmv_ne hb]
    exact e.ok.sub b o h
  · obtain ⟨⟨⟨i, s, gg, e1, hb⟩, ns, hs, hl⟩, t⟩ := e.gd
    obtain ⟨⟨_, ns0, hs0, hl0⟩, _⟩ := g
    have key : ∃ ns : List Int, SqS W.K (rmv H' D) W.S W.R (ns.map V.int) ∧ ns.length ≤ 63 ∧ ∀ z ∈ ns, Builtin.Int.intBits z ≤ 1048576 := by
      rcases hs0 with ⟨hs0, hn0⟩ | hs0
      · have nS : W.S ≠ D := fun z => by
          rcases hs0 with h | ⟨o, h⟩ <;> (rw [z, nG] at h; cases h)
        exact ⟨ns, hs.imp fun o h _ _ => by rw [rmv_ne nS]; exact h, hl⟩
      · exact ⟨ns0, .inr hs0, hl0⟩
    refine ⟨⟨⟨i, s, gg, by rw [rmv_ne (Ne.symm nR)]; exact e1, hb⟩, key⟩, fun p hp => ?_⟩
    · obtain ⟨ps, t1, t2, t3⟩ := t p hp
      have n1 : p.1 ≠ D := fun z => by rw [z, hD] at t1; cases t1
      refine ⟨ps, by rw [rmv_ne n1]; exact t1, t2, fun pos cv h => ?_⟩
      obtain ⟨c, c1, c2⟩ := t3 pos cv h
      have n2 : c ≠ D := fun z => by rw [z, hD] at c2; cases c2
      exact ⟨c, c1, by rw [rmv_ne n2]; exact c2⟩

end
/-! ### conditions of a comprehension -/
section
variable {W : Wd} {Γ : Gam} {EX : XK} {X : Cx}
def tTs (W : Wd) (Γ : Gam) (EX : XK) (cs : EL) : TT := fun σ H Q => ∃ F ρ Qd Xd, St W F ρ σ H ∧ wpTAnds Γ cs ρ Qd Xd ∧ (∀ b F' H', Ext W F H F' H' → Qd b → Q b H') ∧ XOK W EX F H Xd
theorem _root_.L2.PTs.impD {X : Cx} {e : List Expr} {t t' : TT} (h : PTs X e t) (i : ∀ σ H Q, t' σ H Q → t σ H Q) : PTs X e t' := ⟨fun pins s σ H Q I q => h.run pins s σ H Q I (i _ _ _ q)⟩
theorem ts_nil : PTs X [] (tTs W Γ EX .nil) := pts_nil.impD fun σ H Q q => by
  obtain ⟨F, ρ, Qd, Xd, s, w, q, x⟩ := q
  exact q true F H (.refl s.f s.g) w
theorem ts_one {e : E} {x : Expr} (h : PT X x (tT W Γ EX e)) : PTs X [x] (tTs W Γ EX (.cons e .nil)) := (pts_one h).impD fun σ H Q q => by
  obtain ⟨F, ρ, Qd, Xd, s, w, q, x⟩ := q
  refine ⟨F, ρ, _, Xd, s, w, fun b F' H' e1 h => ?_, x⟩
  cases b with
  | true => rw [if_pos rfl] at h; exact q _ _ _ e1 h
  | false => rw [if_neg Bool.false_ne_true] at h; exact q _ _ _ e1 h
end
/-! ### the walk -/
theorem wipe_len (σ : L2.St) (vs : List Nat) : (wipe σ vs).length = σ.length := wipe_length σ vs
theorem wipe_comm1 {σ : L2.St} (v : Nat) : ∀ vs : List Nat, wipe (σ.set v none) vs = (wipe σ vs).set v none
  | [] => rfl
  | u :: us => by
    unfold wipe
    rw [wipe_comm1 v us]
    by_cases h : u = v
    · subst h; rfl
    · rw [List.set_comm _ _ (Ne.symm h)]
theorem wipe_wipe {σ : L2.St} : ∀ vs : List Nat, wipe (wipe σ vs) vs = wipe σ vs := by
  have key : ∀ (us vs : List Nat), wipe (wipe σ us) vs = wipe σ (vs ++ us) := fun us vs => by
    induction vs with
    | nil => rfl
    | cons v vs ih => unfold wipe; rw [ih]; rfl
  intro vs
  rw [key]
  have idem : ∀ (us ws : List Nat), (∀ i ∈ us, i ∈ ws) → wipe σ (us ++ ws) = wipe σ ws := fun us ws h => by
    induction us with
    | nil => rfl
    | cons u us ih =>
      show (wipe σ (us ++ ws)).set u none = _
      rw [ih fun i hi => h i (List.mem_cons_of_mem _ hi), ← wipe_comm1, wipe_in (h u List.mem_cons_self)]
  exact idem vs vs fun _ h => h
theorem wipe_St {W : Wd} {F H : Hp} {ρ : Env1} {σ : L2.St} (s : St W F ρ σ H) (vs : List Nat) : St W F (wipeB ρ vs) (wipe σ vs) H := s.wipe vs
section
variable {W : Wd} {Γ : Gam} {EX : XK} {X : Cx} {N : List Str} {sc : Scope} {l : Bool}
def noX : XK := fun _ _ _ => False
theorem XOK.no {F H : Hp} : XOK W noX F H (fun _ => False) := fun _ _ _ _ _ _ _ z => z
theorem lc_imp {elt : E} {own : List (Str × Nat)} {tg : Pat} {it : It1} {cs : EL} (hs : ∀ i ∈ tg.slots, i ∈ own.map (·.2)) {σ : L2.St} {H : Hp} {Q : VK} (q : tZ W Γ EX (.lc elt own tg it cs) σ H Q) :
    tLc (tIt W Γ EX it) (gP W tg) (tTs W Γ noX cs) (tE W Γ noX elt) (own.map (·.2)) σ H Q := by
  obtain ⟨F, ρ, Qd, Xd, s, w, q, x⟩ := q
  refine ⟨F, ρ, _, Xd, s, w, fun items J F1 H1 e1 hJ hlen w1 => fun D nD => ?_, x⟩
  obtain ⟨G, Y, wk, hG, hY⟩ := hJ
  have s1 := s.ext e1
  let vs := own.map (·.2)
  let f : PyData → (Option PyData → Prop) → Prop := fun x k => opt (bindP tg x (wipeB ρ vs)) fun ρ' => wpTAnds Γ cs ρ' (fun b => if b = true then wpE Γ elt ρ' (fun y => k (some y)) (fun _ => False) else k none) (fun _ => False)
  refine lc_it wk (fun i Hi => ∃ Fi Gi acc ys, Hi = upd Gi D (.lst acc) ∧ Gi D = none ∧ Ext W F1 H1 Fi Gi ∧ Dats W.K Fi acc ys ∧ ys.length ≤ i ∧ wpL f (items.drop i) (fun zs => Qd (.list (ys ++ zs))))
    ⟨F1, H1, [], [], rfl, nD, .refl s1.f s1.g, .nil, Nat.le_refl _, by simpa using w1⟩ ?_ ?_ ?_
  · rintro i Hi hi ⟨Fi, Gi, acc, ys, rfl, nG, e2, dd, hl, wi⟩
    refine hG Fi _ e2.sub ⟨e2.ok.sub.trans (same_new nG), e2.ok.imm, e2.ok.nr⟩
  · rintro i xv Hi H' hi ⟨Fi, Gi, acc, ys, rfl, nG, e2, dd, hl, wi⟩ hy
    have f0 : FOk W Fi (upd Gi D (.lst acc)) := ⟨e2.ok.sub.trans (same_new nG), e2.ok.imm, e2.ok.nr⟩
    have g0 : Good W (upd Gi D (.lst acc)) := e2.gd.new nG
    obtain ⟨F2, d, e3, hd, dv⟩ := hY i Fi _ xv H' e2.sub f0 g0 hi hy
    have hdrop : items.drop i = d :: items.drop (i + 1) := by
      obtain ⟨h1, h2⟩ := List.getElem?_eq_some_iff.mp hd
      rw [List.drop_eq_getElem_cons h1, h2]
    rw [hdrop] at wi
    obtain ⟨ρ', hb, wi⟩ := wi
    have s2 : St W F2 (wipeB ρ vs) (wipe σ vs) H' := (((s1.wipe vs).ext e2).ext (Ext.new e2.ok e2.gd nG)).ext e3
    refine ⟨F2, _, d, ρ', s2, dv, hb, fun σ2 s3 o => ⟨?_, F2, ρ', _, _, s3, wi, fun b F3 H3 e4 wb => ?_, XOK.no⟩⟩
    · rw [o vs hs]
      exact wipe_wipe vs
    · have fin : ∀ {F4 H4 : Hp} {zs : List PyData} {ac : List V}, Ext W F2 H' F4 H4 → Dats W.K F4 ac zs → zs.length ≤ i + 1 → wpL f (items.drop (i + 1)) (fun us => Qd (.list (zs ++ us))) → ∃ Fi Gi acc ys, upd H4 D (.lst ac) = upd Gi D (.lst acc) ∧ Gi D = none ∧ Ext W F1 H1 Fi Gi ∧ Dats W.K Fi acc ys ∧ ys.length ≤ i + 1 ∧ wpL f (items.drop (i + 1)) (fun zs => Qd (.list (ys ++ zs))) := fun {F4 H4 zs ac} e5 d5 l5 w5 => by
        obtain ⟨a1, a2, a3, a4, a5⟩ := (e3.trans e5).del e2.ok e2.gd nG
        refine ⟨F4, rmv H4 D, ac, zs, ?_, a3, e2.trans a1, d5, l5, w5⟩
        funext b
        by_cases hb : b = D
        · subst hb; rw [upd_same, upd_same]
        · rw [upd_ne hb, upd_ne hb, rmv_ne hb]
      dsimp only
      cases b with
      | true =>
        rw [if_pos rfl] at wb ⊢
        refine ⟨F3, ρ', _, _, s3.ext e4, wb, fun y v F4 H4 e5 r w5 => ?_, XOK.no⟩
        obtain ⟨a1, a2, a3, a4, a5⟩ := (e3.trans (e4.trans e5)).del e2.ok e2.gd nG
        refine ⟨acc, a2, ?_, fin (e4.trans e5) (Dats.append ((dd.mono e3.sub).mono (e4.trans e5).sub) (.cons r .nil)) (zs := ys ++ [y]) (by simp; omega) ?_⟩
        · rw [dd.length, sizeLine_eq]; omega
        · simpa using w5
      | false =>
        rw [if_neg Bool.false_ne_true] at wb ⊢
        obtain ⟨a1, a2, a3, a4, a5⟩ := (e3.trans e4).del e2.ok e2.gd nG
        have := fin e4 ((dd.mono e3.sub).mono e4.sub) (by omega) wb
        rw [upd_id a2] at this
        exact this
  · rintro Hn ⟨Fi, Gi, acc, ys, rfl, nG, e2, dd, hl, wi⟩
    rw [List.drop_length] at wi
    have wi : Qd (.list ys) := by simpa [wpL] using wi
    exact q (.list ys) Fi Gi (e1.trans e2) wi D acc nG dd (by omega)
theorem s_lc (hc : X.calm = true) (hN : X.N.Nodup) {elt : E} {own : List (Str × Nat)} {tg : Pat} {it : It1} {cs : EL} {ex tx ix : Expr} {ifs : List Expr} {scope : Scope} {pos : Pos}
    (hi : PI X tx ix (tIt W Γ EX it)) (ok : BlkOk X.N X.env.scope scope own) (hf : isSetD ix = false) (hs : ∀ i ∈ tg.slots, i ∈ own.map (·.2))
    (hg : ∀ (s : Shared) (H : Hp) (C : Addr) (cl : List (Str × Addr)) (fp : List Addr), PG (X.blk s H scope (compEnvC scope cl C X.env) fp) tx (gP W tg))
    (ht : ∀ (s : Shared) (H : Hp) (C : Addr) (cl : List (Str × Addr)) (fp : List Addr), PTs (X.blk s H scope (compEnvC scope cl C X.env) fp) ifs (tTs W Γ noX cs))
    (he : ∀ (s : Shared) (H : Hp) (C : Addr) (cl : List (Str × Addr)) (fp : List Addr), PE (X.blk s H scope (compEnvC scope cl C X.env) fp) ex (tE W Γ noX elt)) :
    PE X (.ListComp ex [⟨tx, ix, ifs, 0⟩] scope pos) (tZ W Γ EX (.lc elt own tg it cs)) := by
  exact (pe_lc hc hN hi ok hg ht he (no_fold hf X.env)).impD fun σ H Q q => lc_imp hs q
end
end Dl

set_option Elab.async false
set_option linter.all false
set_option maxRecDepth 100000
set_option maxHeartbeats 8000000
/-! the data layer, part 44: comprehensions of three walks: one clause at a time -/
namespace Dl
open PySem PySem.Spec PyProof.Rows L2
/-- a clause behind which another comes -/
def midTurn (t0 i0 : Expr) (ifs0 : List Expr) (i1 : Expr) (LC : Expr) (k : Nat) (it acc : Value) (env : Env) : Sem Fin := do
  standAt i0.pos
  match ← pyNext it with
  | none => pure (.done .next)
  | some v =>
    letOwnedTupleGo t0 it v
    assign t0 env v
    let mut ok := true
    for c in ifs0 do
      if ok then ok ← isTrue c env (eval c env)
    if ok then
      let x ← eval i1 env
      standAt i1.pos
      let x ← foldedSetIterable i1 env x
      let _ ← runOwn (.compStart LC (k + 1) (← holding [x] (pyIter x)) acc env) env
    again (.compLoop LC k it acc env)
/-- the last clause -/
def endTurn (t0 i0 : Expr) (ifs0 : List Expr) (elt : Expr) (LC : Expr) (k : Nat) (it acc : Value) (env : Env) : Sem Fin := do
  standAt i0.pos
  match ← pyNext it with
  | none => pure (.done .next)
  | some v =>
    letOwnedTupleGo t0 it v
    assign t0 env v
    let mut ok := true
    for c in ifs0 do
      if ok then ok ← isTrue c env (eval c env)
    if ok then
      (do let _ ← call (.builtin "list.append") [acc, ← eval elt env])
    again (.compLoop LC k it acc env)
def fls : Value → Shared → Prop := fun _ _ => False
/-- behind a clause's tests: the next clause is walked -/
def runMid (prog : Program) (w : World) (A : Around) (i1 LC : Expr) (k : Nat) (acc : Value) (env : Env) (Fn : Shared → Prop) (s : Shared) : Prop :=
  wpAny (model prog w) A (eval i1 env) (fun x s4 => wpAny (model prog w) A (pyIter x) (fun it1 s5 => codeAny (model prog w) A (.compStart LC (k + 1) it1 acc env) (fun r s' => match r with
    | .ok _ => Fn s'
    | .error _ => False) s5) fls s4) fls s
/-- .. the item is appended -/
def runEnd (prog : Program) (w : World) (A : Around) (elt : Expr) (acc : Value) (env : Env) (Fn : Shared → Prop) (s : Shared) : Prop :=
  wpAny (model prog w) A (eval elt env) (fun x s4 => wpAny (model prog w) A (call (.builtin "list.append") [acc, x]) (fun _ s5 => Fn s5) fls s4) fls s
/-- a loop's rule, by what follows its tests -/
def LoopR (prog : Program) (w : World) (A : Around) (t : Expr) (ifs : List Expr) (LC : Expr) (k : Nat) (it acc : Value) (env : Env) (run : (Shared → Prop) → Shared → Prop) : Prop :=
  ∀ (R : Result → Shared → Prop) (I : Nat → Shared → Prop), (∀ n s, I n s → wpAny (model prog w) A (pyNext it) (fun r s₁ => match r with
      | none => R (.ok .next) s₁
      | some v => wpAny (model prog w) A (letOwnedTupleGo t it v) (fun _ s₁' => wpAny (model prog w) A (assign t env v) (fun _ s₂ =>
          wpAny (model prog w) A (forIn ifs true fun c r => if r = true then do let ok ← isTrue c env (eval c env); pure (ForInStep.yield ok) else pure (ForInStep.yield r)) (fun ok s₃ =>
            if ok = true then run (fun s' => ∃ m, m < n ∧ I m s') s₃ else ∃ m, m < n ∧ I m s₃) fls s₂) fls s₁') fls s₁) fls s) →
    ∀ n s, I n s → codeAny (model prog w) A (.compLoop LC k it acc env) R s
section
variable {prog : Program} {w : World} {A : Around} {t0 i0 i1 elt : Expr} {gs : List Comprehension} {scope : Scope} {pos : Pos} {ifs0 : List Expr} {k : Nat} {it acc : Value} {env : Env}
theorem loop_mid (ht : compTurn (.ListComp elt gs scope pos) k it acc env = midTurn t0 i0 ifs0 i1 (.ListComp elt gs scope pos) k it acc env) (hs : ∀ x, foldedSetIterable i1 env x = pure x) : LoopR prog w A t0 ifs0 (.ListComp elt gs scope pos) k it acc env (runMid prog w A i1 (.ListComp elt gs scope pos) k acc env) := by
  intro R I turn n s h
  refine codeAny_loop rfl I (fun n s hI => ?_) n h
  show wpAny _ A ((compTurn (.ListComp elt gs scope pos) k it acc env).onRaise (fun x => do noteFrame x env; theTreesLotGoes x)) _ _ s
  refine wpAny_noted ?_
  rw [ht]
  unfold midTurn
  refine wpAny_bind (wpAny_standAt (wpAny_bind (thnF (turn n s hI) (fun r s₁ h₁ => ?_))))
  cases r with
  | none => exact wpAny_pure h₁
  | some v =>
    refine wpAny_bind (thnF h₁ (fun _ s₁' h₁' => ?_))
    refine wpAny_bind (thnF h₁' (fun _ s₂ h₂ => wpAny_bind (thnF h₂ (fun ok s₃ h₃ => ?_))))
    cases ok with
    | false => exact wpAny_pure ⟨rfl, h₃⟩
    | true =>
      have h₃ : runMid prog w A i1 (.ListComp elt gs scope pos) k acc env (fun s' => ∃ m, m < n ∧ I m s') s₃ := h₃
      refine wpAny_bind (thnF h₃ (fun x s₄ h₄ => ?_))
      refine wpAny_bind (wpAny_standAt (wpAny_bind (wpAny_of_eq (hs x) (wpAny_bind (wpAny_holding (thnF h₄ (fun it1 s₅ h₅ => ?_)))))))
      refine wpAny_bind (wpAny_runOwn ?_)
      rw [Around.mark_none]
      refine codeAny_mono h₅ fun r s' hr => ?_
      cases r with
      | ok f =>
        first
          | exact wpAny_pure ⟨rfl, hr⟩
          | exact wpAny_bind (wpAny_pure (wpAny_pure ⟨rfl, hr⟩))
      | error e => exact hr.elim
theorem loop_end (ht : compTurn (.ListComp elt gs scope pos) k it acc env = endTurn t0 i0 ifs0 elt (.ListComp elt gs scope pos) k it acc env) : LoopR prog w A t0 ifs0 (.ListComp elt gs scope pos) k it acc env (runEnd prog w A elt acc env) := by
  intro R I turn n s h
  refine codeAny_loop rfl I (fun n s hI => ?_) n h
  show wpAny _ A ((compTurn (.ListComp elt gs scope pos) k it acc env).onRaise (fun x => do noteFrame x env; theTreesLotGoes x)) _ _ s
  refine wpAny_noted ?_
  rw [ht]
  unfold endTurn
  refine wpAny_bind (wpAny_standAt (wpAny_bind (thnF (turn n s hI) (fun r s₁ h₁ => ?_))))
  cases r with
  | none => exact wpAny_pure h₁
  | some v =>
    refine wpAny_bind (thnF h₁ (fun _ s₁' h₁' => ?_))
    refine wpAny_bind (thnF h₁' (fun _ s₂ h₂ => wpAny_bind (thnF h₂ (fun ok s₃ h₃ => ?_))))
    cases ok with
    | false => exact wpAny_pure ⟨rfl, h₃⟩
    | true =>
      have h₃ : runEnd prog w A elt acc env (fun s' => ∃ m, m < n ∧ I m s') s₃ := h₃
      exact wpAny_bind (wpAny_bind (thnF h₃ (fun x s₄ h₄ => wpAny_bind (thnF h₄ (fun _ s₅ h₅ => wpAny_pure (wpAny_pure ⟨rfl, h₅⟩))))))
/-- a clause's start -/
theorem start_ok {R : Result → Shared → Prop} {s : Shared} (hc : (clausesOf (.ListComp elt gs scope pos))[k]? = some ⟨t0, i0, ifs0, 0⟩) (h0 : codeAny (model prog w) A (.compLoop (.ListComp elt gs scope pos) k it acc env) R s)
    (h : wpAny (model prog w) A (pyIter it) (fun it' s' => codeAny (model prog w) A (.compLoop (.ListComp elt gs scope pos) k it' acc env) R s') fls s) : codeAny (model prog w) A (.compStart (.ListComp elt gs scope pos) k it acc env) R s := by
  refine codeAny_of_tree ?_
  show wpAny _ _ ((compStart (.ListComp elt gs scope pos) k it acc env).onRaise (fun x => do noteFrame x env; standAt theWindowsPlace)) _ _ s
  refine wpAny_notedAt ?_
  unfold compStart
  rw [hc]
  show wpAny _ _ (ask >>= _) _ _ s
  refine wpAny_bind (wpAny_askSetting (wpAny_ite ?_))
  split
  · first
      | exact wpAny_bind (wpAny_pure (wpAny_pure (And.intro rfl h0)))
      | exact wpAny_pure (And.intro rfl h0)
  · first
      | exact wpAny_bind (wpAny_rule (wpAny_bind (wpAny_standAt (wpAny_bind (thnF h (fun it' s' h' => wpAny_pure (And.intro rfl h')))))))
      | (refine wpAny_bind (wpAny_rule ?_); show wpAny _ _ (standAt i0.pos >>= _) _ _ s; exact wpAny_bind (wpAny_standAt (wpAny_bind (thnF h (fun it' s' h' => wpAny_pure (And.intro rfl h'))))))
end
/-! ### one clause, by what comes behind its tests -/
section
variable {Y : Cx}
/-- σ' knows what σ knows but for the names of V -/
def Know (V : List Nat) (σ σ' : L2.St) : Prop := σ.length = σ'.length ∧ ∀ (j : Nat) v, (wipe σ V)[j]? = some (some v) → σ'[j]? = some (some v)
/-- from slots and a heap that allow it, what runs ends in Fn -/
def StepOk (Y : Cx) (V : List Nat) (run : (Shared → Prop) → Shared → Prop) (nxt : L2.St → Hp → (Hp → Prop) → Prop) : Prop :=
  ∀ (pins : List (Addr × Obj)) (σ : L2.St) (s : Shared) (H : Hp) (Nx : Hp → Prop) (Fn : Shared → Prop), Inv Y pins σ H s → nxt σ H Nx → (∀ σ' s' H', Inv Y pins σ' H' s' → Know V σ σ' → Nx H' → Fn s') → run Fn s
def tEnd (te : TE) (D : Addr) : L2.St → Hp → (Hp → Prop) → Prop := fun σ H Nx => te σ H fun y H7 => ∃ acc, H7 D = some (.lst acc) ∧ acc.length < sizeLine ∧ Nx (upd H7 D (.lst (acc ++ [y])))
def tLev (wi : TI) (g : TG) (tt : TT) (vs : List Nat) (nxt : L2.St → Hp → (Hp → Prop) → Prop) : L2.St → Hp → (Hp → Prop) → Prop := fun σ H Nx => wi σ H fun J H4 => ∃ W : Nat → Nat → Hp → Prop, (∃ m, W 0 m H4) ∧ ∀ j k H, W j k H →
  (J.stop j H ∧ Nx H) ∨ (J.go j H ∧ ∃ Nx1 : Hp → Prop, (∀ H', Nx1 H' → ∃ k', k' < k ∧ W (j + 1) k' H') ∧ ∀ x H', J.yld j H x H' → g x (wipe σ vs) H' fun σ3 H5 => wipe σ3 vs = wipe σ vs ∧ tt σ3 H5 fun b H6 =>
    if b = true then nxt σ3 H6 Nx1 else Nx1 H6)
theorem step_end {elt : Expr} {te : TE} {D : Addr} (hx : Y.xe = fun _ _ => False) (pe : PE Y elt te) : StepOk Y [] (runEnd Y.prog Y.w Y.A elt (.ref D) Y.env) (tEnd te D) := by
  intro pins σ s H Nx Fn I h hf
  have := pe.run pins s σ H _ I h
  rw [hx] at this
  refine thnF this fun z s17 ⟨yv, H17, I17, r17, acc, hD17, hz17, nx⟩ => ?_
  exact app_ok I17 hD17 hz17 r17 fun s18 I18 => hf _ _ _ I18 ⟨rfl, fun j v e => e⟩ nx
theorem step_mid {elt t1 i1 : Expr} {gs : List Comprehension} {scope : Scope} {pos : Pos} {ifs1 : List Expr} {k : Nat} {acc : Value} {wi : TI} {g : TG} {tt : TT} {vs V : List Nat} {run : (Shared → Prop) → Shared → Prop} {nxt : L2.St → Hp → (Hp → Prop) → Prop}
    (hx : Y.xe = fun _ _ => False) (hc : Y.calm = true) (hcl : gs[k + 1]? = some ⟨t1, i1, ifs1, 0⟩) (pi : PI Y t1 i1 wi) (pg : PG Y t1 g) (pt : PTs Y ifs1 tt) (hV : ∀ i ∈ V, i ∈ vs)
    (hl : ∀ it, LoopR Y.prog Y.w Y.A t1 ifs1 (.ListComp elt gs scope pos) (k + 1) it acc Y.env run) (hn : StepOk Y V run nxt) :
    StepOk Y vs (runMid Y.prog Y.w Y.A i1 (.ListComp elt gs scope pos) k acc Y.env) (tLev wi g tt vs nxt) := by
  intro pins σ s H Nx Fn I h hf
  have hr := pi.run pins s σ H _ I h
  rw [hx] at hr
  refine thnF hr fun xv s10 hx1 => thnF hx1 fun itv s11 h11 => ?_
  obtain ⟨it1, fp1, tn1, J1, H11, e1, I11, T1, st11, f11, W1, ⟨m1, w1⟩, turn1⟩ := h11
  subst e1
  have stat1 : ∀ {H' : Hp}, (∀ b ∈ fp1, H' b = none) → ∀ b ∈ fp1, FpOk Y pins H' b := fun hn b hb => ⟨hn b hb, (f11 b hb).2⟩
  have loop1 : codeAny (model Y.prog Y.w) Y.A (.compLoop (.ListComp elt gs scope pos) (k + 1) (.ref it1) acc Y.env) (fun r s' => match r with
    | .ok _ => Fn s'
    | .error _ => False) s11 := by
    refine hl (.ref it1) _ (fun n s' => ∃ j H', Inv Y pins (wipe σ vs) H' s' ∧ tn1 j s'.heap ∧ (∀ b ∈ fp1, H' b = none) ∧ W1 j n H') ?_ m1 s11 ⟨0, H11, I11.weak (wipe_length _ _) (fun j v e => (wipe_some e).1), st11, fun b hb => (f11 b hb).1, w1⟩
    rintro n s12 ⟨j, H12, I12, st12, n12, w12⟩
    rcases turn1 j n H12 w12 with ⟨stop1, nx1⟩ | ⟨go1, Nx1, hNx1, step1⟩
    · refine thnF (T1.done Y rfl rfl rfl hc j _ s12 (wipe σ vs) H12 (fun _ _ => False) I12 (stat1 n12) st12 stop1) fun r s13 ⟨hr, I13⟩ => ?_
      subst hr
      exact hf _ _ _ I13 ⟨(wipe_length _ _).symm, fun j v e => e⟩ nx1
    · refine thnF (T1.item Y rfl rfl rfl hc j _ s12 (wipe σ vs) H12 (fun _ _ => False) I12 (stat1 n12) st12 go1) fun r s13 ⟨u1, hr, h13⟩ => ?_
      subst hr
      refine thnF h13 fun _ s14 ⟨x1, H14, I14, r14, y14, st14, n14⟩ => ?_
      have I14' := I14.pinned (stat1 n14) (T1.obj _ _ st14)
      have hg := pg.run _ s14 (wipe σ vs) H14 x1 u1 _ I14' r14 (step1 x1 H14 y14)
      rw [hx] at hg
      refine thnF hg fun _ s15 ⟨σ15, H15, I15, hw15, q15⟩ => ?_
      have ht := pt.run _ s15 σ15 H15 _ I15 q15
      rw [hx] at ht
      refine thnF ht fun b1 s16 ⟨H16, I16, q16⟩ => ?_
      have fin1 : ∀ {σ' : L2.St} {s' : Shared} {H' : Hp}, Inv Y (pins ++ pinsAt fp1 s14.heap) σ' H' s' → Know V σ15 σ' → Nx1 H' → ∃ m, m < n ∧ ∃ j H', Inv Y pins (wipe σ vs) H' s' ∧ tn1 j s'.heap ∧ (∀ b ∈ fp1, H' b = none) ∧ W1 j m H' := fun {σ' s' H'} I' kn nx => by
        obtain ⟨m', hm, w'⟩ := hNx1 H' nx
        have pin' : ∀ b ∈ fp1, ∀ o, s14.heap.get? b = some o → s'.heap.get? b = some o ∧ H' b = none := fun b hb o e =>
          let z := I'.pin (b, o) (List.mem_append_right _ (List.mem_append_right _ (mem_pinsAt hb e)))
          ⟨z.1, z.2.1⟩
        refine ⟨m', hm, j + 1, H', I'.unpinned.weak (by rw [← hw15, wipe_length]; exact kn.1) (fun j v e => by
          rw [← hw15] at e
          obtain ⟨e1, e2⟩ := wipe_some e
          exact kn.2 j v (by rw [wipe_out fun z => e2 (hV j z)]; exact e1)), T1.keep _ _ _ st14 fun b hb o e => (pin' b hb o e).1, fun b hb => ?_, w'⟩
        obtain ⟨o, e, _⟩ := T1.obj _ _ st14 b hb
        exact (pin' b hb o e).2
      cases b1 with
      | false =>
        simp only [Bool.false_eq_true, if_false] at q16 ⊢
        exact fin1 I16 ⟨rfl, fun j v e => (wipe_some e).1⟩ q16
      | true =>
        simp only [if_true] at q16 ⊢
        exact hn _ σ15 s16 H16 Nx1 _ I16 q16 fun σ' s' H' I' kn nx => fin1 I' kn nx
  exact start_ok hcl loop1 (T1.self Y.A 0 _ _ _ st11 loop1)
end
/-! ### the whole: the first clause's walk is the block's own -/
section
variable {X : Cx}
def tLcN (wi : TI) (g : TG) (tt : TT) (vs : List Nat) (nxt : Addr → L2.St → Hp → (Hp → Prop) → Prop) : TE := fun σ H Q => wi σ H fun J H1 => ∀ D, H1 D = none → ∃ W : Nat → Nat → Hp → Prop, (∃ m, W 0 m (upd H1 D (.lst []))) ∧ ∀ i m H, W i m H →
  (J.stop i H ∧ Q (.ref D) H) ∨ (J.go i H ∧ ∃ Nx : Hp → Prop, (∀ H', Nx H' → ∃ m', m' < m ∧ W (i + 1) m' H') ∧ ∀ x H', J.yld i H x H' → g x (wipe σ vs) H' fun σ2 H2 => wipe σ2 vs = wipe σ vs ∧ tt σ2 H2 fun b H3 =>
    if b = true then nxt D σ2 H3 Nx else Nx H3)
theorem lcN_core {pins : List (Addr × Obj)} {s : Shared} {σ : L2.St} {H : Hp} {Q : VK} {pos' : Pos} {use : Option (Value → Sem Unit)} {Qf : Value → Shared → Prop} {elt tg iter : Expr} {ifs : List Expr} {rest : List Comprehension} {scope : Scope} {own : List (Str × Nat)} {pos : Pos} {wi : TI} {g : TG} {tt : TT} {V : List Nat} {nxt : Addr → L2.St → Hp → (Hp → Prop) → Prop}
    (hc : X.calm = true) (hN : X.N.Nodup) (I : Inv X pins σ H s) (hi : PI X tg iter wi) (ok : BlkOk X.N X.env.scope scope own) (hV : ∀ i ∈ V, i ∈ own.map (·.2))
    (hg : ∀ (s : Shared) (H : Hp) (C : Addr) (cl : List (Str × Addr)) (fp : List Addr), PG (X.blk s H scope (compEnvC scope cl C X.env) fp) tg g)
    (ht : ∀ (s : Shared) (H : Hp) (C : Addr) (cl : List (Str × Addr)) (fp : List Addr), PTs (X.blk s H scope (compEnvC scope cl C X.env) fp) ifs tt)
    (hs : ∀ x, foldedSetIterable iter X.env x = pure x)
    (hb : ∀ (s : Shared) (H : Hp) (C : Addr) (cl : List (Str × Addr)) (fp : List Addr) (D : Addr), ∃ run : (Shared → Prop) → Shared → Prop, (∀ it, LoopR X.prog X.w X.A tg ifs (.ListComp elt (⟨tg, iter, ifs, 0⟩ :: rest) scope pos) 0 it (.ref D) (compEnvC scope cl C X.env) run) ∧ StepOk (X.blk s H scope (compEnvC scope cl C X.env) fp) V run (nxt D))
    (h : tLcN wi g tt (own.map (·.2)) nxt σ H Q)
    (hRR : ∀ D C s' m H', Inv X pins σ H' s' → Q (.ref D) H' → s'.heap.Ns C m → FpOk X pins H' C → compPost (model X.prog X.w) X.A X.xe use Qf (.ref D) C (.ok .next) s') :
    wpAny (model X.prog X.w) X.A (comprehension (.ListComp elt (⟨tg, iter, ifs, 0⟩ :: rest) scope pos) scope X.env pos' (newList []) false (eval iter X.env) use) Qf X.xe s := by
  have hfree : ∀ y ∈ scope.names, y.2 = .free → ∃ c, X.env.cells.lookup y.1 = some c := fun y hy e => by
    rcases ok.free y hy e with k | k
    · exact I.ok.has _ (.inl k)
    · exact I.ok.has _ (.inr k)
  refine wpAny_comprehension_free (use := use) rfl hs (closure_ok hfree) ok.kind (fun y hy e => by rw [ok.uniq y hy, e])
    (thn (hi.run pins s σ H _ I h) fun xv s1 hx => thn hx fun itv s2 h2 => ?_)
  obtain ⟨it, fp, tn, J, H2, e, I2, T, st2, f2, q⟩ := h2
  subst e
  refine wpAny_newObj_type (newEnv_comp ?_) (by show 0 ≤ sizeLine; decide)
  generalize hD : s2.heap.objs.size = D
  have hDn : H2 D = none := I2.hok.fresh (Nat.le_of_eq hD)
  obtain ⟨W, ⟨m0, w0⟩, turn⟩ := q D hDn
  generalize hs3 : ({ s2 with heap := s2.heap.push { cls := .type "list", data := .seq ([] : List Value).toArray } } : Shared) = s3
  have I3 : Inv X pins σ (upd H2 D (.lst [])) s3 := by
    rw [← hs3]
    refine I2.laid (t' := s2.toks) (fun b o e => Heap.get?_push_of_some _ e) (Nat.le_of_eq hD) ⟨Nat.zero_le _, [], 0, .nil, ?_⟩
    rw [← hD]
    exact Heap.get?_push_size _ rfl
  have h3 : s3.heap = s2.heap.push { cls := .type "list", data := .seq ([] : List Value).toArray } := by rw [← hs3]
  have sz : ∀ b ∈ fp, b < s2.heap.objs.size := fun b hb => by
    obtain ⟨o, e, _⟩ := T.obj _ _ st2 b hb
    exact Heap.lt_size e
  have f3 : ∀ b ∈ fp, FpOk X pins (upd H2 D (.lst [])) b ∧ b < s3.heap.objs.size := fun b hb => by
    have hlt := sz b hb
    refine ⟨⟨?_, (f2 b hb).2⟩, by rw [h3, Heap.size_push]; exact Nat.lt_succ_of_lt hlt⟩
    rw [upd_ne (by rw [← hD]; exact Nat.ne_of_lt hlt)]
    exact (f2 b hb).1
  have st3 : tn 0 s3.heap := T.keep _ _ _ st2 fun b _ o e => by rw [h3]; exact Heap.get?_push_of_some _ e
  have I4 := block_start I3 ok hN f3
  have pg := hg s3 (upd H2 D (.lst [])) s3.heap.objs.size (cellsFrom (s3.heap.objs.size + 1) scope.names (cloFrom X.env.cells scope.names [])) fp
  have pt := ht s3 (upd H2 D (.lst [])) s3.heap.objs.size (cellsFrom (s3.heap.objs.size + 1) scope.names (cloFrom X.env.cells scope.names [])) fp
  obtain ⟨run, hl, hn⟩ := hb s3 (upd H2 D (.lst [])) s3.heap.objs.size (cellsFrom (s3.heap.objs.size + 1) scope.names (cloFrom X.env.cells scope.names [])) fp D
  show codeAny _ _ (.compStart (.ListComp elt (⟨tg, iter, ifs, 0⟩ :: rest) scope pos) 0 (.ref it) (.ref D) (compEnvC scope (cellsFrom (s3.heap.objs.size + 1) scope.names (cloFrom X.env.cells scope.names [])) s3.heap.objs.size X.env)) _ { s3 with heap := pushCells (s3.heap.push { cls := .type "dict", data := .dict #[] }) scope.names }
  have nfp : ∀ b ∈ fp, (upd H2 D (.lst [])) b = none := fun b hb => (f3 b hb).1.1
  generalize hce : compEnvC scope (cellsFrom (s3.heap.objs.size + 1) scope.names (cloFrom X.env.cells scope.names [])) s3.heap.objs.size X.env = ce at I4 pg pt hl hn ⊢
  have cL : ce.locals = s3.heap.objs.size := by subst hce; rfl
  generalize hH3 : upd H2 D (.lst []) = H3 at I3 I4 pg pt hn w0 nfp f3
  generalize hs4 : ({ s3 with heap := pushCells (s3.heap.push { cls := .type "dict", data := .dict #[] }) scope.names } : Shared) = s4 at I4 ⊢
  have st4 : tn 0 s4.heap := T.keep _ _ _ st3 fun b _ o e => by rw [← hs4]; exact pushCells_keeps _ _ _ _ (Heap.get?_push_of_some _ e)
  have stat : ∀ {σ' : L2.St} {H' : Hp} {s' : Shared}, Inv (X.blk s3 H3 scope ce fp) [] σ' H' s' → (∀ b ∈ fp, H' b = none) → ∀ b ∈ fp, FpOk (X.blk s3 H3 scope ce fp) [] H' b := fun {σ' H' s'} I' hn b hb =>
    ⟨hn b hb, (I'.ok.exf b hb).1, I'.ok.exfs b hb, .inl hb, fun x c e => (I'.ok.exf b hb).2 x c e, fun p hp => absurd (show p ∈ ([] : List (Addr × Obj)) ++ [] from hp) (by simp)⟩
  refine (fun loop => codeAny_compStart_list loop (T.self X.A 0 _ _ _ st4 loop)) ?_
  refine hl (.ref it) _ (fun n s' => ∃ i H', Inv (X.blk s3 H3 scope ce fp) [] (wipe σ (own.map (·.2))) H' s' ∧ tn i s'.heap ∧ (∀ b ∈ fp, H' b = none) ∧ W i n H') ?_ m0 s4 ⟨0, H3, I4, st4, nfp, w0⟩
  rintro n s5 ⟨i, H5, I5, st5, n5, w5⟩
  rcases turn i n H5 w5 with ⟨stop, qq⟩ | ⟨go, Nx, hNx, step⟩
  · have td := T.done (X.blk s3 H3 scope ce fp) rfl rfl rfl hc i [] s5 _ H5 (fun _ _ => False) I5 (stat I5 n5) st5 stop
    refine thnF td fun r s6 ⟨hr, I6⟩ => ?_
    subst hr
    have I7 : Inv X pins σ H5 s6 := I3.call' (ch := fp) I6.os I6.base I6.hok I6.bare fun b hb => ⟨(f3 b hb).1.2.2.2.1, (f3 b hb).1.2.1, (f3 b hb).1.2.2.2.2.1, (f3 b hb).1.2.2.2.2.2⟩
    have nC : H5 s3.heap.objs.size = none := by
      have z : H5 ce.locals = none := I6.free
      rw [cL] at z
      exact z
    obtain ⟨m, hnm, _⟩ := I6.loc
    have hnm : s6.heap.Ns ce.locals m := hnm
    rw [cL] at hnm
    exact hRR D s3.heap.objs.size s6 m H5 I7 qq hnm (I3.fpOk (Nat.le_refl _) nC)
  · have ti := T.item (X.blk s3 H3 scope ce fp) rfl rfl rfl hc i [] s5 _ H5 (fun _ _ => False) I5 (stat I5 n5) st5 go
    refine thnF ti fun r s6 ⟨u, hr, h6⟩ => ?_
    subst hr
    refine thnF h6 fun _ s7 ⟨x, H7, I7, r7, y7, st7, n7⟩ => ?_
    have I7' := I7.pinned (stat I7 n7) (T.obj _ _ st7)
    refine thnF (pg.run _ s7 _ H7 x u _ I7' r7 (step x H7 y7)) fun _ s8 ⟨σ8, H8, I8, hw8, q8⟩ => ?_
    refine thnF (pt.run _ s8 σ8 H8 _ I8 q8) fun b s9 ⟨H9, I9, q9⟩ => ?_
    have fin : ∀ {σ9 : L2.St} {s' : Shared} {H' : Hp}, Inv (X.blk s3 H3 scope ce fp) ([] ++ pinsAt fp s7.heap) σ9 H' s' → Know V σ8 σ9 → Nx H' →
        ∃ m, m < n ∧ ∃ i H', Inv (X.blk s3 H3 scope ce fp) [] (wipe σ (own.map (·.2))) H' s' ∧ tn i s'.heap ∧ (∀ b ∈ fp, H' b = none) ∧ W i m H' := fun {σ9 s' H'} I' kn nx => by
      obtain ⟨m', hm, w'⟩ := hNx H' nx
      have pin' : ∀ b ∈ fp, ∀ o, s7.heap.get? b = some o → s'.heap.get? b = some o ∧ H' b = none := fun b hb o e =>
        let z := I'.pin (b, o) (List.mem_append_right _ (List.mem_append_right _ (mem_pinsAt hb e)))
        ⟨z.1, z.2.1⟩
      refine ⟨m', hm, i + 1, H', (I'.unpinned (pins := [])).weak (by rw [← hw8, wipe_length]; exact kn.1) (fun j v e => by
        rw [← hw8] at e
        obtain ⟨e1, e2⟩ := wipe_some e
        exact kn.2 j v (by rw [wipe_out fun z => e2 (hV j z)]; exact e1)), T.keep _ _ _ st7 fun b hb o e => (pin' b hb o e).1, fun b hb => ?_, w'⟩
      obtain ⟨o, e, _⟩ := T.obj _ _ st7 b hb
      exact (pin' b hb o e).2
    cases b with
    | false =>
      simp only [Bool.false_eq_true, if_false] at q9 ⊢
      exact fin I9 ⟨rfl, fun j v e => (wipe_some e).1⟩ q9
    | true =>
      simp only [if_true] at q9 ⊢
      exact hn _ σ8 s9 H9 Nx _ I9 q9 fun σ' s' H' I' kn nx => fin I' kn nx
theorem pe_lcN {elt tg iter : Expr} {ifs : List Expr} {rest : List Comprehension} {scope : Scope} {own : List (Str × Nat)} {pos : Pos} {wi : TI} {g : TG} {tt : TT} {V : List Nat} {nxt : Addr → L2.St → Hp → (Hp → Prop) → Prop}
    (hc : X.calm = true) (hN : X.N.Nodup) (hi : PI X tg iter wi) (ok : BlkOk X.N X.env.scope scope own) (hV : ∀ i ∈ V, i ∈ own.map (·.2))
    (hg : ∀ (s : Shared) (H : Hp) (C : Addr) (cl : List (Str × Addr)) (fp : List Addr), PG (X.blk s H scope (compEnvC scope cl C X.env) fp) tg g)
    (ht : ∀ (s : Shared) (H : Hp) (C : Addr) (cl : List (Str × Addr)) (fp : List Addr), PTs (X.blk s H scope (compEnvC scope cl C X.env) fp) ifs tt)
    (hs : ∀ x, foldedSetIterable iter X.env x = pure x)
    (hb : ∀ (s : Shared) (H : Hp) (C : Addr) (cl : List (Str × Addr)) (fp : List Addr) (D : Addr), ∃ run : (Shared → Prop) → Shared → Prop, (∀ it, LoopR X.prog X.w X.A tg ifs (.ListComp elt (⟨tg, iter, ifs, 0⟩ :: rest) scope pos) 0 it (.ref D) (compEnvC scope cl C X.env) run) ∧ StepOk (X.blk s H scope (compEnvC scope cl C X.env) fp) V run (nxt D)) :
    PE X (.ListComp elt (⟨tg, iter, ifs, 0⟩ :: rest) scope pos) (tLcN wi g tt (own.map (·.2)) nxt) := by
  refine ⟨fun pins s σ H Q I h => ?_⟩
  rw [eval_ListComp]
  refine lcN_core hc hN I hi ok hV hg ht hs hb h fun D C s' m H' I' q hn f => ⟨m, hn, fun h'' sb => ?_⟩
  obtain ⟨f0, f1, f2, f3, f4, f5⟩ := f
  exact ⟨.ref D, H', I'.turned (t' := s'.toks) (fun b o hb e => (sb.2 b hb).trans e) f0 f1 f3 f4 f5, rfl, q⟩
theorem ps_setLcN {i : Nat} {y : Str} {py spos : Pos} {elt tg iter : Expr} {ifs : List Expr} {rest : List Comprehension} {scope : Scope} {own : List (Str × Nat)} {pos : Pos} {wi : TI} {g : TG} {tt : TT} {V : List Nat} {nxt : Addr → L2.St → Hp → (Hp → Prop) → Prop}
    (hy : X.N[i]? = some y) (hyl : X.env.scope.names.lookup y = some .local) (hsw : swapsWith (.ListComp elt (⟨tg, iter, ifs, 0⟩ :: rest) scope pos) (some (.Name y py)) spos.line X.env = pure true)
    (hc : X.calm = true) (hN : X.N.Nodup) (hi : PI X tg iter wi) (ok : BlkOk X.N X.env.scope scope own) (hV : ∀ i ∈ V, i ∈ own.map (·.2))
    (hg : ∀ (s : Shared) (H : Hp) (C : Addr) (cl : List (Str × Addr)) (fp : List Addr), PG (X.blk s H scope (compEnvC scope cl C X.env) fp) tg g)
    (ht : ∀ (s : Shared) (H : Hp) (C : Addr) (cl : List (Str × Addr)) (fp : List Addr), PTs (X.blk s H scope (compEnvC scope cl C X.env) fp) ifs tt)
    (hs : ∀ x, foldedSetIterable iter X.env x = pure x)
    (hb : ∀ (s : Shared) (H : Hp) (C : Addr) (cl : List (Str × Addr)) (fp : List Addr) (D : Addr), ∃ run : (Shared → Prop) → Shared → Prop, (∀ it, LoopR X.prog X.w X.A tg ifs (.ListComp elt (⟨tg, iter, ifs, 0⟩ :: rest) scope pos) 0 it (.ref D) (compEnvC scope cl C X.env) run) ∧ StepOk (X.blk s H scope (compEnvC scope cl C X.env) fp) V run (nxt D)) :
    PS X (.Assign [.Name y py] (.ListComp elt (⟨tg, iter, ifs, 0⟩ :: rest) scope pos) spos) (tAsg (tLcN wi g tt (own.map (·.2)) nxt) (gName i)) := by
  refine ⟨fun pins s σ H D I h => ?_⟩
  rw [exec_Assign_Name_used _ _ _ _ hsw]
  refine wpAny_bind (wpAny_standAt (wpAny_bind ?_))
  have h : tLcN wi g tt (own.map (·.2)) nxt σ H (fun x H1 => gName i x σ H1 D.nx) := h
  refine wpAny_bind (thn (lcN_core (Qf := fun _ s' => SP X pins D .next s') hc hN I hi ok hV hg ht hs hb h fun L C s' m H' I' q hn f => ?_) fun _ s' hq => wpAny_pure (wpAny_pure hq))
  show wpAny _ _ (assign (.Name y py) X.env (.ref L)) _ _ _
  refine wpAny_assign_Name (store_ok2 (v := L2.V.ref L) I' hN hy (.inl hyl) rfl (fun s2 I2 ⟨a, sb, ha⟩ => ?_) (.inr hyl))
  obtain ⟨f0, f1, f2, f3, f4, f5⟩ := f
  have haC : C ≠ a := by
    rcases ha with z | z
    · rw [z]; exact f1
    · exact fun e => f4 y a z e.symm
  refine ⟨m, hn.sameBut sb haC, fun h3 sb3 => ?_⟩
  exact ⟨_, H', I2.turned (t' := s2.toks) (fun b o hb e => (sb3.2 b hb).trans e) f0 f1 f3 f4 f5, q⟩
end
end Dl

set_option Elab.async false
set_option linter.all false
set_option maxRecDepth 100000
set_option maxHeartbeats 8000000
/-! the data layer, part 14: comprehensions with a walk within -/
namespace Dl
open PySem PySem.Spec PyProof.Rows L2
/-- the list L0 (new since F1, H1) holds ys; all else as Ext says -/
def Gh (W : Wd) (F1 H1 : Hp) (L0 : Addr) (Fi Hi : Hp) (ys : List PyData) : Prop := ∃ Gi acc, Hi = upd Gi L0 (.lst acc) ∧ Gi L0 = none ∧ Ext W F1 H1 Fi Gi ∧ Dats W.K Fi acc ys
section
variable {W : Wd} {F1 H1 Fi Hi F' H' : Hp} {L0 : Addr} {ys : List PyData}
theorem Gh.start (f : FOk W F1 H1) (g : Good W H1) (n : H1 L0 = none) : Gh W F1 H1 L0 F1 (upd H1 L0 (.lst [])) [] := ⟨H1, [], rfl, n, .refl f g, .nil⟩
theorem Gh.ext (h : Gh W F1 H1 L0 Fi Hi ys) : Ext W F1 H1 Fi Hi := by
  obtain ⟨Gi, acc, rfl, n, e, d⟩ := h
  exact e.trans (Ext.new e.ok e.gd n)
theorem Gh.step (h : Gh W F1 H1 L0 Fi Hi ys) (e : Ext W Fi Hi F' H') : Gh W F1 H1 L0 F' H' ys := by
  obtain ⟨Gi, acc, rfl, n, e2, d⟩ := h
  obtain ⟨a1, a2, a3, a4, a5⟩ := e.del e2.ok e2.gd n
  exact ⟨rmv H' L0, acc, (upd_rmv a2).symm, a3, e2.trans a1, d.mono e.sub⟩
theorem Gh.app {y : PyData} {v : V} (h : Gh W F1 H1 L0 Fi Hi ys) (r : Dat W.K Fi v y) : ∃ acc, Hi L0 = some (.lst acc) ∧ acc.length = ys.length ∧ Gh W F1 H1 L0 Fi (upd Hi L0 (.lst (acc ++ [v]))) (ys ++ [y]) := by
  obtain ⟨Gi, acc, rfl, n, e2, d⟩ := h
  refine ⟨acc, upd_same, d.length, Gi, acc ++ [v], ?_, n, e2, d.append (.cons r .nil)⟩
  funext b
  by_cases hb : b = L0
  · subst hb; rw [upd_same, upd_same]
  · rw [upd_ne hb, upd_ne hb, upd_ne hb]
end
/-- a walk within a walk -/
theorem in_it {J : It} {n : Nat} {G : Hp → Prop} {Y : Nat → Hp → V → Hp → Prop} (w : Walk J n G Y) {body : V → Hp → (Hp → Prop) → Prop} {H4 : Hp} {Nx : Hp → Prop} (Pv : Nat → Hp → Prop) (h0 : Pv 0 H4) (hG : ∀ i H, i ≤ n → Pv i H → G H)
    (hs : ∀ i x H H', i < n → Pv i H → Y i H x H' → body x H' (Pv (i + 1))) (hd : ∀ H, Pv n H → Nx H) :
    ∃ W : Nat → Nat → Hp → Prop, (∃ m, W 0 m H4) ∧ ∀ i m H, W i m H → (J.stop i H ∧ Nx H) ∨ (J.go i H ∧ ∃ Nx1 : Hp → Prop, (∀ H', Nx1 H' → ∃ m', m' < m ∧ W (i + 1) m' H') ∧ ∀ x H', J.yld i H x H' → body x H' Nx1) := by
  refine ⟨fun i m H => m = n - i ∧ i ≤ n ∧ Pv i H, ⟨n, by simp, Nat.zero_le _, h0⟩, ?_⟩
  rintro i m H ⟨rfl, hi, p⟩
  have q := hG i H hi p
  by_cases hlt : i < n
  · exact .inr ⟨w.goes i H hlt q, Pv (i + 1), fun H' p' => ⟨n - (i + 1), by omega, rfl, hlt, p'⟩, fun x H' y => hs i x H H' hlt p (w.yields i H x H' hlt q y)⟩
  · have e : i = n := by omega
    subst e
    exact .inl ⟨w.stops H q, hd H p⟩
theorem drop_at {items : List PyData} {i : Nat} {d : PyData} (hd : items[i]? = some d) : items.drop i = d :: items.drop (i + 1) := by
  obtain ⟨h1, h2⟩ := List.getElem?_eq_some_iff.mp hd
  rw [List.drop_eq_getElem_cons h1, h2]
/-! ### slots that own know nothing of a new list -/
mutual
theorem bindP_own : ∀ (p : Pat) (d : PyData) (ρ ρ' : Env1), bindP p d ρ = some ρ' → ∀ (i : Nat) b, ρ'[i]? = some b → b.live = true → i ∉ p.slots ∧ ρ[i]? = some b
  | .name j x, d, ρ, ρ', e, i, xs, h, lv => by
    cases e
    by_cases hj : j = i
    · subst hj
      rw [List.getElem?_set] at h
      simp only [if_true] at h
      split at h <;> cases h
      cases lv
    · rw [List.getElem?_set_ne hj] at h
      exact ⟨by simp [Pat.slots]; exact fun z => hj z.symm, h⟩
  | .tup ps, d, ρ, ρ', e, i, xs, h, lv => by
    unfold bindP at e
    split at e
    · exact bindPs_own ps _ ρ ρ' e i xs h lv
    · cases e
theorem bindPs_own : ∀ (p : Pats) (ds : List PyData) (ρ ρ' : Env1), bindPs p ds ρ = some ρ' → ∀ (i : Nat) b, ρ'[i]? = some b → b.live = true → i ∉ p.slots ∧ ρ[i]? = some b
  | .nil, ds, ρ, ρ', e, i, xs, h, lv => by
    cases ds with
    | nil => cases e; exact ⟨by simp [Pats.slots], h⟩
    | cons _ _ => cases e
  | .cons p r, ds, ρ, ρ', e, i, xs, h, lv => by
    cases ds with
    | nil => cases e
    | cons d ds =>
      obtain ⟨ρ1, e1, e2⟩ := Option.bind_eq_some_iff.mp (show (bindP p d ρ).bind (fun ρ' => bindPs r ds ρ') = some ρ' from e)
      obtain ⟨a1, a2⟩ := bindPs_own r ds ρ1 ρ' e2 i xs h lv
      obtain ⟨b1, b2⟩ := bindP_own p d ρ ρ1 e1 i xs a2 lv
      exact ⟨by simp only [Pats.slots, List.mem_append, not_or]; exact ⟨b1, a1⟩, b2⟩
end
def NoOwn (L0 : Addr) (ρ : Env1) (σ : L2.St) : Prop := ∀ (i : Nat) b, ρ[i]? = some b → b.live = true → σ[i]? ≠ some (some (.ref L0))
theorem wipe_at {σ : L2.St} {i : Nat} : ∀ {vs : List Nat}, i ∉ vs → (wipe σ vs)[i]? = σ[i]?
  | [], _ => rfl
  | v :: vs, h => by
    unfold wipe
    have hne : v ≠ i := fun z => h (z ▸ List.mem_cons_self)
    rw [List.getElem?_set_ne hne]
    exact wipe_at fun z => h (List.mem_cons_of_mem _ z)
theorem wipeB_own {ρ : Env1} {i : Nat} {b : B} (lv : b.live = true) : ∀ {vs : List Nat}, (wipeB ρ vs)[i]? = some b → i ∉ vs ∧ ρ[i]? = some b
  | [], h => ⟨by simp, h⟩
  | v :: vs, h => by
    unfold wipeB at h
    by_cases hj : v = i
    · subst hj
      rw [List.getElem?_set] at h
      simp only [if_true] at h
      split at h <;> cases h
      cases lv
    · rw [List.getElem?_set_ne hj] at h
      obtain ⟨h1, h2⟩ := wipeB_own lv h
      exact ⟨by simp only [List.mem_cons, not_or]; exact ⟨fun z => hj z.symm, h1⟩, h2⟩
theorem NoOwn.wipe {L0 : Addr} {ρ : Env1} {σ : L2.St} (h : NoOwn L0 ρ σ) (vs : List Nat) : NoOwn L0 (wipeB ρ vs) (L2.wipe σ vs) := fun i xs e lv => by
  obtain ⟨h1, h2⟩ := wipeB_own lv e
  rw [wipe_at h1]
  exact h i xs h2 lv
theorem NoOwn.bind {L0 : Addr} {ρ ρ' : Env1} {σ σ' : L2.St} {p : Pat} {d : PyData} (h : NoOwn L0 ρ σ) (e : bindP p d ρ = some ρ') (o : SlotsOnly p.slots σ σ') : NoOwn L0 ρ' σ' := fun i xs q lv => by
  obtain ⟨h1, h2⟩ := bindP_own p d ρ ρ' e i xs q lv
  rw [← wipe_at h1, o p.slots fun _ z => z, wipe_at h1]
  exact h i xs h2 lv
theorem St.noOwn {W : Wd} {F H : Hp} {ρ : Env1} {σ : L2.St} {L0 : Addr} (s : St W F ρ σ H) (n : H L0 = none) : NoOwn L0 ρ σ := fun i xs e lv z => by
  obtain ⟨v, h1, h2⟩ := s.slot e
  obtain ⟨a, vs, rfl, h3, _⟩ := h2.live lv
  rw [h1] at z
  cases z
  rw [n] at h3; cases h3
theorem St.rmv {W : Wd} {F G : Hp} {ρ : Env1} {σ : L2.St} {L0 : Addr} {acc : List V} (s : St W F ρ σ (upd G L0 (.lst acc))) (n : NoOwn L0 ρ σ) (f : FOk W F G) (g : Good W G) : St W F ρ σ G := by
  refine ⟨f, g, s.len, fun i b v h1 h2 => ?_, s.dj⟩
  have q := s.sl i b v h1 h2
  cases b with
  | val d => exact q
  | own xs =>
    obtain ⟨a, vs, rfl, h3, h4⟩ := q
    exact ⟨a, vs, rfl, by rw [upd_ne (fun z => n i _ h1 rfl (by rw [h2, z]))] at h3; exact h3, h4⟩
  | dct xs =>
    obtain ⟨a, vs, rfl, h3, h4⟩ := q
    exact ⟨a, vs, rfl, by rw [upd_ne (fun z => n i _ h1 rfl (by rw [h2, z]))] at h3; exact h3, h4⟩
  | ks xs =>
    obtain ⟨a, vs, rfl, h3, h4⟩ := q
    exact ⟨a, vs, rfl, by rw [upd_ne (fun z => n i _ h1 rfl (by rw [h2, z]))] at h3; exact h3, h4⟩
  | row => exact q
  | bad => trivial
section
variable {W : Wd} {Γ : Gam} {EX : XK} {X : Cx} {N : List Str} {sc : Scope} {l : Bool}
theorem lc2_imp {elt : E} {own : List (Str × Nat)} {vs1 : List Nat} {tg tg1 : Pat} {it it1 : It1} {cs cs1 : EL} (hs : ∀ i ∈ tg.slots, i ∈ own.map (·.2)) (hs1 : ∀ i ∈ tg1.slots, i ∈ vs1) (hv : ∀ i ∈ vs1, i ∈ own.map (·.2)) {σ : L2.St} {H : Hp} {Q : VK} (q : tZ W Γ EX (.lc2 elt own tg it cs vs1 tg1 it1 cs1) σ H Q) :
    tLc2 (tIt W Γ EX it) (gP W tg) (tTs W Γ noX cs) (tIt W Γ noX it1) (gP W tg1) (tTs W Γ noX cs1) (tE W Γ noX elt) (own.map (·.2)) vs1 σ H Q := by
  obtain ⟨F, ρ, Qd, Xd, s, w, q, x⟩ := q
  refine ⟨F, ρ, _, Xd, s, w, fun items J F1 H1 e1 hJ hlen w1 => fun L0 nD => ?_, x⟩
  obtain ⟨G, Y, wk, hG, hY⟩ := hJ
  obtain ⟨hlen, w1⟩ := w1
  have s1 := s.ext e1
  let vs := own.map (·.2)
  let f1 : Env1 → PyData → (Option PyData → Prop) → Prop := fun ρ' x1 k1 => opt (bindP tg1 x1 (wipeB ρ' vs1)) fun ρ1 =>
        wpTAnds Γ cs1 ρ1 (fun b1 => if b1 = true then wpE Γ elt ρ1 (fun y => k1 (some y)) (fun _ => False) else k1 none) (fun _ => False)
  let f : PyData → (List PyData → Prop) → Prop := fun x k => opt (bindP tg x (wipeB ρ vs)) fun ρ' =>
      wpTAnds Γ cs ρ' (fun b => if b = true then wpI Γ it1 ρ' (fun items1 => items1.length ≤ 4096 ∧ wpL (f1 ρ') items1 k) (fun _ => False) else k []) (fun _ => False)
  refine in_it wk (fun i Hi => ∃ Fi ys, Gh W F1 H1 L0 Fi Hi ys ∧ ys.length ≤ i * 4096 ∧ wpLL f (items.drop i) (fun zs => Qd (.list (ys ++ zs)))) ?_ ?_ ?_ ?_
  · exact ⟨F1, [], Gh.start s1.f s1.g nD, Nat.zero_le _, by simpa using w1⟩
  · rintro i Hi hi ⟨Fi, ys, g, hl, wi⟩
    exact hG Fi _ g.ext.sub g.ext.ok
  · rintro i xv Hi H' hi ⟨Fi, ys, g, hl, wi⟩ hy
    obtain ⟨F2, d, e3, hd, dv⟩ := hY i Fi _ xv H' g.ext.sub g.ext.ok g.ext.gd hi hy
    rw [drop_at hd] at wi
    obtain ⟨ρ', hb, wi⟩ := wi
    have g2 := g.step e3
    have s2 : St W F2 (wipeB ρ vs) (wipe σ vs) H' := (s1.wipe vs).ext g2.ext
    refine ⟨F2, _, d, ρ', s2, dv, hb, fun σ2 s3 o => ⟨(o vs hs).trans (wipe_wipe vs), F2, ρ', _, _, s3, wi, fun b F3 H3 e4 wb => ?_, XOK.no⟩⟩
    have g3 := g2.step e4
    dsimp only
    cases b with
    | false =>
      rw [if_neg Bool.false_ne_true] at wb ⊢
      exact ⟨F3, ys, g3, by omega, by simpa using wb⟩
    | true =>
      rw [if_pos rfl] at wb ⊢
      have s4 := s3.ext e4
      refine ⟨F3, ρ', _, _, s4, wb, fun items1 J1 F4 H4 e5 hJ1 hlen1 w5 => ?_, XOK.no⟩
      obtain ⟨G1, Y1, wk1, hG1, hY1⟩ := hJ1
      obtain ⟨hlen1, w5⟩ := w5
      have s5 := s4.ext e5
      have g5 := g3.step e5
      have no5 : NoOwn L0 ρ' σ2 := ((s1.noOwn nD).wipe vs).bind hb o
      refine in_it wk1 (fun j Hj => ∃ Fj zs, (Same F4 Fj ∧ St W Fj ρ' σ2 Hj) ∧ Gh W F1 H1 L0 Fj Hj (ys ++ zs) ∧ zs.length ≤ j ∧ wpL (f1 ρ') (items1.drop j) (fun us => wpLL f (items.drop (i + 1)) (fun vs => Qd (.list (ys ++ ((zs ++ us) ++ vs)))))) ?_ ?_ ?_ ?_
      · exact ⟨F4, [], ⟨.refl _, s5⟩, by simpa using g5, Nat.le_refl _, by simpa using w5⟩
      · rintro j Hj hj ⟨Fj, zs, ej, gj, lj, wj⟩
        exact hG1 Fj _ ej.1 ej.2.f
      · rintro j x1 Hj Hj' hj ⟨Fj, zs, ej, gj, lj, wj⟩ hy1
        obtain ⟨F6, d1, e6, hd1, dv1⟩ := hY1 j Fj _ x1 Hj' ej.1 ej.2.f ej.2.g hj hy1
        rw [drop_at hd1] at wj
        obtain ⟨ρ1, hb1, wj⟩ := wj
        have s6 := (ej.2.wipe vs1).ext e6
        have g6 := gj.step e6
        refine ⟨F6, _, d1, ρ1, s6, dv1, hb1, fun σ3 s7 o1 => ⟨(o1 vs1 hs1).trans (wipe_wipe vs1), F6, ρ1, _, _, s7, wj, fun b1 F7 H7 e7 wb1 => ?_, XOK.no⟩⟩
        have g7 := g6.step e7
        dsimp only
        cases b1 with
        | false =>
          rw [if_neg Bool.false_ne_true] at wb1 ⊢
          exact ⟨F7, zs, ⟨ej.1.trans (e6.trans e7).sub, ej.2.ext (e6.trans e7)⟩, g7, by omega, wb1⟩
        | true =>
          rw [if_pos rfl] at wb1 ⊢
          refine ⟨F7, ρ1, _, _, s7.ext e7, wb1, fun y v F8 H8 e8 r w8 => ?_, XOK.no⟩
          have g8 := g7.step e8
          obtain ⟨acc, h1, h2, h3⟩ := g8.app r
          refine ⟨acc, h1, ?_, F8, zs ++ [y], ?_, by rw [← List.append_assoc]; exact h3, by simp; omega, by simpa using w8⟩
          · have : ys.length + zs.length < 16777216 := by
              have a1 : i * 4096 ≤ 4095 * 4096 := Nat.mul_le_mul_right _ (by omega)
              omega
            rw [h2, sizeLine_eq, List.length_append]; omega
          · refine ⟨ej.1.trans (e6.trans (e7.trans e8)).sub, ?_⟩
            have s8 := ej.2.ext (e6.trans (e7.trans e8))
            obtain ⟨G8, acc8, rfl, n8, x8, d8⟩ := g8
            have s9 := s8.rmv no5 x8.ok x8.gd
            have s10 := s9.ext (Ext.new (o := .lst (acc ++ [v])) x8.ok x8.gd n8)
            rw [show upd (upd G8 L0 (.lst acc8)) L0 (.lst (acc ++ [v])) = upd G8 L0 (.lst (acc ++ [v])) by
              funext b
              by_cases hb : b = L0
              · subst hb; rw [upd_same, upd_same]
              · rw [upd_ne hb, upd_ne hb, upd_ne hb]]
            exact s10
      · rintro Hn ⟨Fj, zs, ej, gj, lj, wj⟩
        rw [List.drop_length] at wj
        exact ⟨Fj, ys ++ zs, gj, by rw [List.length_append]; omega, by simpa [wpL] using wj⟩
  · rintro Hn ⟨Fi, ys, g, hl, wi⟩
    rw [List.drop_length] at wi
    have wi : Qd (.list ys) := by simpa [wpLL] using wi
    obtain ⟨Gi, acc, rfl, n, e, d⟩ := g
    have : items.length * 4096 ≤ 4096 * 4096 := Nat.mul_le_mul_right _ hlen
    exact q (.list ys) Fi Gi (e1.trans e) wi L0 acc n d (by omega)
theorem s_lc2 (hc : X.calm = true) (hN : X.N.Nodup) {elt : E} {own : List (Str × Nat)} {vs1 : List Nat} {tg tg1 : Pat} {it it1 : It1} {cs cs1 : EL} {ex tx ix tx1 ix1 : Expr} {ifs ifs1 : List Expr} {scope : Scope} {pos : Pos}
    (hi : PI X tx ix (tIt W Γ EX it)) (ok : BlkOk X.N X.env.scope scope own) (hf : isSetD ix = false) (hf1 : isSetD ix1 = false) (hs : ∀ i ∈ tg.slots, i ∈ own.map (·.2)) (hs1 : ∀ i ∈ tg1.slots, i ∈ vs1) (hv : ∀ i ∈ vs1, i ∈ own.map (·.2))
    (hg : ∀ (s : Shared) (H : Hp) (C : Addr) (cl : List (Str × Addr)) (fp : List Addr), PG (X.blk s H scope (compEnvC scope cl C X.env) fp) tx (gP W tg))
    (ht : ∀ (s : Shared) (H : Hp) (C : Addr) (cl : List (Str × Addr)) (fp : List Addr), PTs (X.blk s H scope (compEnvC scope cl C X.env) fp) ifs (tTs W Γ noX cs))
    (hi1 : ∀ (s : Shared) (H : Hp) (C : Addr) (cl : List (Str × Addr)) (fp : List Addr), PI (X.blk s H scope (compEnvC scope cl C X.env) fp) tx1 ix1 (tIt W Γ noX it1))
    (hg1 : ∀ (s : Shared) (H : Hp) (C : Addr) (cl : List (Str × Addr)) (fp : List Addr), PG (X.blk s H scope (compEnvC scope cl C X.env) fp) tx1 (gP W tg1))
    (ht1 : ∀ (s : Shared) (H : Hp) (C : Addr) (cl : List (Str × Addr)) (fp : List Addr), PTs (X.blk s H scope (compEnvC scope cl C X.env) fp) ifs1 (tTs W Γ noX cs1))
    (he : ∀ (s : Shared) (H : Hp) (C : Addr) (cl : List (Str × Addr)) (fp : List Addr), PE (X.blk s H scope (compEnvC scope cl C X.env) fp) ex (tE W Γ noX elt)) :
    PE X (.ListComp ex [⟨tx, ix, ifs, 0⟩, ⟨tx1, ix1, ifs1, 0⟩] scope pos) (tZ W Γ EX (.lc2 elt own tg it cs vs1 tg1 it1 cs1)) := by
  exact (pe_lc2 hc hN hi ok hv hg ht hi1 hg1 ht1 he (no_fold hf X.env) (fun env => no_fold hf1 env)).impD fun σ H Q q => lc2_imp hs hs1 hv q
end
end Dl

set_option Elab.async false
set_option linter.all false
set_option maxRecDepth 100000
set_option maxHeartbeats 8000000
/-! the data layer, part 45: comprehensions of three walks over data -/
namespace Dl
open PySem PySem.Spec PyProof.Rows L2
section
variable {W : Wd} {Γ : Gam} {EX : XK}
/-- all that is known stays known, but for the list that grows -/
def Kp (W : Wd) (L0 : Addr) (F H F' H' : Hp) : Prop := Same F F' ∧ ∀ (ρ : Env1) (σ : L2.St), NoOwn L0 ρ σ → St W F ρ σ H → St W F' ρ σ H'
theorem Kp.refl {L0 : Addr} {F H : Hp} : Kp W L0 F H F H := ⟨.refl _, fun _ _ _ s => s⟩
theorem Kp.trans {L0 : Addr} {F H F' H' F2 H2 : Hp} (a : Kp W L0 F H F' H') (b : Kp W L0 F' H' F2 H2) : Kp W L0 F H F2 H2 := ⟨a.1.trans b.1, fun ρ σ n s => b.2 ρ σ n (a.2 ρ σ n s)⟩
theorem Kp.ext {L0 : Addr} {F H F' H' : Hp} (e : Ext W F H F' H') : Kp W L0 F H F' H' := ⟨e.sub, fun _ _ _ s => s.ext e⟩
/-- what a step over data gives: the items it appends, at most n -/
def DStep (W : Wd) (n : Nat) (nxt : Addr → L2.St → Hp → (Hp → Prop) → Prop) (inner : Env1 → (List PyData → Prop) → Prop) : Prop :=
  ∀ (L0 : Addr) (F1 H1 F : Hp) (ρ : Env1) (σ : L2.St) (H : Hp) (ys : List PyData) (K : List PyData → Prop) (Nx : Hp → Prop), NoOwn L0 ρ σ → St W F ρ σ H → Gh W F1 H1 L0 F H ys → ys.length + n ≤ 16777216 → inner ρ K →
    (∀ F' H' zs, Kp W L0 F H F' H' → Gh W F1 H1 L0 F' H' (ys ++ zs) → zs.length ≤ n → K zs → Nx H') → nxt L0 σ H Nx
def inEnd (Γ : Gam) (elt : E) : Env1 → (List PyData → Prop) → Prop := fun ρ k => wpE Γ elt ρ (fun y => k [y]) (fun _ => False)
/-- a clause over data -/
def inLev (Γ : Gam) (vs : List Nat) (tg : Pat) (it : It1) (cs : EL) (inner : Env1 → (List PyData → Prop) → Prop) : Env1 → (List PyData → Prop) → Prop := fun ρ k =>
  wpI Γ it ρ (fun items => items.length ≤ 256 ∧ wpLL (fun x k1 => opt (bindP tg x (wipeB ρ vs)) fun ρ1 => wpTAnds Γ cs ρ1 (fun b => if b = true then inner ρ1 k1 else k1 []) (fun _ => False)) items k) (fun _ => False)
theorem Gh.app2 {F1 H1 F H : Hp} {L0 : Addr} {ys : List PyData} {y : PyData} {v : V} (g : Gh W F1 H1 L0 F H ys) (r : Dat W.K F v y) :
    ∃ acc, H L0 = some (.lst acc) ∧ acc.length = ys.length ∧ Gh W F1 H1 L0 F (upd H L0 (.lst (acc ++ [v]))) (ys ++ [y]) ∧ Kp W L0 F H F (upd H L0 (.lst (acc ++ [v]))) := by
  obtain ⟨acc, h1, h2, h3⟩ := g.app r
  refine ⟨acc, h1, h2, h3, .refl _, fun ρ σ no s => ?_⟩
  obtain ⟨G8, acc8, rfl, n8, x8, d8⟩ := g
  have s9 := s.rmv no x8.ok x8.gd
  have s10 := s9.ext (Ext.new (o := .lst (acc ++ [v])) x8.ok x8.gd n8)
  rw [show upd (upd G8 L0 (.lst acc8)) L0 (.lst (acc ++ [v])) = upd G8 L0 (.lst (acc ++ [v])) by
    funext b
    by_cases hb : b = L0
    · subst hb; rw [upd_same, upd_same]
    · rw [upd_ne hb, upd_ne hb, upd_ne hb]]
  exact s10
theorem dstep_end {elt : E} : DStep W 1 (fun D => tEnd (tE W Γ noX elt) D) (inEnd Γ elt) := by
  intro L0 F1 H1 F ρ σ H ys K Nx no s g hl w hx
  refine ⟨F, ρ, _, _, s, w, fun y v F8 H8 e8 r w8 => ?_, XOK.no⟩
  have g8 := g.step e8
  obtain ⟨acc, h1, h2, h3, h4⟩ := g8.app2 r
  refine ⟨acc, h1, ?_, hx F8 _ [y] ((Kp.ext e8).trans h4) h3 (Nat.le_refl _) w8⟩
  rw [h2, sizeLine_eq]; omega
theorem dstep_lev {n : Nat} {vs : List Nat} {tg : Pat} {it : It1} {cs : EL} {nxt : Addr → L2.St → Hp → (Hp → Prop) → Prop} {inner : Env1 → (List PyData → Prop) → Prop} (hs : ∀ i ∈ tg.slots, i ∈ vs) (hn : 0 < n) (d : DStep W n nxt inner) :
    DStep W (256 * n) (fun D => tLev (tIt W Γ noX it) (gP W tg) (tTs W Γ noX cs) vs (nxt D)) (inLev Γ vs tg it cs inner) := by
  intro L0 F1 H1 F ρ σ H ys K Nx no s g hl w hx
  refine ⟨F, ρ, _, _, s, w, fun items J F4 H4 e5 hJ hlen w5 => ?_, XOK.no⟩
  obtain ⟨G, Y, wk, hG, hY⟩ := hJ
  obtain ⟨hlen, w5⟩ := w5
  have s5 := s.ext e5
  have g5 := g.step e5
  let f : PyData → (List PyData → Prop) → Prop := fun x k1 => opt (bindP tg x (wipeB ρ vs)) fun ρ1 => wpTAnds Γ cs ρ1 (fun b => if b = true then inner ρ1 k1 else k1 []) (fun _ => False)
  refine in_it wk (fun j Hj => ∃ Fj zs, Kp W L0 F4 H4 Fj Hj ∧ Gh W F1 H1 L0 Fj Hj (ys ++ zs) ∧ zs.length ≤ j * n ∧ wpLL f (items.drop j) (fun us => K (zs ++ us))) ?_ ?_ ?_ ?_
  · exact ⟨F4, [], .refl, by simpa using g5, Nat.zero_le _, by simpa using w5⟩
  · rintro j Hj hj ⟨Fj, zs, ej, gj, lj, wj⟩
    exact hG Fj _ ej.1 (ej.2 ρ σ no s5).f
  · rintro j x1 Hj Hj' hj ⟨Fj, zs, ej, gj, lj, wj⟩ hy1
    have sj := ej.2 ρ σ no s5
    obtain ⟨F6, d1, e6, hd1, dv1⟩ := hY j Fj _ x1 Hj' ej.1 sj.f sj.g hj hy1
    rw [drop_at hd1] at wj
    obtain ⟨ρ1, hb1, wj⟩ := wj
    have s6 := (sj.wipe vs).ext e6
    have g6 := gj.step e6
    have hjn : j * n + n ≤ 256 * n := by
      rw [← Nat.succ_mul]
      exact Nat.mul_le_mul_right _ (by omega)
    refine ⟨F6, _, d1, ρ1, s6, dv1, hb1, fun σ3 s7 o1 => ⟨(o1 vs hs).trans (wipe_wipe vs), F6, ρ1, _, _, s7, wj, fun b1 F7 H7 e7 wb1 => ?_, XOK.no⟩⟩
    have g7 := g6.step e7
    dsimp only
    cases b1 with
    | false =>
      rw [if_neg Bool.false_ne_true] at wb1 ⊢
      refine ⟨F7, zs, ej.trans (.ext (e6.trans e7)), g7, ?_, by simpa using wb1⟩
      rw [Nat.succ_mul]; omega
    | true =>
      rw [if_pos rfl] at wb1 ⊢
      have no3 : NoOwn L0 ρ1 σ3 := (no.wipe vs).bind hb1 o1
      have s8 := s7.ext e7
      refine d L0 F1 H1 F7 ρ1 σ3 H7 (ys ++ zs) _ _ no3 s8 g7 (by rw [List.length_append]; omega) wb1 fun F' H' us kp gh lu ku => ?_
      refine ⟨F', zs ++ us, (ej.trans (.ext (e6.trans e7))).trans kp, by rw [← List.append_assoc]; exact gh, ?_, ?_⟩
      · rw [List.length_append, Nat.succ_mul]; omega
      · simpa using ku
  · rintro Hn ⟨Fj, zs, ej, gj, lj, wj⟩
    rw [List.drop_length] at wj
    have wj : K zs := by simpa [wpLL] using wj
    refine hx Fj Hn zs ((Kp.ext e5).trans ej) gj ?_ wj
    exact Nat.le_trans lj (Nat.mul_le_mul_right _ hlen)
theorem lcN_imp {n : Nat} {vs : List Nat} {tg : Pat} {it : It1} {cs : EL} {nxt : Addr → L2.St → Hp → (Hp → Prop) → Prop} {inner : Env1 → (List PyData → Prop) → Prop} (hs : ∀ i ∈ tg.slots, i ∈ vs) (hn : n ≤ 65536) (d : DStep W n nxt inner) {σ : L2.St} {H : Hp} {Q : VK}
    (q : ∃ (F : Hp) (ρ : Env1) (Qd : PyData → Prop) (Xd : Str → Prop), St W F ρ σ H ∧ wpI Γ it ρ (fun items => items.length ≤ 255 ∧ wpLL (fun x k => opt (bindP tg x (wipeB ρ vs)) fun ρ' => wpTAnds Γ cs ρ' (fun b => if b = true then inner ρ' k else k []) (fun _ => False)) items fun ys => Qd (.list ys)) Xd ∧ (∀ d F' H', Ext W F H F' H' → Qd d → Res W F' H' d Q) ∧ XOK W EX F H Xd) :
    tLcN (tIt W Γ EX it) (gP W tg) (tTs W Γ noX cs) vs nxt σ H Q := by
  obtain ⟨F, ρ, Qd, Xd, s, w, q, x⟩ := q
  refine ⟨F, ρ, _, Xd, s, w, fun items J F1 H1 e1 hJ hlen w1 => fun L0 nD => ?_, x⟩
  obtain ⟨G, Y, wk, hG, hY⟩ := hJ
  obtain ⟨hlen, w1⟩ := w1
  have s1 := s.ext e1
  have no := s1.noOwn nD
  let f : PyData → (List PyData → Prop) → Prop := fun x k => opt (bindP tg x (wipeB ρ vs)) fun ρ' => wpTAnds Γ cs ρ' (fun b => if b = true then inner ρ' k else k []) (fun _ => False)
  refine in_it wk (fun i Hi => ∃ Fi ys, Gh W F1 H1 L0 Fi Hi ys ∧ ys.length ≤ i * 65536 ∧ wpLL f (items.drop i) (fun zs => Qd (.list (ys ++ zs)))) ?_ ?_ ?_ ?_
  · exact ⟨F1, [], Gh.start s1.f s1.g nD, Nat.zero_le _, by simpa using w1⟩
  · rintro i Hi hi ⟨Fi, ys, g, hl, wi⟩
    exact hG Fi _ g.ext.sub g.ext.ok
  · rintro i xv Hi H' hi ⟨Fi, ys, g, hl, wi⟩ hy
    obtain ⟨F2, d2, e3, hd, dv⟩ := hY i Fi _ xv H' g.ext.sub g.ext.ok g.ext.gd hi hy
    rw [drop_at hd] at wi
    obtain ⟨ρ', hb, wi⟩ := wi
    have g2 := g.step e3
    have s2 : St W F2 (wipeB ρ vs) (wipe σ vs) H' := (s1.wipe vs).ext g2.ext
    have hin2 : ys.length + n ≤ 16777216 := by
      have : i * 65536 ≤ 254 * 65536 := Nat.mul_le_mul_right _ (by omega)
      omega
    refine ⟨F2, _, d2, ρ', s2, dv, hb, fun σ2 s3 o => ⟨(o vs hs).trans (wipe_wipe vs), F2, ρ', _, _, s3, wi, fun b F3 H3 e4 wb => ?_, XOK.no⟩⟩
    have g3 := g2.step e4
    dsimp only
    cases b with
    | false =>
      rw [if_neg Bool.false_ne_true] at wb ⊢
      exact ⟨F3, ys, g3, Nat.le_trans hl (Nat.mul_le_mul_right _ (Nat.le_succ i)), by simpa using wb⟩
    | true =>
      rw [if_pos rfl] at wb ⊢
      have no3 : NoOwn L0 ρ' σ2 := (no.wipe vs).bind hb o
      refine d L0 F1 H1 F3 ρ' σ2 H3 ys _ _ no3 (s3.ext e4) g3 hin2 wb fun F' H' us kp gh lu ku => ?_
      refine ⟨F', ys ++ us, gh, ?_, by simpa using ku⟩
      rw [List.length_append, Nat.succ_mul]
      exact Nat.add_le_add hl (Nat.le_trans lu hn)
  · rintro Hn ⟨Fi, ys, g, hl, wi⟩
    rw [List.drop_length] at wi
    have wi : Qd (.list ys) := by simpa [wpLL] using wi
    obtain ⟨Gi, acc, rfl, nn, e, dd⟩ := g
    have : items.length * 65536 ≤ 16711680 := by omega
    exact q (.list ys) Fi Gi (e1.trans e) wi L0 acc nn dd (by omega)
/-- the third and the second walk, and the item -/
def nx3 (W : Wd) (Γ : Gam) (elt : E) (vs1 : List Nat) (tg1 : Pat) (it1 : It1) (cs1 : EL) (vs2 : List Nat) (tg2 : Pat) (it2 : It1) (cs2 : EL) : Addr → L2.St → Hp → (Hp → Prop) → Prop := fun D =>
  tLev (tIt W Γ noX it1) (gP W tg1) (tTs W Γ noX cs1) vs1 (tLev (tIt W Γ noX it2) (gP W tg2) (tTs W Γ noX cs2) vs2 (tEnd (tE W Γ noX elt) D))
theorem lc3_imp {elt : E} {own : List (Str × Nat)} {vs1 vs2 : List Nat} {tg tg1 tg2 : Pat} {it it1 it2 : It1} {cs cs1 cs2 : EL} (hs : ∀ i ∈ tg.slots, i ∈ own.map (·.2)) (hs1 : ∀ i ∈ tg1.slots, i ∈ vs1) (hs2 : ∀ i ∈ tg2.slots, i ∈ vs2) {σ : L2.St} {H : Hp} {Q : VK} (q : tZ W Γ EX (.lc3 elt own tg it cs vs1 tg1 it1 cs1 vs2 tg2 it2 cs2) σ H Q) :
    tLcN (tIt W Γ EX it) (gP W tg) (tTs W Γ noX cs) (own.map (·.2)) (nx3 W Γ elt vs1 tg1 it1 cs1 vs2 tg2 it2 cs2) σ H Q :=
  lcN_imp (n := 65536) (inner := inLev Γ vs1 tg1 it1 cs1 (inLev Γ vs2 tg2 it2 cs2 (inEnd Γ elt))) hs (Nat.le_refl _) (dstep_lev (n := 256) hs1 (by decide) (dstep_lev (n := 1) hs2 (by decide) dstep_end)) q
section
variable {X : Cx} {elt : E} {own : List (Str × Nat)} {vs1 vs2 : List Nat} {tg tg1 tg2 : Pat} {it it1 it2 : It1} {cs cs1 cs2 : EL} {ex tx ix tx1 ix1 tx2 ix2 : Expr} {ifs ifs1 ifs2 : List Expr} {scope : Scope} {pos : Pos}
theorem hb3 (hc : X.calm = true) (hf1 : isSetD ix1 = false) (hf2 : isSetD ix2 = false) (hv2 : ∀ i ∈ vs2, i ∈ vs1)
    (hi1 : ∀ (s : Shared) (H : Hp) (C : Addr) (cl : List (Str × Addr)) (fp : List Addr), PI (X.blk s H scope (compEnvC scope cl C X.env) fp) tx1 ix1 (tIt W Γ noX it1))
    (hg1 : ∀ (s : Shared) (H : Hp) (C : Addr) (cl : List (Str × Addr)) (fp : List Addr), PG (X.blk s H scope (compEnvC scope cl C X.env) fp) tx1 (gP W tg1))
    (ht1 : ∀ (s : Shared) (H : Hp) (C : Addr) (cl : List (Str × Addr)) (fp : List Addr), PTs (X.blk s H scope (compEnvC scope cl C X.env) fp) ifs1 (tTs W Γ noX cs1))
    (hi2 : ∀ (s : Shared) (H : Hp) (C : Addr) (cl : List (Str × Addr)) (fp : List Addr), PI (X.blk s H scope (compEnvC scope cl C X.env) fp) tx2 ix2 (tIt W Γ noX it2))
    (hg2 : ∀ (s : Shared) (H : Hp) (C : Addr) (cl : List (Str × Addr)) (fp : List Addr), PG (X.blk s H scope (compEnvC scope cl C X.env) fp) tx2 (gP W tg2))
    (ht2 : ∀ (s : Shared) (H : Hp) (C : Addr) (cl : List (Str × Addr)) (fp : List Addr), PTs (X.blk s H scope (compEnvC scope cl C X.env) fp) ifs2 (tTs W Γ noX cs2))
    (he : ∀ (s : Shared) (H : Hp) (C : Addr) (cl : List (Str × Addr)) (fp : List Addr), PE (X.blk s H scope (compEnvC scope cl C X.env) fp) ex (tE W Γ noX elt)) :
    ∀ (s : Shared) (H : Hp) (C : Addr) (cl : List (Str × Addr)) (fp : List Addr) (D : Addr), ∃ run : (Shared → Prop) → Shared → Prop, (∀ itv, LoopR X.prog X.w X.A tx ifs (.ListComp ex [⟨tx, ix, ifs, 0⟩, ⟨tx1, ix1, ifs1, 0⟩, ⟨tx2, ix2, ifs2, 0⟩] scope pos) 0 itv (.ref D) (compEnvC scope cl C X.env) run) ∧
      StepOk (X.blk s H scope (compEnvC scope cl C X.env) fp) vs1 run (nx3 W Γ elt vs1 tg1 it1 cs1 vs2 tg2 it2 cs2 D) := fun s H C cl fp D =>
  ⟨runMid X.prog X.w X.A ix1 (.ListComp ex [⟨tx, ix, ifs, 0⟩, ⟨tx1, ix1, ifs1, 0⟩, ⟨tx2, ix2, ifs2, 0⟩] scope pos) 0 (.ref D) (compEnvC scope cl C X.env), fun itv => loop_mid rfl (no_fold hf1 _),
    step_mid (Y := X.blk s H scope (compEnvC scope cl C X.env) fp) (k := 0) rfl hc rfl (hi1 s H C cl fp) (hg1 s H C cl fp) (ht1 s H C cl fp) hv2 (fun itv => loop_mid rfl (no_fold hf2 _))
      (step_mid (Y := X.blk s H scope (compEnvC scope cl C X.env) fp) (k := 1) (V := []) rfl hc rfl (hi2 s H C cl fp) (hg2 s H C cl fp) (ht2 s H C cl fp) (fun i h => by cases h) (fun itv => loop_end rfl) (step_end rfl (he s H C cl fp)))⟩
end
end
end Dl

set_option Elab.async false
set_option linter.all false
set_option maxRecDepth 100000
set_option maxHeartbeats 8000000
/-! the data layer, part 15: contexts of comprehensions, of lambdas; a lambda that is told -/
namespace Dl
open PySem PySem.Spec PyProof.Rows L2
section
variable {W : Wd} {Γ : Gam} {EX : XK} {X : Cx} {k : Nat} {N : List Str} {sc : Scope} {l : Bool}
theorem passNo {X : Cx} : Passes (L2.CX X.prog X.w) X noX := fun _ _ _ _ _ _ _ h => by
  obtain ⟨_, _, _, _, _, _, _, _, _, _, _, _, z⟩ := h
  exact z.elim
theorem CtxOk.blk (C : CtxOk W Γ k EX N sc l X) (s : Shared) (H : Hp) {scope : Scope} (cl : List (Str × Addr)) (L : Addr) (fp : List Addr) : CtxOk W Γ k noX N (relS scope sc) false (X.blk s H scope (compEnvC scope cl L X.env) fp) where
  hK := C.hK
  hmg := C.hmg
  hN := C.hN
  nd := C.nd
  hsc := by
    have := C.hsc
    subst this
    rfl
  calm := C.calm
  room := C.room
  roomL := fun h => by cases h
  pass := passNo
  funs := C.funs
  cons := C.cons
  blt := C.blt
  dcons := C.dcons
  lam := fun h => by cases h
theorem CtxOk.lamB (C : CtxOk W Γ k EX N sc l X) {A : Around} {outer : List Env} {s : Shared} {H : Hp} {E : XK} {scope : Scope} {f c' : Addr} (hr : Room k (A.deeper (LamX.lamEnv X scope s.heap.objs.size f c'))) : CtxOk W Γ k E N scope false (LamX.lamCx X A outer s H E scope f c') where
  hK := C.hK
  hmg := C.hmg
  hN := C.hN
  nd := C.nd
  hsc := rfl
  calm := rfl
  room := hr
  roomL := fun h => by cases h
  pass := passes_call (W := fun cls d _ H => E cls d H) (takes_of rfl rfl rfl rfl) (fun _ _ _ _ h => h)
  funs := C.funs
  cons := C.cons
  blt := C.blt
  dcons := C.dcons
  lam := fun h => by cases h
theorem Ext.tabs {F H H1 : Hp} (f : FOk W F H) (g : Good W H) (e : LamX.ExtN H H1) (t : LamX.Tabs W.T H1) : Ext W F H F H1 := by
  have f1 : FOk W F H1 := ⟨fun b o q => e b o (f.sub b o q) (fun ps z => by rcases f.imm b o q with ⟨xs, h⟩ | ⟨xs, h⟩ <;> (rw [h] at z; cases z)), f.imm, f.nr⟩
  refine ⟨fun b o h n _ => e b o h n, Same.refl _, fun b o h _ _ => h, f1, ?_, t⟩
  obtain ⟨⟨⟨i, s, gg, e1, hb⟩, ns, hs, hl⟩, _⟩ := g
  exact ⟨⟨i, s, gg, e _ _ e1 (fun ps z => by cases z), hb⟩, ns, hs.imp fun o h n _ => e _ _ h n, hl⟩
theorem emptyOk : PyData.strOk "" = true := by decide +kernel
theorem s_told (C : CtxOk W Γ k EX N sc true X) {e : E} {f : Str} {params : Arguments} {body : Expr} {scope : Scope} {p lpos pos : Pos} (hf : f = "_law_refused") (hg : chkGl sc f = true) (hL : LamX.lamSB sc scope = true) (hp : noParams params = true)
    (hbody : ∀ (A : Around) (outer : List Env) (s : Shared) (H : Hp) (E : XK) (f c' : Addr), Room k (A.deeper (LamX.lamEnv X scope s.heap.objs.size f c')) → PE (LamX.lamCx X A outer s H E scope f c') body (tE W Γ E e)) :
    PE X (.Call (.Name f p) [.Lambda params body scope lpos] [] pos) (tE W Γ EX (.told e)) := by
  obtain ⟨g1, g2, g3⟩ := gl_of C hg
  subst hf
  obtain ⟨c, P, g, CS, pg, bg, sg, dV, kV, doc, pm, cdv, ct, oc, an, od, osl, h1, h2, h3, h4, h5, h6, h7, h8, h9, h10, h11, h12⟩ := (C.lam rfl).ex
  have hpar : defaultsOf params X.env = ([], []) := by
    unfold noParams at hp
    split at hp
    · rfl
    · cases hp
  have hbind : ∀ (q : Str) (cl : List (Str × Addr)) (pm cv ctv : Value), bindArgs (PySem.W.kla_fn "<lambda>" q params body scope cl pm cv ctv) ⟨[], []⟩ = pure [] := by
    unfold noParams at hp
    split at hp
    · intro q cl pm cv ctv; rfl
    · cases hp
  have hp : PE X (.Call (.Name "_law_refused" p) [.Lambda params body scope lpos] [] pos) (LamX.tLam W.T _ (fun E => tE W Γ E e)) :=
    LamX.pe_lamcall g1 h5 h6 h7 h8 h9 h10 rfl ((h10.par _ List.mem_cons_self).elim .inl fun z => .inr (.inl z)) h12 h2 h1 h3 h4 (C.roomL rfl) (LamX.lamS_by (by rw [C.hsc]; exact hL)) hpar hbind hbody
  refine hp.impD fun σ H Q q => ?_
  obtain ⟨F, ρ, Qd, Xd, s, w, q, x⟩ := q
  refine ⟨s.g.2, fun H1 e1 t1 => ?_⟩
  have E1 := Ext.tabs s.f s.g e1 t1
  refine ⟨F, ρ, _, _, s.ext E1, w, fun d v F' H' e2 r w2 => q _ _ F' H' (E1.trans e2) (.str _ emptyOk) w2, fun n cls dd F' H' e2 i w2 => ⟨n, i, q _ _ F' H' (E1.trans e2) (.str _ ?_) w2⟩⟩
  obtain ⟨_, _, _, _, _, _, z⟩ := i
  exact z
end
end Dl

set_option Elab.async false
set_option linter.all false
set_option maxRecDepth 100000
set_option maxHeartbeats 16000000
/-! the data layer, part 16: the look is sound, for all expressions -/
namespace Dl
open PySem PySem.Spec PyProof.Rows L2
def E.fresh : E → Bool
  | .bin .. => true | .slc .. => true | .tup _ => true | .lst _ => true | .lc .. => true | .lc2 .. => true | .lc3 .. => true | .blt .. => true | .lrg .. => true | .lrg1 .. => true | .lrg3 .. => true | .sp .. => true | .dx .srt _ _ => true
  | _ => false
/-- what is shown of an expression -/
structure Snd (W : Wd) (Γ : Gam) (EX : XK) (X : Cx) (ex : E) (x : Expr) : Prop where
  r : PE X x (tR W Γ EX ex)
  e : ex.isRd = false → PE X x (tE W Γ EX ex)
  z : ex.fresh = true → PE X x (tZ W Γ EX ex)
section
variable {W : Wd} {Γ : Gam} {k : Nat}
theorem Snd.ofE {EX : XK} {X : Cx} {e : E} {x : Expr} (h : PE X x (tE W Γ EX e)) (f : e.fresh = false := by rfl) : Snd W Γ EX X e x := ⟨h.impD fun _ _ _ q => tR_of_tE q, fun _ => h, fun z => by rw [f] at z; cases z⟩
theorem Snd.ofZ {EX : XK} {X : Cx} {e : E} {x : Expr} (h : PE X x (tZ W Γ EX e)) : Snd W Γ EX X e x := ⟨(h.impD fun _ _ _ q => tE_of_tZ q).impD fun _ _ _ q => tR_of_tE q, fun _ => h.impD fun _ _ _ q => tE_of_tZ q, fun _ => h⟩
structure SndL (W : Wd) (Γ : Gam) (EX : XK) (X : Cx) (as : EL) (xs : List Expr) : Prop where
  r : noStars xs = true → PA X xs (tRs W Γ EX as)
  e : noStars xs = true → noRds as = true → PA X xs (tEs W Γ EX as)
  a : noRds as = true → ∀ pos, PE X (.BoolOp .And xs pos) (tE W Γ EX (.ands as)) ∧ PE X (.BoolOp .Or xs pos) (tE W Γ EX (.ors as))
  k : noRds as = true → ∀ kw, kwVals kw = xs → KwPE X W Γ EX kw as
theorem pe_false {X : Cx} {x : Expr} {t : TE} (h : ∀ σ H Q, ¬ t σ H Q) : PE X x t := ⟨fun pins s σ H Q I q => absurd q (h _ _ _)⟩
theorem pt_false {X : Cx} {x : Expr} {t : TT} (h : ∀ σ H Q, ¬ t σ H Q) : PT X x t := ⟨fun pins s σ H Q I q => absurd q (h _ _ _)⟩
theorem SndL.nil {EX : XK} {X : Cx} : SndL W Γ EX X .nil [] :=
  ⟨fun _ => s_nil.2, fun _ _ => s_nil.1, fun _ pos => ⟨pe_false fun σ H Q ⟨_, _, _, _, _, w, _⟩ => w, pe_false fun σ H Q ⟨_, _, _, _, _, w, _⟩ => w⟩, fun _ kw e => by
    cases kw with
    | nil => exact .nil
    | cons a r => obtain ⟨n, v, p⟩ := a; cases e⟩
theorem SndL.cons {EX : XK} {X : Cx} {N : List Str} {sc : Scope} {l : Bool} (C : CtxOk W Γ k EX N sc l X) {e : E} {r : EL} {x : Expr} {xs : List Expr} (h : Snd W Γ EX X e x) (hr : SndL W Γ EX X r xs) (hl : r = .nil ↔ xs = []) : SndL W Γ EX X (.cons e r) (x :: xs) := by
  refine ⟨fun hs => ?_, fun hs hn => ?_, fun hn pos => ?_, fun hn kw e => ?_⟩
  · unfold noStars at hs
    simp only [List.all_cons, Bool.and_eq_true, Bool.not_eq_true'] at hs
    exact s_consR hs.1 h.r (hr.r (by unfold noStars; exact hs.2))
  · unfold noStars at hs
    simp only [List.all_cons, Bool.and_eq_true, Bool.not_eq_true'] at hs
    unfold noRds at hn
    simp only [Bool.and_eq_true, Bool.not_eq_true'] at hn
    exact s_cons hs.1 (h.e hn.1) (hr.e (by unfold noStars; exact hs.2) hn.2)
  · unfold noRds at hn
    simp only [Bool.and_eq_true, Bool.not_eq_true'] at hn
    cases r with
    | nil =>
      rw [hl.mp rfl]
      exact s_and1 (op := .And) (h.e hn.1)
    | cons e2 r2 =>
      cases xs with
      | nil => exact absurd (hl.mpr rfl) (by simp)
      | cons y ys =>
        obtain ⟨a1, a2⟩ := hr.a hn.2 pos
        exact ⟨s_and C (h.e hn.1) a1, s_or C (h.e hn.1) a2⟩
  · unfold noRds at hn
    simp only [Bool.and_eq_true, Bool.not_eq_true'] at hn
    cases kw with
    | nil => cases e
    | cons a kr =>
      obtain ⟨n, v, p⟩ := a
      cases e
      exact .cons (h.e hn.1) (hr.k hn.2 kr rfl)
theorem chkEs_nil {N : List Str} {sc : Scope} {l : Bool} : ∀ {r : EL} {xs : List Expr}, chkEs N sc l r xs = true → (r = .nil ↔ xs = [])
  | .nil, [], _ => ⟨fun _ => rfl, fun _ => rfl⟩
  | .cons _ _, _ :: _, _ => ⟨fun h => (by cases h), fun h => (by cases h)⟩
  | .nil, _ :: _, h => by cases h
  | .cons _ _, [], h => by cases h
theorem chkTs2_nil {N : List Str} {sc : Scope} {l : Bool} : ∀ {r : EL} {xs : List Expr}, chkTs2 N sc l r xs = true → (r = .nil ↔ xs = [])
  | .nil, [], _ => ⟨fun _ => rfl, fun _ => rfl⟩
  | .cons _ _, _ :: _, _ => ⟨fun h => (by cases h), fun h => (by cases h)⟩
  | .nil, _ :: _, h => by cases h
  | .cons _ _, [], h => by cases h
/-- a test by truth -/
theorem t_of {EX : XK} {X : Cx} {N : List Str} {sc : Scope} {l : Bool} (C : CtxOk W Γ k EX N sc l X) {e : E} {x : Expr} (hp : plainTest x = true) (h : Snd W Γ EX X e x) (hw : ∀ ρ Q Xd, wpT Γ e ρ Q Xd → wpE Γ e ρ (fun d => opt (truth d) Q) Xd) : PT X x (tT W Γ EX e) := by
  refine (t_truth C hp h.r).impD fun σ H Q q => ?_
  obtain ⟨F, ρ, Qd, Xd, s, w, q, x⟩ := q
  exact ⟨F, ρ, Qd, Xd, s, hw _ _ _ w, q, x⟩
theorem sndIsi {EX : XK} {X : Cx} {N : List Str} {sc : Scope} {l : Bool} (C : CtxOk W Γ k EX N sc l X) {a : E} {T : String} {f : Expr} {xs : List Expr} {kw : List Keyword} {pos : Pos} (h : chkE N sc l (.isi a T) (.Call f xs kw pos) = true)
    (ha : ∀ x, chkE N sc l a x = true → Snd W Γ EX X a x) : Snd W Γ EX X (.isi a T) (.Call f xs kw pos) := by
  cases f <;> try (cases h; done)
  rename_i f p
  match xs, kw, h with
  | [], _, h => cases h
  | [_], _, h => cases h
  | _ :: t :: _ :: _, _, h => cases t <;> cases h
  | [x, t], k :: ks, h => cases t <;> cases h
  | [x, t], [], h =>
    cases t <;> try (cases h; done)
    rename_i t p2
    have h : (decide (f = "isinstance") && chkGl sc f && decide (t = PySem.Str.ofString T) && chkGl sc t && decide (T ∈ isTys) && chkE N sc l a x && !isStar x) = true := h
    simp only [Bool.and_eq_true, decide_eq_true_eq, Bool.not_eq_true'] at h
    obtain ⟨⟨⟨⟨⟨⟨h1, h2⟩, h3⟩, h4⟩, h5⟩, h6⟩, h7⟩ := h
    exact Snd.ofE (s_isi C h1 h2 h3 h4 h5 h7 (ha x h6).r)
theorem sndBlt {EX : XK} {X : Cx} {N : List Str} {sc : Scope} {l : Bool} (C : CtxOk W Γ k EX N sc l X) {f : Blt} {as : EL} {g : Expr} {xs : List Expr} {kw : List Keyword} {pos : Pos} (h : chkE N sc l (.blt f as) (.Call g xs kw pos) = true)
    (ha : ∀ xs, chkEs N sc l as xs = true → SndL W Γ EX X as xs) : Snd W Γ EX X (.blt f as) (.Call g xs kw pos) := by
  cases g <;> try (cases h; done)
  rename_i g p
  cases kw with
  | cons _ _ => cases h
  | nil =>
    have h : (bltIs f g && chkGl sc g && noStars xs && !xs.isEmpty && chkEs N sc l as xs) = true := h
    simp only [Bool.and_eq_true, Bool.not_eq_true'] at h
    obtain ⟨⟨⟨⟨h1, h2⟩, h3⟩, h4⟩, h5⟩ := h
    exact Snd.ofZ (s_blt C h1 h2 h3 (by intro z; rw [z] at h4; cases h4) ((ha xs h5).r h3))
theorem sndCall {EX : XK} {X : Cx} {N : List Str} {sc : Scope} {l : Bool} (C : CtxOk W Γ k EX N sc l X) {f : Str} {r : Option Nat} {as kws : EL} {ks : List Str} {g : Expr} {xs : List Expr} {kw : List Keyword} {pos : Pos} (h : chkE N sc l (.call f r as ks kws) (.Call g xs kw pos) = true)
    (ha : ∀ xs, chkEs N sc l as xs = true → SndL W Γ EX X as xs) (hk : ∀ xs, chkEs N sc l kws xs = true → SndL W Γ EX X kws xs) : Snd W Γ EX X (.call f r as ks kws) (.Call g xs kw pos) := by
  cases g <;> try (cases h; done)
  rename_i g p
  have h : (decide (f = g) && !(xs.isEmpty && (kw.isEmpty || !(as.len == 0) || r.isSome)) && chkGl sc g && noRds as && noRds kws && noStars xs && decide (kwNames kw = some ks) && chkEs N sc l kws (kwVals kw) &&
      (match (generalizing := false) r, xs with
      | none, xs => chkEs N sc l as xs
      | some i, .Name x _ :: xs => chkVar N sc i x && chkEs N sc l as xs
      | _, _ => false)) = true := h
  simp only [Bool.and_eq_true, decide_eq_true_eq, Bool.not_eq_true'] at h
  obtain ⟨⟨⟨⟨⟨⟨⟨⟨rfl, h2⟩, h3⟩, h4⟩, h5⟩, h6⟩, h7⟩, h8⟩, h9⟩ := h
  have hne : xs = [] → kw ≠ [] ∧ as = .nil ∧ r = none := fun z => by
    subst z
    simp only [List.isEmpty_nil, Bool.true_and, Bool.or_eq_false_iff, Bool.not_eq_false', beq_iff_eq] at h2
    refine ⟨fun z => by rw [z] at h2; simp at h2, ?_, by simpa using h2.2⟩
    cases as with
    | nil => rfl
    | cons _ _ => simp [EL.len] at h2
  refine Snd.ofE (run_call C h3 h6 h7 ?_ ((hk _ h8).k h5 kw rfl) hne)
  cases r with
  | none => exact as_none ((ha xs h9).e h6 h4)
  | some i =>
    cases xs with
    | nil => cases h9
    | cons x xs =>
      cases x <;> try (cases h9; done)
      simp only [Bool.and_eq_true] at h9
      unfold noStars at h6
      simp only [List.all_cons, Bool.and_eq_true] at h6
      exact as_some C h9.1 ((ha xs h9.2).e (by unfold noStars; exact h6.2) h4)
theorem sndIsiT {EX : XK} {X : Cx} {N : List Str} {sc : Scope} {l : Bool} (C : CtxOk W Γ k EX N sc l X) {a : E} {T : String} {f : Expr} {xs : List Expr} {kw : List Keyword} {pos : Pos} (h : chkT N sc l (.isi a T) (.Call f xs kw pos) = true)
    (ha : ∀ x, chkE N sc l a x = true → Snd W Γ EX X a x) : Snd W Γ EX X (.isi a T) (.Call f xs kw pos) := by
  cases f <;> try (cases h; done)
  rename_i f p
  match xs, kw, h with
  | [], _, h => cases h
  | [_], _, h => cases h
  | _ :: t :: _ :: _, _, h => cases t <;> cases h
  | [x, t], k :: ks, h => cases t <;> cases h
  | [x, t], [], h =>
    cases t <;> try (cases h; done)
    rename_i t p2
    have h : (decide (f = "isinstance") && chkGl sc f && decide (t = PySem.Str.ofString T) && chkGl sc t && decide (T ∈ isTys) && chkE N sc l a x && !isStar x) = true := h
    simp only [Bool.and_eq_true, decide_eq_true_eq, Bool.not_eq_true'] at h
    obtain ⟨⟨⟨⟨⟨⟨h1, h2⟩, h3⟩, h4⟩, h5⟩, h6⟩, h7⟩ := h
    exact Snd.ofE (s_isi C h1 h2 h3 h4 h5 h7 (ha x h6).r)
theorem sndBltT {EX : XK} {X : Cx} {N : List Str} {sc : Scope} {l : Bool} (C : CtxOk W Γ k EX N sc l X) {f : Blt} {as : EL} {g : Expr} {xs : List Expr} {kw : List Keyword} {pos : Pos} (h : chkT N sc l (.blt f as) (.Call g xs kw pos) = true)
    (ha : ∀ xs, chkEs N sc l as xs = true → SndL W Γ EX X as xs) : Snd W Γ EX X (.blt f as) (.Call g xs kw pos) := by
  cases g <;> try (cases h; done)
  rename_i g p
  cases kw with
  | cons _ _ => cases h
  | nil =>
    have h : (bltIs f g && chkGl sc g && noStars xs && !xs.isEmpty && chkEs N sc l as xs) = true := h
    simp only [Bool.and_eq_true, Bool.not_eq_true'] at h
    obtain ⟨⟨⟨⟨h1, h2⟩, h3⟩, h4⟩, h5⟩ := h
    exact Snd.ofZ (s_blt C h1 h2 h3 (by intro z; rw [z] at h4; cases h4) ((ha xs h5).r h3))
theorem sndCallT {EX : XK} {X : Cx} {N : List Str} {sc : Scope} {l : Bool} (C : CtxOk W Γ k EX N sc l X) {f : Str} {r : Option Nat} {as kws : EL} {ks : List Str} {g : Expr} {xs : List Expr} {kw : List Keyword} {pos : Pos} (h : chkT N sc l (.call f r as ks kws) (.Call g xs kw pos) = true)
    (ha : ∀ xs, chkEs N sc l as xs = true → SndL W Γ EX X as xs) (hk : ∀ xs, chkEs N sc l kws xs = true → SndL W Γ EX X kws xs) : Snd W Γ EX X (.call f r as ks kws) (.Call g xs kw pos) := by
  cases g <;> try (cases h; done)
  rename_i g p
  have h : (decide (f = g) && !(xs.isEmpty && (kw.isEmpty || !(as.len == 0) || r.isSome)) && chkGl sc g && noRds as && noRds kws && noStars xs && decide (kwNames kw = some ks) && chkEs N sc l kws (kwVals kw) &&
      (match (generalizing := false) r, xs with
      | none, xs => chkEs N sc l as xs
      | some i, .Name x _ :: xs => chkVar N sc i x && chkEs N sc l as xs
      | _, _ => false)) = true := h
  simp only [Bool.and_eq_true, decide_eq_true_eq, Bool.not_eq_true'] at h
  obtain ⟨⟨⟨⟨⟨⟨⟨⟨rfl, h2⟩, h3⟩, h4⟩, h5⟩, h6⟩, h7⟩, h8⟩, h9⟩ := h
  have hne : xs = [] → kw ≠ [] ∧ as = .nil ∧ r = none := fun z => by
    subst z
    simp only [List.isEmpty_nil, Bool.true_and, Bool.or_eq_false_iff, Bool.not_eq_false', beq_iff_eq] at h2
    refine ⟨fun z => by rw [z] at h2; simp at h2, ?_, by simpa using h2.2⟩
    cases as with
    | nil => rfl
    | cons _ _ => simp [EL.len] at h2
  refine Snd.ofE (run_call C h3 h6 h7 ?_ ((hk _ h8).k h5 kw rfl) hne)
  cases r with
  | none => exact as_none ((ha xs h9).e h6 h4)
  | some i =>
    cases xs with
    | nil => cases h9
    | cons x xs =>
      cases x <;> try (cases h9; done)
      simp only [Bool.and_eq_true] at h9
      unfold noStars at h6
      simp only [List.all_cons, Bool.and_eq_true] at h6
      exact as_some C h9.1 ((ha xs h9.2).e (by unfold noStars; exact h6.2) h4)
structure SndW (W : Wd) (Γ : Gam) (EX : XK) (X : Cx) (as : EL) (xs : List Expr) : Prop where
  w : xs ≠ [] → ∀ pos, PW X (.BoolOp .And xs pos) (tT W Γ EX (.ands as)) ∧ PW X (.BoolOp .Or xs pos) (tT W Γ EX (.ors as))
theorem CtxOk.noLam {EX : XK} {X : Cx} {N : List Str} {sc : Scope} {l : Bool} (C : CtxOk W Γ k EX N sc l X) : CtxOk W Γ k EX N sc false X :=
  { C with roomL := fun h => (by cases h), lam := fun h => (by cases h) }
theorem blkP {EX : XK} {X : Cx} {N : List Str} {sc : Scope} {l : Bool} (C : CtxOk W Γ k EX N sc l X) (s : Shared) (H : Hp) {scope : Scope} (cl : List (Str × Addr)) (L : Addr) (fp : List Addr) {p : Pat} {x : Expr} (h : chkP N (relS scope sc) (stBlk scope sc) p x = true) :
    PG (X.blk s H scope (compEnvC scope cl L X.env) fp) x (gP W p) := by
  have C' := C.blk s H cl L fp (scope := scope)
  refine sndP C'.hK C'.hN C'.nd C'.hsc C'.calm (fun y _ hy => ?_) p x h
  unfold stBlk at hy
  simp only [Bool.or_eq_true, decide_eq_true_eq] at hy
  rcases hy with hy | hy
  · exact .inl (by show (scope.names.lookup y == some NameKind.cell) = true; rw [hy]; rfl)
  · exact .inr (by rw [C'.hsc]; exact hy)
theorem wpE_isi {a : E} {T : String} {ρ : Env1} {Q : Bool → Prop} {Xd : Str → Prop} (w : wpT Γ (.isi a T) ρ Q Xd) : wpE Γ (.isi a T) ρ (fun d => opt (truth d) Q) Xd := by
  have e : (fun d => Q (isInst d T)) = fun d => (fun d => opt (truth d) Q) (.bool (isInst d T)) := by
    funext d
    simp [truth]
  have w : wpE Γ a ρ (fun d => Q (isInst d T)) Xd := w
  rw [e] at w
  exact w
theorem sndDx {EX : XK} {X : Cx} {N : List Str} {sc : Scope} {l : Bool} (C : CtxOk W Γ k EX N sc l X) {kd : DxF} {i : Nat} {a : E} {x : Expr} (h : chkE N sc l (.dx kd i a) x = true) (ha : ∀ y, chkE N sc l a y = true → Snd W Γ EX X a y) : Snd W Γ EX X (.dx kd i a) x := by
  cases kd with
  | srt =>
    have g : (match dsrtArg sc x with | some y => chkVar N sc i y | none => false) = true := h
    clear h
    cases he : dsrtArg sc x with
    | none => rw [he] at g; cases g
    | some y =>
      rw [he] at g
      obtain ⟨_, _, _, rfl, hg⟩ := dsrtArg_eq he
      exact Snd.ofZ (s_dsrt C hg g)
  | isin neg =>
    have g : (match dinArg neg x with | some (z, y) => chkE N sc l a z && chkVar N sc i y | none => false) = true := h
    clear h
    cases he : dinArg neg x with
    | none => rw [he] at g; cases g
    | some p =>
      rw [he] at g
      simp only [Bool.and_eq_true] at g
      obtain ⟨_, _, rfl⟩ := dinArg_eq (a := p.1) (y := p.2) he
      exact Snd.ofE (s_din C (ha p.1 g.1).r g.2)
  | get =>
    have g : (match dgetArg x with | some (y, z) => chkVar N sc i y && chkE N sc l a z | none => false) = true := h
    clear h
    cases he : dgetArg x with
    | none => rw [he] at g; cases g
    | some p =>
      rw [he] at g
      simp only [Bool.and_eq_true] at g
      obtain ⟨_, _, rfl, hp⟩ := dgetArg_eq (y := p.1) (ix := p.2) he
      exact Snd.ofE (s_dget C hp (ha p.2 g.2).r g.1)
  | kin neg =>
    have g : (match dinArg neg x with | some (z, y) => chkE N sc l a z && chkVar N sc i y | none => false) = true := h
    clear h
    cases he : dinArg neg x with
    | none => rw [he] at g; cases g
    | some p =>
      rw [he] at g
      simp only [Bool.and_eq_true] at g
      obtain ⟨_, _, rfl⟩ := dinArg_eq (a := p.1) (y := p.2) he
      exact Snd.ofE (s_kin C (ha p.1 g.1).r g.2)
  | con gx kvs =>
    have g : (match dgetArg x with | some (y, z) => (decide (gx = y) && chkGl sc y) && chkE N sc l a z | none => false) = true := h
    clear h
    cases he : dgetArg x with
    | none => rw [he] at g; cases g
    | some p =>
      rw [he] at g
      simp only [Bool.and_eq_true, decide_eq_true_eq] at g
      obtain ⟨_, _, rfl, hp⟩ := dgetArg_eq (y := p.1) (ix := p.2) he
      obtain ⟨⟨g1, g2⟩, g3⟩ := g
      subst g1
      exact Snd.ofE (s_dcon C hp (ha p.2 g3).r g2)
  | lit kvs =>
    have g : (match dlitArg kvs x with | some z => chkE N sc l a z | none => false) = true := h
    clear h
    cases he : dlitArg kvs x with
    | none => rw [he] at g; cases g
    | some p =>
      rw [he] at g
      obtain ⟨_, _, _, _, rfl, q1, q2, q3, q4, q5⟩ := dlitArg_eq he
      exact Snd.ofE (s_dlit C q2 (ha p g).r q1 q3 q4 q5)
  | pick r =>
    have g : (match dpickArg x with | some (f, z, y) => (decide (f = "_law_pick") && chkGl sc f) && (chkVar N sc r z && chkVar N sc i y) | none => false) = true := h
    clear h
    cases he : dpickArg x with
    | none => rw [he] at g; cases g
    | some p =>
      rw [he] at g
      obtain ⟨f, z, y⟩ := p
      simp only [Bool.and_eq_true, decide_eq_true_eq] at g
      obtain ⟨⟨rfl, g1⟩, g2, g3⟩ := g
      obtain ⟨_, _, _, _, rfl⟩ := dpickArg_eq he
      exact Snd.ofE (s_dpick C g1 g2 g3)
theorem sndDxT {EX : XK} {X : Cx} {N : List Str} {sc : Scope} {l : Bool} (C : CtxOk W Γ k EX N sc l X) {kd : DxF} {i : Nat} {a : E} {x : Expr} (h : chkT N sc l (.dx kd i a) x = true) (ha : ∀ y, chkE N sc l a y = true → Snd W Γ EX X a y) : PT X x (tT W Γ EX (.dx kd i a)) := by
  cases kd with
  | srt => cases x <;> cases h
  | isin neg =>
    have g : (match dinArg neg x with | some (z, y) => chkE N sc l a z && chkVar N sc i y | none => false) = true := h
    clear h
    cases he : dinArg neg x with
    | none => rw [he] at g; cases g
    | some p =>
      rw [he] at g
      simp only [Bool.and_eq_true] at g
      obtain ⟨p1, pos, rfl⟩ := dinArg_eq (a := p.1) (y := p.2) he
      exact s_dinT C (ha p.1 g.1).r g.2
  | get => cases x <;> cases h
  | con _ _ => cases x <;> cases h
  | lit _ => cases x <;> cases h
  | pick _ => cases x <;> cases h
  | kin neg =>
    have g : (match dinArg neg x with | some (z, y) => chkE N sc l a z && chkVar N sc i y | none => false) = true := h
    clear h
    cases he : dinArg neg x with
    | none => rw [he] at g; cases g
    | some p =>
      rw [he] at g
      simp only [Bool.and_eq_true] at g
      obtain ⟨p1, pos, rfl⟩ := dinArg_eq (a := p.1) (y := p.2) he
      exact s_kinT C (ha p.1 g.1).r g.2
mutual
theorem snd : ∀ (e : E) {EX : XK} {X : Cx} {N : List Str} {sc : Scope} {l : Bool} (C : CtxOk W Γ k EX N sc l X) (x : Expr), chkE N sc l e x = true → Snd W Γ EX X e x
  | .var i, EX, X, N, sc, l, C, x, h => by
    cases x <;> try (cases h; done)
    have h : chkVar _ _ _ _ = true := h
    exact Snd.ofE (s_var C h).1
  | .rd i, EX, X, N, sc, l, C, x, h => by
    cases x <;> try (cases h; done)
    have h : chkVar _ _ _ _ = true := h
    exact ⟨(s_var C h).2, fun z => (by cases z), fun z => (by cases z)⟩
  | .cst c, EX, X, N, sc, l, C, x, h => by
    cases x <;> try (cases h; done)
    exact Snd.ofE (s_cst h)
  | .glob g, EX, X, N, sc, l, C, x, h => by
    cases x <;> try (cases h; done)
    have h : (decide (g = _) && chkGl sc _) = true := h
    simp only [Bool.and_eq_true, decide_eq_true_eq] at h
    obtain ⟨rfl, h2⟩ := h
    exact Snd.ofE (s_glob C h2)
  | .bin op a b, EX, X, N, sc, l, C, x, h => by
    cases x <;> try (cases h; done)
    rename_i x1 op' y1 pos
    have h : (decide (op = op') && chkE N sc l a x1 && chkE N sc l b y1) = true := h
    simp only [Bool.and_eq_true, decide_eq_true_eq] at h
    obtain ⟨⟨rfl, h2⟩, h3⟩ := h
    exact Snd.ofZ (s_bin C (snd a C _ h2).r (snd b C _ h3).r)
  | .un op a, EX, X, N, sc, l, C, x, h => by
    cases x <;> try (cases h; done)
    rename_i op' x1 pos
    have h : (decide (op = op') && chkE N sc l a x1) = true := h
    simp only [Bool.and_eq_true, decide_eq_true_eq] at h
    obtain ⟨rfl, h2⟩ := h
    exact Snd.ofE (s_un (snd a C _ h2).r)
  | .cmp op a b, EX, X, N, sc, l, C, x, h => by
    cases x <;> try (cases h; done)
    rename_i x1 ops ys pos
    match ops, ys, h with
    | [op'], [y], h =>
      have h : (decide (op = op') && !behindInMarks op y && chkE N sc l a x1 && chkE N sc l b y) = true := h
      simp only [Bool.and_eq_true, decide_eq_true_eq, Bool.not_eq_true'] at h
      obtain ⟨⟨⟨rfl, h2⟩, h3⟩, h4⟩ := h
      exact Snd.ofE (s_cmp C (snd a C _ h3).r (snd b C _ h4).r h2).1
    | [], _, h => cases h
    | [_], [], h => cases h
    | [_], _ :: _ :: _, h => cases h
    | _ :: _ :: _, _, h => cases h
  | .chn o p a b c, EX, X, N, sc, l, C, x, h => by
    cases x <;> try (cases h; done)
    rename_i x1 ops ys pos
    match ops, ys, h with
    | [o', p'], [y, z], h =>
      have h : (decide (o = o') && decide (p = p') && !lastMarks [o, p] [y, z] && chkE N sc l a x1 && chkE N sc l b y && chkE N sc l c z) = true := h
      simp only [Bool.and_eq_true, decide_eq_true_eq, Bool.not_eq_true'] at h
      obtain ⟨⟨⟨⟨⟨rfl, rfl⟩, h2⟩, h3⟩, h4⟩, h5⟩ := h
      exact Snd.ofE (s_chn C (snd a C _ h3).r (snd b C _ h4).r (snd c C _ h5).r h2).1
    | [], _, h => cases h
    | [_], _, h => cases h
    | [_, _], [], h => cases h
    | [_, _], [_], h => cases h
    | [_, _], _ :: _ :: _ :: _, h => cases h
    | _ :: _ :: _ :: _, _, h => cases h
  | .ands as, EX, X, N, sc, l, C, x, h => by
    cases x <;> try (cases h; done)
    rename_i op xs pos
    cases op <;> try (cases h; done)
    have h : (chkEs N sc l as xs && noRds as) = true := h
    simp only [Bool.and_eq_true] at h
    exact Snd.ofE ((sndEs as C xs h.1).a h.2 pos).1
  | .ors as, EX, X, N, sc, l, C, x, h => by
    cases x <;> try (cases h; done)
    rename_i op xs pos
    cases op <;> try (cases h; done)
    have h : (chkEs N sc l as xs && noRds as) = true := h
    simp only [Bool.and_eq_true] at h
    exact Snd.ofE ((sndEs as C xs h.1).a h.2 pos).2
  | .not a, EX, X, N, sc, l, C, x, h => by
    cases x <;> try (cases h; done)
    rename_i op x1 pos
    cases op <;> try (cases h; done)
    exact Snd.ofE (s_not C (snd a C _ h).r)
  | .ite c a b, EX, X, N, sc, l, C, x, h => by
    cases x <;> try (cases h; done)
    rename_i t x1 y1 pos
    have h : (chkT N sc l c t && chkE N sc l a x1 && chkE N sc l b y1 && !a.isRd && !b.isRd) = true := h
    simp only [Bool.and_eq_true, Bool.not_eq_true'] at h
    obtain ⟨⟨⟨⟨h1, h2⟩, h3⟩, h4⟩, h5⟩ := h
    exact Snd.ofE (s_ite (sndT c C _ h1) ((snd a C _ h2).e h4) ((snd b C _ h3).e h5))
  | .isi a T, EX, X, N, sc, l, C, x, h => by
    cases x <;> try (cases h; done)
    rename_i f as kw pos
    exact (sndIsi C h (fun x1 hx => snd a C x1 hx))
  | .call f r as ks kws, EX, X, N, sc, l, C, x, h => by
    cases x <;> try (cases h; done)
    rename_i g xs kw pos
    exact sndCall C h (fun xs hx => sndEs as C xs hx) (fun xs hx => sndEs kws C xs hx)
  | .blt f as, EX, X, N, sc, l, C, x, h => by
    cases x <;> try (cases h; done)
    rename_i g xs kw pos
    exact sndBlt C h (fun xs hx => sndEs as C xs hx)
  | .idx a i, EX, X, N, sc, l, C, x, h => by
    cases x <;> try (cases h; done)
    rename_i x1 y1 pos
    have h : (plainIx y1 && chkE N sc l a x1 && chkE N sc l i y1) = true := h
    simp only [Bool.and_eq_true] at h
    exact Snd.ofE (s_idx C h.1.1 (snd a C _ h.1.2).r (snd i C _ h.2).r)
  | .slc a lo hi, EX, X, N, sc, l, C, x, h => by
    cases x <;> try (cases h; done)
    rename_i x1 y1 pos
    cases y1 <;> try (cases h; done)
    rename_i lx hx st p2
    cases st with
    | some _ => cases h
    | none =>
      have h : (chkE N sc l a x1 && chkO N sc l lo lx && chkO N sc l hi hx) = true := h
      simp only [Bool.and_eq_true] at h
      exact Snd.ofZ (s_slc C (snd a C _ h.1.1).r (sndO lo C _ h.1.2) (sndO hi C _ h.2))
  | .tup as, EX, X, N, sc, l, C, x, h => by
    cases x <;> try (cases h; done)
    rename_i xs j pos
    have h : (noStars xs && noRds as && decide (as.len ≤ 1000) && chkEs N sc l as xs) = true := h
    simp only [Bool.and_eq_true, decide_eq_true_eq] at h
    exact Snd.ofZ (s_tup h.1.2 ((sndEs as C _ h.2).e h.1.1.1 h.1.1.2))
  | .lst as, EX, X, N, sc, l, C, x, h => by
    cases x <;> try (cases h; done)
    rename_i xs pos
    have h : (noStars xs && noRds as && decide (as.len ≤ 1000) && chkEs N sc l as xs) = true := h
    simp only [Bool.and_eq_true, decide_eq_true_eq] at h
    exact Snd.ofZ (s_lst h.1.2 ((sndEs as C _ h.2).e h.1.1.1 h.1.1.2))
  | .lc elt own tg it cs, EX, X, N, sc, l, C, x, h => by
    cases x <;> try (cases h; done)
    rename_i ex gs scope pos
    match gs, h with
    | [], h => cases h
    | ⟨_, _, _, _⟩ :: ⟨_, _, _, _⟩ :: _, h => cases h
    | [⟨tx, ix, ifs, n⟩], h =>
      have h : (decide (n = 0) && blkC N sc scope own && chkI N sc l it tx ix && !isSetD ix && chkP N (relS scope sc) (stBlk scope sc) tg tx && decide (∀ i ∈ tg.slots, i ∈ own.map (·.2)) &&
        chkTs N (relS scope sc) cs ifs && chkE N (relS scope sc) false elt ex && !elt.isRd) = true := h
      simp only [Bool.and_eq_true, decide_eq_true_eq, Bool.not_eq_true'] at h
      obtain ⟨⟨⟨⟨⟨⟨⟨⟨rfl, h1⟩, h2⟩, h3⟩, h4⟩, h5⟩, h6⟩, h7⟩, h8⟩ := h
      exact Snd.ofZ (s_lc C.calm (by rw [C.hN]; exact C.nd) (sndI it C tx ix h2) (by rw [C.hN, C.hsc]; exact blkOk_by h1) h3 h5
        (fun s H L cl fp => blkP C s H cl L fp h4) (fun s H L cl fp => sndTs cs (C.blk s H cl L fp) ifs h6) (fun s H L cl fp => (snd elt (C.blk s H cl L fp) ex h7).e h8))
  | .lc2 elt own tg it cs vs1 tg1 it1 cs1, EX, X, N, sc, l, C, x, h => by
    cases x <;> try (cases h; done)
    rename_i ex gs scope pos
    match gs, h with
    | [], h => cases h
    | [⟨_, _, _, _⟩], h => cases h
    | ⟨_, _, _, _⟩ :: ⟨_, _, _, _⟩ :: ⟨_, _, _, _⟩ :: _, h => cases h
    | [⟨tx, ix, ifs, n⟩, ⟨tx1, ix1, ifs1, n1⟩], h =>
      have h : (decide (n = 0) && decide (n1 = 0) && blkC N sc scope own && chkI N sc l it tx ix && !isSetD ix && chkP N (relS scope sc) (stBlk scope sc) tg tx && decide (∀ i ∈ tg.slots, i ∈ own.map (·.2)) &&
        chkTs N (relS scope sc) cs ifs && chkI N (relS scope sc) false it1 tx1 ix1 && !isSetD ix1 && chkP N (relS scope sc) (stBlk scope sc) tg1 tx1 && decide (∀ i ∈ tg1.slots, i ∈ vs1) && decide (∀ i ∈ vs1, i ∈ own.map (·.2)) &&
        chkTs N (relS scope sc) cs1 ifs1 && chkE N (relS scope sc) false elt ex && !elt.isRd) = true := h
      simp only [Bool.and_eq_true, decide_eq_true_eq, Bool.not_eq_true'] at h
      obtain ⟨⟨⟨⟨⟨⟨⟨⟨⟨⟨⟨⟨⟨⟨⟨rfl, rfl⟩, h1⟩, h2⟩, h3⟩, h4⟩, h5⟩, h6⟩, h7⟩, h8⟩, h9⟩, h10⟩, h11⟩, h12⟩, h13⟩, h14⟩ := h
      exact Snd.ofZ (s_lc2 C.calm (by rw [C.hN]; exact C.nd) (sndI it C tx ix h2) (by rw [C.hN, C.hsc]; exact blkOk_by h1) h3 h8 h5 h10 h11
        (fun s H L cl fp => blkP C s H cl L fp h4) (fun s H L cl fp => sndTs cs (C.blk s H cl L fp) ifs h6) (fun s H L cl fp => sndI it1 (C.blk s H cl L fp) tx1 ix1 h7) (fun s H L cl fp => blkP C s H cl L fp h9) (fun s H L cl fp => sndTs cs1 (C.blk s H cl L fp) ifs1 h12)
        (fun s H L cl fp => (snd elt (C.blk s H cl L fp) ex h13).e h14))
  | .lc3 elt own tg it cs vs1 tg1 it1 cs1 vs2 tg2 it2 cs2, EX, X, N, sc, l, C, x, h => by
    cases x <;> try (cases h; done)
    rename_i ex gs scope pos
    match gs, h with
    | [], h => cases h
    | [⟨_, _, _, _⟩], h => cases h
    | [⟨_, _, _, _⟩, ⟨_, _, _, _⟩], h => cases h
    | ⟨_, _, _, _⟩ :: ⟨_, _, _, _⟩ :: ⟨_, _, _, _⟩ :: ⟨_, _, _, _⟩ :: _, h => cases h
    | [⟨tx, ix, ifs, n⟩, ⟨tx1, ix1, ifs1, n1⟩, ⟨tx2, ix2, ifs2, n2⟩], h =>
      have h : (decide (n = 0) && decide (n1 = 0) && decide (n2 = 0) && blkC N sc scope own && chkI N sc l it tx ix && !isSetD ix && chkP N (relS scope sc) (stBlk scope sc) tg tx && decide (∀ i ∈ tg.slots, i ∈ own.map (·.2)) && chkTs N (relS scope sc) cs ifs &&
        (chkI N (relS scope sc) false it1 tx1 ix1 && !isSetD ix1 && chkP N (relS scope sc) (stBlk scope sc) tg1 tx1 && decide (∀ i ∈ tg1.slots, i ∈ vs1) && decide (∀ i ∈ vs1, i ∈ own.map (·.2)) && chkTs N (relS scope sc) cs1 ifs1) &&
        (chkI N (relS scope sc) false it2 tx2 ix2 && !isSetD ix2 && chkP N (relS scope sc) (stBlk scope sc) tg2 tx2 && decide (∀ i ∈ tg2.slots, i ∈ vs2) && decide (∀ i ∈ vs2, i ∈ vs1) && chkTs N (relS scope sc) cs2 ifs2) && chkE N (relS scope sc) false elt ex && !elt.isRd) = true := h
      simp only [Bool.and_eq_true, decide_eq_true_eq, Bool.not_eq_true'] at h
      obtain ⟨⟨⟨⟨⟨⟨⟨⟨⟨⟨⟨⟨rfl, rfl⟩, rfl⟩, h1⟩, h2⟩, h3⟩, h4⟩, h5⟩, h6⟩, g1⟩, g2⟩, h13⟩, h14⟩ := h
      obtain ⟨⟨⟨⟨⟨a1, a2⟩, a3⟩, a4⟩, a5⟩, a6⟩ := g1
      obtain ⟨⟨⟨⟨⟨b1, b2⟩, b3⟩, b4⟩, b5⟩, b6⟩ := g2
      exact Snd.ofZ ((pe_lcN C.calm (by rw [C.hN]; exact C.nd) (sndI it C tx ix h2) (by rw [C.hN, C.hsc]; exact blkOk_by h1) a5 (fun s H L cl fp => blkP C s H cl L fp h4) (fun s H L cl fp => sndTs cs (C.blk s H cl L fp) ifs h6) (no_fold h3 X.env)
        (hb3 C.calm a2 b2 b5 (fun s H L cl fp => sndI it1 (C.blk s H cl L fp) tx1 ix1 a1) (fun s H L cl fp => blkP C s H cl L fp a3) (fun s H L cl fp => sndTs cs1 (C.blk s H cl L fp) ifs1 a6)
          (fun s H L cl fp => sndI it2 (C.blk s H cl L fp) tx2 ix2 b1) (fun s H L cl fp => blkP C s H cl L fp b3) (fun s H L cl fp => sndTs cs2 (C.blk s H cl L fp) ifs2 b6) (fun s H L cl fp => (snd elt (C.blk s H cl L fp) ex h13).e h14))).impD fun σ H Q q => lc3_imp h5 a4 b4 q)
  | .told e, EX, X, N, sc, l, C, x, h => by
    cases x <;> try (cases h; done)
    rename_i f xs kw pos
    cases f <;> try (cases h; done)
    rename_i f p
    match xs, kw, h with
    | [lam], [], h =>
      cases lam <;> try (cases h; done)
      rename_i params body scope lpos
      have h : (l && decide (f = "_law_refused") && chkGl sc f && LamX.lamSB sc scope && noParams params && chkE N scope false e body && !e.isRd) = true := h
      simp only [Bool.and_eq_true, decide_eq_true_eq, Bool.not_eq_true'] at h
      obtain ⟨⟨⟨⟨⟨⟨rfl, h2⟩, h3⟩, h4⟩, h5⟩, h6⟩, h7⟩ := h
      exact Snd.ofE (s_told C h2 h3 h4 h5 fun A outer s H E f c' hr => (snd e (C.lamB hr) body h6).e h7)
    | [], _, h => cases h
    | [t], _ :: _, h => cases t <;> cases h
    | t :: _ :: _, _, h => cases t <;> cases h
  | .sp k a, EX, X, N, sc, l, C, x, h => by
    have h : (match spArg k sc x with | some y => chkE N sc l a y | none => false) = true := h
    cases he : spArg k sc x with
    | none => rw [he] at h; cases h
    | some y =>
      rw [he] at h
      exact Snd.ofZ (s_sp C he (snd a C y h).r)
  | .dx kd i a, EX, X, N, sc, l, C, x, h => sndDx C h fun y hy => snd a C y hy
  | .lrg tu a b, EX, X, N, sc, l, C, x, h => by
    cases x <;> try (cases h; done)
    rename_i g xs kw pos2
    cases g <;> try (cases h; done)
    rename_i g p2
    match xs, kw, h with
    | [r], [], h =>
      cases r <;> try (cases h; done)
      rename_i f ys kw2 pos
      cases f <;> try (cases h; done)
      rename_i f p
      match ys, kw2, h with
      | [x, y], [], h =>
        have h : (decide (g = seqN tu) && chkGl sc g && decide (f = "range") && chkGl sc f && chkE N sc l a x && chkE N sc l b y && !isStar x && !isStar y) = true := h
        simp only [Bool.and_eq_true, decide_eq_true_eq, Bool.not_eq_true'] at h
        obtain ⟨⟨⟨⟨⟨⟨⟨h1, h2⟩, h3⟩, h4⟩, h5⟩, h6⟩, h7⟩, h8⟩ := h
        exact Snd.ofZ (s_lrg C h1 h2 h3 h4 h7 h8 (snd a C x h5).r (snd b C y h6).r)
      | [], _, h => cases h
      | [_], _, h => cases h
      | [_, _], _ :: _, h => cases h
      | _ :: _ :: _ :: _, _, h => cases h
    | [], _, h => cases h
    | [t], _ :: _, h =>
      cases t <;> try (cases h; done)
      rename_i f ys kw2 pos
      cases f <;> try (cases h; done)
      match ys, kw2, h with
      | [], _, h => cases h
      | [_], _, h => cases h
      | [_, _], [], h => cases h
      | [_, _], _ :: _, h => cases h
      | _ :: _ :: _ :: _, _, h => cases h
    | t :: _ :: _, _, h =>
      cases t <;> try (cases h; done)
      rename_i f ys kw2 pos
      cases f <;> try (cases h; done)
      match ys, kw2, h with
      | [], _, h => cases h
      | [_], _, h => cases h
      | [_, _], [], h => cases h
      | [_, _], _ :: _, h => cases h
      | _ :: _ :: _ :: _, _, h => cases h
  | .lrg3 a b c, EX, X, N, sc, l, C, x, h => by
    cases x <;> try (cases h; done)
    rename_i g xs kw pos2
    cases g <;> try (cases h; done)
    rename_i g p2
    match xs, kw, h with
    | [r], [], h =>
      cases r <;> try (cases h; done)
      rename_i f ys kw2 pos
      cases f <;> try (cases h; done)
      rename_i f p
      match ys, kw2, h with
      | [x, y, z], [], h =>
        have h : (decide (g = "list") && chkGl sc g && decide (f = "range") && chkGl sc f && chkE N sc l a x && chkE N sc l b y && chkE N sc l c z && !isStar x && !isStar y && !isStar z) = true := h
        simp only [Bool.and_eq_true, decide_eq_true_eq, Bool.not_eq_true'] at h
        obtain ⟨⟨⟨⟨⟨⟨⟨⟨⟨h1, h2⟩, h3⟩, h4⟩, h5⟩, h6⟩, h7⟩, h8⟩, h9⟩, h10⟩ := h
        exact Snd.ofZ (s_lrg3 C h1 h2 h3 h4 h8 h9 h10 (snd a C x h5).r (snd b C y h6).r (snd c C z h7).r)
      | [], _, h => cases h
      | [_], _, h => cases h
      | [_, _], _, h => cases h
      | [_, _, _], _ :: _, h => cases h
      | _ :: _ :: _ :: _ :: _, _, h => cases h
    | [], _, h => cases h
    | [t], _ :: _, h =>
      cases t <;> try (cases h; done)
      rename_i f ys kw2 pos
      cases f <;> try (cases h; done)
      match ys, kw2, h with
      | [], _, h => cases h
      | [_], _, h => cases h
      | [_, _], _, h => cases h
      | [_, _, _], [], h => cases h
      | [_, _, _], _ :: _, h => cases h
      | _ :: _ :: _ :: _ :: _, _, h => cases h
    | t :: _ :: _, _, h =>
      cases t <;> try (cases h; done)
      rename_i f ys kw2 pos
      cases f <;> try (cases h; done)
      match ys, kw2, h with
      | [], _, h => cases h
      | [_], _, h => cases h
      | [_, _], _, h => cases h
      | [_, _, _], [], h => cases h
      | [_, _, _], _ :: _, h => cases h
      | _ :: _ :: _ :: _ :: _, _, h => cases h
  | .lrg1 tu a, EX, X, N, sc, l, C, x, h => by
    cases x <;> try (cases h; done)
    rename_i g xs kw pos2
    cases g <;> try (cases h; done)
    rename_i g p2
    match xs, kw, h with
    | [r], [], h =>
      cases r <;> try (cases h; done)
      rename_i f ys kw2 pos
      cases f <;> try (cases h; done)
      rename_i f p
      match ys, kw2, h with
      | [x], [], h =>
        have h : (decide (g = seqN tu) && chkGl sc g && decide (f = "range") && chkGl sc f && chkE N sc l a x && !isStar x) = true := h
        simp only [Bool.and_eq_true, decide_eq_true_eq, Bool.not_eq_true'] at h
        obtain ⟨⟨⟨⟨⟨h1, h2⟩, h3⟩, h4⟩, h5⟩, h7⟩ := h
        exact Snd.ofZ (s_lrg1 C h1 h2 h3 h4 h7 (snd a C x h5).r)
      | [], _, h => cases h
      | [_], _ :: _, h => cases h
      | _ :: _ :: _, _, h => cases h
    | [], _, h => cases h
    | [t], _ :: _, h =>
      cases t <;> try (cases h; done)
      rename_i f ys kw2 pos
      cases f <;> try (cases h; done)
      match ys, kw2, h with
      | [], _, h => cases h
      | [_], [], h => cases h
      | [_], _ :: _, h => cases h
      | _ :: _ :: _, _, h => cases h
    | t :: _ :: _, _, h =>
      cases t <;> try (cases h; done)
      rename_i f ys kw2 pos
      cases f <;> try (cases h; done)
      match ys, kw2, h with
      | [], _, h => cases h
      | [_], [], h => cases h
      | [_], _ :: _, h => cases h
      | _ :: _ :: _, _, h => cases h
theorem sndT : ∀ (e : E) {EX : XK} {X : Cx} {N : List Str} {sc : Scope} {l : Bool} (C : CtxOk W Γ k EX N sc l X) (x : Expr), chkT N sc l e x = true → PT X x (tT W Γ EX e)
  | .var i, EX, X, N, sc, l, C, x, h => by
    cases x <;> try (cases h; done)
    exact t_of C rfl (Snd.ofE (s_var C (show chkVar _ _ _ _ = true from h)).1) fun ρ Q Xd w => w
  | .rd i, EX, X, N, sc, l, C, x, h => by
    cases x <;> try (cases h; done)
    refine t_of C rfl ⟨(s_var C (show chkVar _ _ _ _ = true from h)).2, fun z => (by cases z), fun z => (by cases z)⟩ fun ρ Q Xd w => ?_
    obtain ⟨xs, h1, h2⟩ := (show opt (ownAt ρ i) (fun xs => Q (!xs.isEmpty)) from w)
    exact ⟨xs, h1, fun _ => ⟨_, rfl, h2⟩⟩
  | .cst c, EX, X, N, sc, l, C, x, h => by
    cases x <;> try (cases h; done)
    exact t_of C rfl (Snd.ofE (s_cst h)) fun ρ Q Xd w => w
  | .glob g, EX, X, N, sc, l, C, x, h => by cases x <;> cases h
  | .bin op a b, EX, X, N, sc, l, C, x, h => by cases x <;> cases h
  | .un op a, EX, X, N, sc, l, C, x, h => by cases x <;> cases h
  | .cmp op a b, EX, X, N, sc, l, C, x, h => by
    cases x <;> try (cases h; done)
    rename_i x1 ops ys pos
    match ops, ys, h with
    | [op'], [y], h =>
      have h : (decide (op = op') && !behindInMarks op y && chkE N sc l a x1 && chkE N sc l b y) = true := h
      simp only [Bool.and_eq_true, decide_eq_true_eq, Bool.not_eq_true'] at h
      obtain ⟨⟨⟨rfl, h2⟩, h3⟩, h4⟩ := h
      exact (s_cmp C (snd a C _ h3).r (snd b C _ h4).r h2).2
    | [], _, h => cases h
    | [_], [], h => cases h
    | [_], _ :: _ :: _, h => cases h
    | _ :: _ :: _, _, h => cases h
  | .chn o p a b c, EX, X, N, sc, l, C, x, h => by
    cases x <;> try (cases h; done)
    rename_i x1 ops ys pos
    match ops, ys, h with
    | [o', p'], [y, z], h =>
      have h : (decide (o = o') && decide (p = p') && !lastMarks [o, p] [y, z] && chkE N sc l a x1 && chkE N sc l b y && chkE N sc l c z) = true := h
      simp only [Bool.and_eq_true, decide_eq_true_eq, Bool.not_eq_true'] at h
      obtain ⟨⟨⟨⟨⟨rfl, rfl⟩, h2⟩, h3⟩, h4⟩, h5⟩ := h
      exact (s_chn C (snd a C _ h3).r (snd b C _ h4).r (snd c C _ h5).r h2).2
    | [], _, h => cases h
    | [_], _, h => cases h
    | [_, _], [], h => cases h
    | [_, _], [_], h => cases h
    | [_, _], _ :: _ :: _ :: _, h => cases h
    | _ :: _ :: _ :: _, _, h => cases h
  | .ands as, EX, X, N, sc, l, C, x, h => by
    cases x <;> try (cases h; done)
    rename_i op xs pos
    cases op <;> try (cases h; done)
    have h : (!xs.isEmpty && chkTs2 N sc l as xs) = true := h
    simp only [Bool.and_eq_true, Bool.not_eq_true'] at h
    exact ((sndWs as C xs h.2).w (fun z => by rw [z] at h; cases h.1) pos).1.pt
  | .ors as, EX, X, N, sc, l, C, x, h => by
    cases x <;> try (cases h; done)
    rename_i op xs pos
    cases op <;> try (cases h; done)
    have h : (!xs.isEmpty && chkTs2 N sc l as xs) = true := h
    simp only [Bool.and_eq_true, Bool.not_eq_true'] at h
    exact ((sndWs as C xs h.2).w (fun z => by rw [z] at h; cases h.1) pos).2.pt
  | .not a, EX, X, N, sc, l, C, x, h => by
    cases x <;> try (cases h; done)
    rename_i op x1 pos
    cases op <;> try (cases h; done)
    exact t_not (sndT a C _ h)
  | .ite c a b, EX, X, N, sc, l, C, x, h => by cases x <;> cases h
  | .isi a T, EX, X, N, sc, l, C, x, h => by
    cases x <;> try (cases h; done)
    rename_i f as kw pos
    exact t_of C rfl (sndIsiT C h (fun x1 hx => snd a C x1 hx)) fun ρ Q Xd w => wpE_isi w
  | .call f r as ks kws, EX, X, N, sc, l, C, x, h => by
    cases x <;> try (cases h; done)
    rename_i g xs kw pos
    exact t_of C rfl (sndCallT C h (fun xs hx => sndEs as C xs hx) (fun xs hx => sndEs kws C xs hx)) fun ρ Q Xd w => w
  | .blt f as, EX, X, N, sc, l, C, x, h => by
    cases x <;> try (cases h; done)
    rename_i g xs kw pos
    exact t_of C rfl (sndBltT C h (fun xs hx => sndEs as C xs hx)) fun ρ Q Xd w => w
  | .idx a i, EX, X, N, sc, l, C, x, h => by
    cases x <;> try (cases h; done)
    rename_i x1 y1 pos
    have h : (plainIx y1 && chkE N sc l a x1 && chkE N sc l i y1) = true := h
    simp only [Bool.and_eq_true] at h
    exact t_of C rfl (Snd.ofE (s_idx C h.1.1 (snd a C _ h.1.2).r (snd i C _ h.2).r)) fun ρ Q Xd w => w
  | .slc a lo hi, EX, X, N, sc, l, C, x, h => by
    cases x <;> try (cases h; done)
    rename_i x1 y1 pos
    cases y1 <;> try (cases h; done)
    rename_i lx hx st p2
    cases st with
    | some _ => cases h
    | none =>
      have h : (chkE N sc l a x1 && chkO N sc l lo lx && chkO N sc l hi hx) = true := h
      simp only [Bool.and_eq_true] at h
      exact t_of C rfl (Snd.ofZ (s_slc C (snd a C _ h.1.1).r (sndO lo C _ h.1.2) (sndO hi C _ h.2))) fun ρ Q Xd w => w
  | .tup as, EX, X, N, sc, l, C, x, h => by cases x <;> cases h
  | .lst as, EX, X, N, sc, l, C, x, h => by cases x <;> cases h
  | .lc elt own tg it cs, EX, X, N, sc, l, C, x, h => by cases x <;> cases h
  | .lc2 elt own tg it cs vs1 tg1 it1 cs1, EX, X, N, sc, l, C, x, h => by cases x <;> cases h
  | .lc3 elt own tg it cs vs1 tg1 it1 cs1 vs2 tg2 it2 cs2, EX, X, N, sc, l, C, x, h => by cases x <;> cases h
  | .told e, EX, X, N, sc, l, C, x, h => by cases x <;> cases h
  | .sp k a, EX, X, N, sc, l, C, x, h => by cases x <;> cases h
  | .dx kd i a, EX, X, N, sc, l, C, x, h => sndDxT C h fun y hy => snd a C y hy
  | .lrg tu a b, EX, X, N, sc, l, C, x, h => by cases x <;> cases h
  | .lrg1 tu a, EX, X, N, sc, l, C, x, h => by cases x <;> cases h
  | .lrg3 a b c, EX, X, N, sc, l, C, x, h => by cases x <;> cases h
theorem sndWs : ∀ (as : EL) {EX : XK} {X : Cx} {N : List Str} {sc : Scope} {l : Bool} (C : CtxOk W Γ k EX N sc l X) (xs : List Expr), chkTs2 N sc l as xs = true → SndW W Γ EX X as xs
  | .nil, EX, X, N, sc, l, C, xs, h => by
    cases xs with
    | nil => exact ⟨fun z => absurd rfl z⟩
    | cons _ _ => cases h
  | .cons e r, EX, X, N, sc, l, C, xs, h => by
    cases xs with
    | nil => cases h
    | cons x xs =>
      have h : (chkT N sc l e x && chkTs2 N sc l r xs) = true := h
      simp only [Bool.and_eq_true] at h
      have h1 := sndT e C x h.1
      have h2 := sndWs r C xs h.2
      refine ⟨fun _ pos => ?_⟩
      have hl := chkTs2_nil h.2
      cases r with
      | nil =>
        rw [hl.mp rfl]
        exact ⟨t_and1 h1, t_or1 h1⟩
      | cons e2 r2 =>
        cases xs with
        | nil => exact absurd (hl.mpr rfl) (by simp)
        | cons y ys =>
          obtain ⟨a1, a2⟩ := h2.w (by simp) pos
          exact ⟨t_and h1 a1, t_or h1 a2⟩
theorem sndTs : ∀ (as : EL) {EX : XK} {X : Cx} {N : List Str} {sc : Scope} {l : Bool} (C : CtxOk W Γ k EX N sc l X) (xs : List Expr), chkTs N sc as xs = true → PTs X xs (tTs W Γ EX as)
  | .nil, EX, X, N, sc, l, C, xs, h => by
    cases xs with
    | nil => exact ts_nil
    | cons _ _ => cases h
  | .cons e r, EX, X, N, sc, l, C, xs, h => by
    cases r with
    | cons _ _ => cases xs <;> cases h
    | nil =>
      match xs, h with
      | [x], h => exact ts_one (sndT e C.noLam x h)
      | [], h => cases h
      | _ :: _ :: _, h => cases h
theorem sndI : ∀ (it : It1) {EX : XK} {X : Cx} {N : List Str} {sc : Scope} {l : Bool} (C : CtxOk W Γ k EX N sc l X) (tx x : Expr), chkI N sc l it tx x = true → PI X tx x (tIt W Γ EX it)
  | .of e, EX, X, N, sc, l, C, tx, x, h => by
    have h : (chkE N sc l e x && !e.isRd) = true := h
    simp only [Bool.and_eq_true, Bool.not_eq_true'] at h
    exact i_of C ((snd e C x h.1).e h.2)
  | .txt e, EX, X, N, sc, l, C, tx, x, h => by
    have h : (chkE N sc l e x && !e.isRd) = true := h
    simp only [Bool.and_eq_true, Bool.not_eq_true'] at h
    exact i_txt C ((snd e C x h.1).e h.2)
  | .rng1 a, EX, X, N, sc, l, C, tx, x, h => by
    cases x <;> try (cases h; done)
    rename_i f xs kw pos
    cases f <;> try (cases h; done)
    rename_i f p
    match xs, kw, h with
    | [x], [], h =>
      have h : (decide (f = "range") && chkGl sc f && chkE N sc l a x && !isStar x) = true := h
      simp only [Bool.and_eq_true, decide_eq_true_eq, Bool.not_eq_true'] at h
      exact i_rng1 C h.1.1.1 h.1.1.2 h.2 (snd a C x h.1.2).r
    | [], _, h => cases h
    | [_], _ :: _, h => cases h
    | _ :: _ :: _, _, h => cases h
  | .rng2 a b, EX, X, N, sc, l, C, tx, x, h => by
    cases x <;> try (cases h; done)
    rename_i f xs kw pos
    cases f <;> try (cases h; done)
    rename_i f p
    match xs, kw, h with
    | [x, y], [], h =>
      have h : (decide (f = "range") && chkGl sc f && chkE N sc l a x && chkE N sc l b y && !isStar x && !isStar y) = true := h
      simp only [Bool.and_eq_true, decide_eq_true_eq, Bool.not_eq_true'] at h
      obtain ⟨⟨⟨⟨⟨h1, h2⟩, h3⟩, h4⟩, h5⟩, h6⟩ := h
      exact i_rng2 C h1 h2 h5 h6 (snd a C x h3).r (snd b C y h4).r
    | [], _, h => cases h
    | [_], _, h => cases h
    | [_, _], _ :: _, h => cases h
    | _ :: _ :: _ :: _, _, h => cases h
  | .rng3 a b c, EX, X, N, sc, l, C, tx, x, h => by
    cases x <;> try (cases h; done)
    rename_i f xs kw pos
    cases f <;> try (cases h; done)
    rename_i f p
    match xs, kw, h with
    | [x, y, z], [], h =>
      have h : (decide (f = "range") && chkGl sc f && chkE N sc l a x && chkE N sc l b y && chkE N sc l c z && !isStar x && !isStar y && !isStar z) = true := h
      simp only [Bool.and_eq_true, decide_eq_true_eq, Bool.not_eq_true'] at h
      obtain ⟨⟨⟨⟨⟨⟨⟨h1, h2⟩, h3⟩, h4⟩, h5⟩, h6⟩, h7⟩, h8⟩ := h
      exact i_rng3 C h1 h2 h6 h7 h8 (snd a C x h3).r (snd b C y h4).r (snd c C z h5).r
    | [], _, h => cases h
    | [_], _, h => cases h
    | [_, _], _, h => cases h
    | [_, _, _], _ :: _, h => cases h
    | _ :: _ :: _ :: _ :: _, _, h => cases h
  | .enum a, EX, X, N, sc, l, C, tx, x, h => by
    cases tx <;> try (cases h; done)
    cases x <;> try (cases h; done)
    rename_i f xs kw pos
    cases f <;> try (cases h; done)
    rename_i f p
    match xs, kw, h with
    | [x], [], h =>
      have h : (decide (f = "enumerate") && chkGl sc f && chkE N sc l a x && !isStar x && !a.isRd) = true := h
      simp only [Bool.and_eq_true, decide_eq_true_eq, Bool.not_eq_true'] at h
      obtain ⟨⟨⟨⟨h1, h2⟩, h3⟩, h4⟩, h5⟩ := h
      exact i_enum C h1 h2 h4 ((snd a C x h3).e h5)
    | [], _, h => cases h
    | [_], _ :: _, h => cases h
    | _ :: _ :: _, _, h => cases h
  | .zip a b, EX, X, N, sc, l, C, tx, x, h => by
    cases tx <;> try (cases h; done)
    cases x <;> try (cases h; done)
    rename_i f xs kw pos
    cases f <;> try (cases h; done)
    rename_i f p
    match xs, kw, h with
    | [x, y], [], h =>
      have h : (decide (f = "zip") && chkGl sc f && chkE N sc l a x && chkE N sc l b y && !isStar x && !isStar y && !a.isRd && !b.isRd) = true := h
      simp only [Bool.and_eq_true, decide_eq_true_eq, Bool.not_eq_true'] at h
      obtain ⟨⟨⟨⟨⟨⟨⟨h1, h2⟩, h3⟩, h4⟩, h5⟩, h6⟩, h7⟩, h8⟩ := h
      exact i_zip C h1 h2 h5 h6 ((snd a C x h3).e h7) ((snd b C y h4).e h8)
    | [], _, h => cases h
    | [_], _, h => cases h
    | [_, _], _ :: _, h => cases h
    | _ :: _ :: _ :: _, _, h => cases h
theorem sndEs : ∀ (as : EL) {EX : XK} {X : Cx} {N : List Str} {sc : Scope} {l : Bool} (C : CtxOk W Γ k EX N sc l X) (xs : List Expr), chkEs N sc l as xs = true → SndL W Γ EX X as xs
  | .nil, EX, X, N, sc, l, C, xs, h => by
    cases xs with
    | nil => exact .nil
    | cons _ _ => cases h
  | .cons e r, EX, X, N, sc, l, C, xs, h => by
    cases xs with
    | nil => cases h
    | cons x xs =>
      have h : (chkE N sc l e x && chkEs N sc l r xs) = true := h
      simp only [Bool.and_eq_true] at h
      exact .cons C (snd e C x h.1) (sndEs r C xs h.2) (chkEs_nil h.2)
theorem sndO : ∀ (o : EO) {EX : XK} {X : Cx} {N : List Str} {sc : Scope} {l : Bool} (C : CtxOk W Γ k EX N sc l X) (x : Option Expr), chkO N sc l o x = true → PO X x (tOo W Γ EX o)
  | .none, EX, X, N, sc, l, C, x, h => by
    cases x with
    | none => exact o_none
    | some _ => cases h
  | .some e, EX, X, N, sc, l, C, x, h => by
    cases x with
    | none => cases h
    | some x => exact o_some (snd e C x h).r
end
end
end Dl

set_option Elab.async false
set_option linter.all false
set_option maxRecDepth 100000
set_option maxHeartbeats 8000000
/-! the data layer, part 17: statements: their form, their weakest preconditions, the look -/
namespace Dl
open PySem PySem.Spec PyProof.Rows L2
/-- of a list of the def's own: popped to a pattern, popped at a place, put in, a slice that is stored -/
inductive OwnF | popT (p : Pat) | popAt (a : E) | ins (a e : E) | slcp (a b e : E) | popA (p : Pat) (a : E) | put2 (i2 : Nat) (j1 j2 e : E) | ksn | ksn2 (i2 : Nat) | ksp (e : E)
mutual
inductive S
  | skip | ret (e : E) | retN | brk | cnt
  | set (o : Bool) (i : Nat) (e : E)
  | asg (p : Pat) (e : E)
  | par2 (o1 : Bool) (i1 : Nat) (e1 : E) (o2 : Bool) (i2 : Nat) (e2 : E)
  | par3 (o1 : Bool) (i1 : Nat) (e1 : E) (o2 : Bool) (i2 : Nat) (e2 : E) (o3 : Bool) (i3 : Nat) (e3 : E)
  | aug (op : Operator) (i : Nat) (e : E)
  | augp (op : Operator) (i : Nat) (j e : E)
  | app (i : Nat) (e : E) | ext (i : Nat) (e : E) | put (i : Nat) (j e : E)
  | ex (e : E)
  | dnew (i : Nat) | dput (i : Nat) (j e : E)
  | mut (i : Nat) (m : OwnF)
  | ife (c : E) (a b : SL)
  | whl (c : E) (b : SL)
  | for_ (tg : Pat) (it : It1) (b : SL)
inductive SL
  | nil
  | cons (s : S) (r : SL)
  | frz (i : Nat) (r : SL)
end
structure Post where
  nx : Env1 → Prop
  rt : PyData → Prop
  bk : Env1 → Prop := fun _ => False
  ct : Env1 → Prop := fun _ => False
  xc : Str → Prop
/-- the turns of a for -/
def forL (f : PyData → Env1 → (Env1 → Prop) → Prop) : List PyData → Env1 → (Env1 → Prop) → Prop
  | [], ρ, Q => Q ρ
  | x :: r, ρ, Q => f x ρ fun ρ' => forL f r ρ' Q
section
variable (Γ : Gam)
def wpM (o : Bool) (e : E) (ρ : Env1) (K : B → Prop) (X : Str → Prop) : Prop := wpE Γ e ρ (fun d => if o = true then ∃ xs, d = .list xs ∧ K (.own xs) else K (.val d)) X
def augSem (op : Operator) (d e : PyData) : Option PyData := match op, d, e with
  | .Add, .int i, .int j => some (.int (i + j))
  | .Sub, .int i, .int j => some (.int (i - j))
  | _, _, _ => none
def wpMut (m : OwnF) (i : Nat) (ρ : Env1) (P : Post) : Prop := match m with
  | .popT p => opt (ownAt ρ i) fun xs => opt xs.getLast? fun d => opt (bindP p d (ρ.set i (.own xs.dropLast))) P.nx
  | .popAt a => opt (ownAt ρ i) fun xs => wpE Γ a ρ (fun k => ∃ k' n, k = .int k' ∧ ixN xs.length k' = some n ∧ P.nx (ρ.set i (.own (xs.eraseIdx n)))) P.xc
  | .ins a e => opt (ownAt ρ i) fun xs => wpE Γ a ρ (fun k => wpE Γ e ρ (fun d => ∃ n : Nat, k = .int (n : Nat) ∧ n ≤ xs.length ∧ xs.length < 16777216 ∧ P.nx (ρ.set i (.own (xs.take n ++ d :: xs.drop n)))) P.xc) P.xc
  | .slcp a b e => opt (ownAt ρ i) fun xs => wpE Γ e ρ (fun d => wpE Γ a ρ (fun ka => ∃ m : Nat, ka = .int (m : Nat) ∧ wpE Γ b ρ (fun kb => ∃ (ys : List PyData) (n : Nat), d = .list ys ∧ kb = .int (n : Nat) ∧ m ≤ n ∧ n ≤ xs.length ∧ xs.length + ys.length ≤ 16777216 ∧ P.nx (ρ.set i (.own (xs.take m ++ ys ++ xs.drop n)))) P.xc) P.xc) P.xc
  | .popA p a => opt (ownAt ρ i) fun xs => wpE Γ a ρ (fun k => ∃ k' n d, k = .int k' ∧ ixN xs.length k' = some n ∧ xs[n]? = some d ∧ opt (bindP p d (ρ.set i (.own (xs.eraseIdx n)))) P.nx) P.xc
  | .put2 i2 j1 j2 e => opt (ownAt ρ i) fun xs => opt (ownAt ρ i2) fun ys => wpE Γ e ρ (fun d => ∃ d1 d2, d = .tuple [d1, d2] ∧ wpE Γ j1 ρ (fun k1 => ∃ k n, k1 = .int k ∧ ixN xs.length k = some n ∧ wpE Γ j2 (ρ.set i (.own (xs.set n d1))) (fun k2 => ∃ k' n', k2 = .int k' ∧ ixN ys.length k' = some n' ∧ P.nx ((ρ.set i (.own (xs.set n d1))).set i2 (.own (ys.set n' d2)))) P.xc) P.xc) P.xc
  | .ksn => P.nx (ρ.set i (.ks []))
  | .ksn2 i2 => P.nx ((ρ.set i (.own [])).set i2 (.ks []))
  | .ksp e => opt (ksAt ρ i) fun ds => wpE Γ e ρ (fun d => kOk d = true ∧ ds.length < 16777216 ∧ P.nx (ρ.set i (.ks (ksPut ds d)))) P.xc
mutual
def wpS : S → Env1 → Post → Prop
  | .skip, ρ, P => P.nx ρ
  | .ret e, ρ, P => wpE Γ e ρ P.rt P.xc
  | .retN, ρ, P => P.rt .none
  | .brk, ρ, P => P.bk ρ
  | .cnt, ρ, P => P.ct ρ
  | .set o i e, ρ, P => wpM Γ o e ρ (fun b => P.nx (ρ.set i b)) P.xc
  | .asg p e, ρ, P => wpE Γ e ρ (fun d => opt (bindP p d ρ) P.nx) P.xc
  | .par2 o1 i1 e1 o2 i2 e2, ρ, P => wpM Γ o1 e1 ρ (fun b1 => wpM Γ o2 e2 ρ (fun b2 => P.nx ((ρ.set i1 b1).set i2 b2)) P.xc) P.xc
  | .par3 o1 i1 e1 o2 i2 e2 o3 i3 e3, ρ, P => wpM Γ o1 e1 ρ (fun b1 => wpM Γ o2 e2 ρ (fun b2 => wpM Γ o3 e3 ρ (fun b3 => P.nx (((ρ.set i1 b1).set i2 b2).set i3 b3)) P.xc) P.xc) P.xc
  | .aug op i e, ρ, P => opt (valAt ρ i) fun d => wpE Γ e ρ (fun d' => opt (augSem op d d') fun r => P.nx (ρ.set i (.val r))) P.xc
  | .augp op i j e, ρ, P => opt (ownAt ρ i) fun xs => wpE Γ j ρ (fun k => ∃ k' n d, k = .int k' ∧ ixN xs.length k' = some n ∧ xs[n]? = some d ∧ wpE Γ e ρ (fun d' => opt (augSem op d d') fun r => P.nx (ρ.set i (.own (xs.set n r)))) P.xc) P.xc
  | .app i e, ρ, P => opt (ownAt ρ i) fun xs => wpE Γ e ρ (fun d => xs.length < 16777216 ∧ P.nx (ρ.set i (.own (xs ++ [d])))) P.xc
  | .ext i e, ρ, P => opt (ownAt ρ i) fun xs => wpE Γ e ρ (fun d => ∃ ys, d = .list ys ∧ xs.length + ys.length ≤ 16777216 ∧ P.nx (ρ.set i (.own (xs ++ ys)))) P.xc
  | .put i j e, ρ, P => opt (ownAt ρ i) fun xs => wpE Γ e ρ (fun d => wpE Γ j ρ (fun k => ∃ k' n, k = .int k' ∧ ixN xs.length k' = some n ∧ P.nx (ρ.set i (.own (xs.set n d)))) P.xc) P.xc
  | .dnew i, ρ, P => P.nx (ρ.set i (.dct []))
  | .dput i j e, ρ, P => opt (dctAt ρ i) fun kvs => wpE Γ e ρ (fun d => wpE Γ j ρ (fun k => ∃ k', k = .int k' ∧ kvs.length < 16777216 ∧ P.nx (ρ.set i (.dct (dPut kvs k' d)))) P.xc) P.xc
  | .mut i m, ρ, P => wpMut Γ m i ρ P
  | .ex e, ρ, P => wpE Γ e ρ (fun _ => P.nx ρ) P.xc
  | .ife c a b, ρ, P => wpT Γ c ρ (fun t => if t = true then wpSs a ρ P else wpSs b ρ P) P.xc
  | .whl c b, ρ, P => ∃ I : Nat → Env1 → Prop, (∃ n, I n ρ) ∧ ∀ n ρ1, I n ρ1 → wpT Γ c ρ1 (fun t => if t = true then wpSs b ρ1 { nx := fun ρ2 => ∃ m, m < n ∧ I m ρ2, ct := fun ρ2 => ∃ m, m < n ∧ I m ρ2, bk := P.nx, rt := P.rt, xc := P.xc } else P.nx ρ1) P.xc
  | .for_ tg it b, ρ, P => wpI Γ it ρ (fun items => forL (fun x ρ1 k => opt (bindP tg x ρ1) fun ρ2 => wpSs b ρ2 { nx := k, ct := k, bk := P.nx, rt := P.rt, xc := P.xc }) items ρ P.nx) P.xc
def wpSs : SL → Env1 → Post → Prop
  | .nil, ρ, P => P.nx ρ
  | .cons s r, ρ, P => wpS s ρ { nx := fun ρ' => wpSs r ρ' P, ct := P.ct, bk := P.bk, rt := P.rt, xc := P.xc }
  | .frz i r, ρ, P => opt (ownAt ρ i) fun xs => wpSs r (ρ.set i (.val (.list xs))) P
end
end
/-! ### the look -/
def lcNo (scope : Scope) (x : Str) : Bool := !(scope.names.any fun (n, k) => n == x && (k == .local || k == .cell))
/-- how a comprehension is kept: its name a local on the same line, or a cell -/
def lcSw (sc : Scope) (x : Str) (px : Pos) (v : Expr) : Bool := match v with
  | .ListComp _ _ scope pos => (decide (sc.names.lookup x = some .local) && (px.line == pos.line) && lcNo scope x) || decide (sc.names.lookup x = some .cell) || (decide (sc.names.lookup x = some .local) && !(px.line == pos.line))
  | _ => !isComp v
def modeOk (o : Bool) (e : E) : Bool := if o = true then e.fresh else !e.isRd
def foldT : Expr → Bool
  | .Tuple vs _ _ => vs.all (foldedForSure 8)
  | _ => false
def isTupE : Expr → Bool
  | .Tuple .. => true
  | _ => false
def hasCell (sc : Scope) (ts : List Expr) : Bool := ts.any fun t => match t with
  | .Name x _ => !decide (sc.names.lookup x = some .local)
  | _ => true
def nmOk (N : List Str) (sc : Scope) (i : Nat) (x : Str) : Bool := decide (N[i]? = some x) && locB sc x
def parOk (vs : List Expr) : Bool := noStars vs && !vs.all (foldedForSure 8) && !vs.all (constantsAlone 8)
def isLoc (sc : Scope) (x : Str) : Bool := decide (sc.names.lookup x = some .local)
def asPar2 : Stmt → Option (Str × Pos × Str × Pos × Expr × Expr)
  | .Assign [.Tuple [.Name x px, .Name y py] _ _] (.Tuple [a, b] _ _) _ => some (x, px, y, py, a, b)
  | _ => none
def asPar3 : Stmt → Option (Str × Pos × Str × Pos × Str × Pos × Expr × Expr × Expr)
  | .Assign [.Tuple [.Name x px, .Name y py, .Name z pz] _ _] (.Tuple [a, b, c] _ _) _ => some (x, px, y, py, z, pz, a, b, c)
  | _ => none
def asMth : Stmt → Option (Str × Str × Pos × Expr × Pos)
  | .Expr (.Call (.Attribute (.Name x _) m ap) [v] [] cp) _ => some (x, m, ap, v, cp)
  | _ => none
def asPut : Stmt → Option (Str × Expr × Expr)
  | .Assign [.Subscript (.Name x _) jx _] v _ => some (x, jx, v)
  | _ => none
def asD0 : Stmt → Option Str
  | .Assign [.Name x _] (.Dict [] [] _) _ => some x
  | _ => none
theorem asD0_eq {st : Stmt} {x : Str} (h : asD0 st = some x) : ∃ px dp pos, st = .Assign [.Name x px] (.Dict [] [] dp) pos := by
  unfold asD0 at h
  split at h
  · cases h; exact ⟨_, _, _, rfl⟩
  · cases h
def isNil : Expr → Bool
  | .List [] _ => true
  | _ => false
def isD0 : Expr → Bool
  | .Dict [] [] _ => true
  | _ => false
def isBoolC : Expr → Bool
  | .Constant (.bool _) _ _ => true
  | _ => false
theorem isNil_eq {x : Expr} (h : isNil x = true) : ∃ p, x = .List [] p := by
  unfold isNil at h
  split at h
  · exact ⟨_, rfl⟩
  · cases h
theorem isD0_eq {x : Expr} (h : isD0 x = true) : ∃ p, x = .Dict [] [] p := by
  unfold isD0 at h
  split at h
  · exact ⟨_, rfl⟩
  · cases h
theorem isBoolC_eq {x : Expr} (h : isBoolC x = true) : ∃ b j p, x = .Constant (.bool b) j p := by
  unfold isBoolC at h
  split at h
  · exact ⟨_, _, _, rfl⟩
  · cases h
theorem asPar2_eq {st : Stmt} {x : Str} {px : Pos} {y : Str} {py : Pos} {a b : Expr} (h : asPar2 st = some (x, px, y, py, a, b)) : ∃ kt pt k2 pt2 pos, st = .Assign [.Tuple [.Name x px, .Name y py] kt pt] (.Tuple [a, b] k2 pt2) pos := by
  unfold asPar2 at h
  split at h
  · cases h; exact ⟨_, _, _, _, _, rfl⟩
  · cases h
theorem asPar3_eq {st : Stmt} {x : Str} {px : Pos} {y : Str} {py : Pos} {z : Str} {pz : Pos} {a b c : Expr} (h : asPar3 st = some (x, px, y, py, z, pz, a, b, c)) : ∃ kt pt k2 pt2 pos, st = .Assign [.Tuple [.Name x px, .Name y py, .Name z pz] kt pt] (.Tuple [a, b, c] k2 pt2) pos := by
  unfold asPar3 at h
  split at h
  · cases h; exact ⟨_, _, _, _, _, rfl⟩
  · cases h
theorem asMth_eq {st : Stmt} {x m : Str} {ap : Pos} {v : Expr} {cp : Pos} (h : asMth st = some (x, m, ap, v, cp)) : ∃ px pos, st = .Expr (.Call (.Attribute (.Name x px) m ap) [v] [] cp) pos := by
  unfold asMth at h
  split at h
  · cases h; exact ⟨_, _, rfl⟩
  · cases h
theorem asPut_eq {st : Stmt} {x : Str} {jx v : Expr} (h : asPut st = some (x, jx, v)) : ∃ px tp pos, st = .Assign [.Subscript (.Name x px) jx tp] v pos := by
  unfold asPut at h
  split at h
  · cases h; exact ⟨_, _, _, rfl⟩
  · cases h
def asAugp : Stmt → Option (Str × Expr × Operator × Expr)
  | .AugAssign (.Subscript (.Name x _) jx _) op v _ => some (x, jx, op, v)
  | _ => none
theorem asAugp_eq {st : Stmt} {x : Str} {jx v : Expr} {op : Operator} (h : asAugp st = some (x, jx, op, v)) : ∃ px tp pos, st = .AugAssign (.Subscript (.Name x px) jx tp) op v pos := by
  unfold asAugp at h
  split at h
  · cases h; exact ⟨_, _, _, rfl⟩
  · cases h
/-- a name's method with two arguments; a pop to a pattern; a slice that is stored -/
def asMth2 : Stmt → Option (Str × Str × Pos × Expr × Expr × Pos)
  | .Expr (.Call (.Attribute (.Name x _) m ap) [v, u] [] cp) _ => some (x, m, ap, v, u, cp)
  | _ => none
theorem asMth2_eq {st : Stmt} {x m : Str} {ap : Pos} {v u : Expr} {cp : Pos} (h : asMth2 st = some (x, m, ap, v, u, cp)) : ∃ px pos, st = .Expr (.Call (.Attribute (.Name x px) m ap) [v, u] [] cp) pos := by
  unfold asMth2 at h
  split at h
  · cases h; exact ⟨_, _, rfl⟩
  · cases h
def asPopT : Stmt → Option (List Expr × Nat × Pos × Str × Str × Pos × Pos)
  | .Assign [.Tuple ts j tp] (.Call (.Attribute (.Name x _) m ap) [] [] cp) _ => some (ts, j, tp, x, m, ap, cp)
  | _ => none
theorem asPopT_eq {st : Stmt} {ts : List Expr} {j : Nat} {tp : Pos} {x m : Str} {ap cp : Pos} (h : asPopT st = some (ts, j, tp, x, m, ap, cp)) : ∃ px pos, st = .Assign [.Tuple ts j tp] (.Call (.Attribute (.Name x px) m ap) [] [] cp) pos := by
  unfold asPopT at h
  split at h
  · cases h; exact ⟨_, _, rfl⟩
  · cases h
def asSlc : Stmt → Option (Str × Expr × Expr × Expr)
  | .Assign [.Subscript (.Name x _) (.Slice (some a) (some b) none _) _] v _ => some (x, a, b, v)
  | _ => none
theorem asSlc_eq {st : Stmt} {x : Str} {a b v : Expr} (h : asSlc st = some (x, a, b, v)) : ∃ px p2 tp pos, st = .Assign [.Subscript (.Name x px) (.Slice (some a) (some b) none p2) tp] v pos := by
  unfold asSlc at h
  split at h
  · cases h; exact ⟨_, _, _, _, rfl⟩
  · cases h
def asPopA : Stmt → Option (Expr × Str × Str × Pos × Expr × Pos)
  | .Assign [t] (.Call (.Attribute (.Name x _) m ap) [v] [] cp) _ => some (t, x, m, ap, v, cp)
  | _ => none
theorem asPopA_eq {st : Stmt} {t : Expr} {x m : Str} {ap : Pos} {v : Expr} {cp : Pos} (h : asPopA st = some (t, x, m, ap, v, cp)) : ∃ px pos, st = .Assign [t] (.Call (.Attribute (.Name x px) m ap) [v] [] cp) pos := by
  unfold asPopA at h
  split at h
  · cases h; exact ⟨_, _, rfl⟩
  · cases h
def asPut2 : Stmt → Option (Str × Expr × Str × Expr × List Expr × Nat × Pos)
  | .Assign [.Tuple [.Subscript (.Name x _) jx _, .Subscript (.Name u _) ju _] _ _] (.Tuple vs k2 vp) _ => some (x, jx, u, ju, vs, k2, vp)
  | _ => none
theorem asPut2_eq {st : Stmt} {x u : Str} {jx ju : Expr} {vs : List Expr} {k2 : Nat} {vp : Pos} (h : asPut2 st = some (x, jx, u, ju, vs, k2, vp)) : ∃ px p1 pu p2 kt pt pos, st = .Assign [.Tuple [.Subscript (.Name x px) jx p1, .Subscript (.Name u pu) ju p2] kt pt] (.Tuple vs k2 vp) pos := by
  unfold asPut2 at h
  split at h
  · cases h; exact ⟨_, _, _, _, _, _, _, rfl⟩
  · cases h
def chkMut (N : List Str) (sc : Scope) (l : Bool) (i : Nat) (m : OwnF) (st : Stmt) : Bool := match m with
  | .popT p => (match asPopT st with
    | some (ts, j, tp, x, m, ap, cp) => decide (m = "pop") && (ap.endLine == cp.line) && chkVar N sc i x && chkP N sc stAll p (.Tuple ts j tp)
    | none => false)
  | .popAt a => (match asMth st with
    | some (x, m, ap, v, cp) => decide (m = "pop") && (ap.endLine == cp.line) && !isStar v && chkVar N sc i x && chkE N sc l a v
    | none => false)
  | .ins a e => (match asMth2 st with
    | some (x, m, ap, v, u, cp) => decide (m = "insert") && (ap.endLine == cp.line) && !isStar v && !isStar u && chkVar N sc i x && !e.isRd && chkE N sc l a v && chkE N sc l e u
    | none => false)
  | .slcp a b e => (match asSlc st with
    | some (x, ax, bx, v) => !isComp v && chkVar N sc i x && !e.isRd && chkE N sc l a ax && chkE N sc l b bx && chkE N sc l e v
    | none => false)
  | .popA p a => (match asPopA st with
    | some (t, x, m, ap, v, cp) => decide (m = "pop") && ((ap.endLine == cp.line) && (!isStar v && (chkVar N sc i x && (chkP N sc stAll p t && chkE N sc l a v))))
    | none => false)
  | .put2 i2 j1 j2 e => (match asPut2 st with
    | some (x, jx, u, ju, vs, k2, vp) => chkVar N sc i x && (chkVar N sc i2 u && (decide (i ≠ i2) && (plainIx jx && (plainIx ju && (!e.isRd && (chkE N sc l j1 jx && (chkE N sc l j2 ju && chkE N sc l e (.Tuple vs k2 vp))))))))
    | none => false)
  | .ksn => (match asD0 st with
    | some x => nmOk N sc i x
    | none => false)
  | .ksn2 i2 => (match asPar2 st with
    | some (x, px, y, py, a, b) => nmOk N sc i x && (nmOk N sc i2 y && (isLoc sc x && (isLoc sc y && ((px.line == py.line) && (decide (x ≠ y) && (parOk [a, b] && (isNil a && isD0 b)))))))
    | none => false)
  | .ksp e => (match asPut st with
    | some (x, jx, v) => isBoolC v && (plainIx jx && (chkVar N sc i x && chkE N sc l e jx))
    | none => false)
mutual
def chkS (N : List Str) (sc : Scope) (l : Bool) : S → Stmt → Bool
  | .skip, .Pass _ => true
  | .skip, .Expr (.Constant (.str _) _ _) _ => true
  | .ret e, .Return (some x) _ => chkE N sc l e x && !e.isRd
  | .retN, .Return none _ => true
  | .brk, .Break _ => true
  | .cnt, .Continue _ => true
  | .set o i e, .Assign [.Name x px] v _ => nmOk N sc i x && lcSw sc x px v && modeOk o e && chkE N sc l e v
  | .asg p e, .Assign [.Tuple ts j tp] v _ => (!isTupE v || hasCell sc ts || foldT v) && !isComp v && !e.isRd && chkP N sc stAll p (.Tuple ts j tp) && chkE N sc l e v
  | .par2 o1 i1 e1 o2 i2 e2, st => (match asPar2 st with
    | some (x, px, y, py, a, b) => nmOk N sc i1 x && nmOk N sc i2 y && ((isLoc sc x && isLoc sc y && (px.line == py.line)) || (!isLoc sc x || !isLoc sc y)) && decide (x ≠ y) && parOk [a, b] && modeOk o1 e1 && modeOk o2 e2 && chkE N sc l e1 a && chkE N sc l e2 b
    | none => false)
  | .par3 o1 i1 e1 o2 i2 e2 o3 i3 e3, st => (match asPar3 st with
    | some (x, px, y, py, z, pz, a, b, c) => nmOk N sc i1 x && nmOk N sc i2 y && nmOk N sc i3 z && isLoc sc x && isLoc sc y && isLoc sc z && (px.line == py.line) && (px.line == pz.line) &&
      decide (x ≠ y) && decide (x ≠ z) && decide (y ≠ z) && parOk [a, b, c] && modeOk o1 e1 && modeOk o2 e2 && modeOk o3 e3 && chkE N sc l e1 a && chkE N sc l e2 b && chkE N sc l e3 c
    | none => false)
  | .aug op i e, .AugAssign (.Name x _) op' v _ => decide (op = op') && (decide (op = .Add) || decide (op = .Sub)) && nmOk N sc i x && !e.isRd && chkE N sc l e v
  | .augp op i j e, st => (match asAugp st with
    | some (x, jx, op', v) => decide (op = op') && (decide (op = .Add) || decide (op = .Sub)) && plainIx jx && chkVar N sc i x && !e.isRd && chkE N sc l j jx && chkE N sc l e v
    | none => false)
  | .app i e, st => (match asMth st with
    | some (x, m, ap, v, cp) => decide (m = "append") && (ap.endLine == cp.line) && !isStar v && chkVar N sc i x && !e.isRd && chkE N sc l e v
    | none => false)
  | .ext i e, st => (match asMth st with
    | some (x, m, ap, v, cp) => decide (m = "extend") && (ap.endLine == cp.line) && !isStar v && chkVar N sc i x && chkE N sc l e v
    | none => false)
  | .put i j e, st => (match asPut st with
    | some (x, jx, v) => plainIx jx && !isComp v && chkVar N sc i x && !e.isRd && chkE N sc l j jx && chkE N sc l e v
    | none => false)
  | .dnew i, .Assign [.Name x px] (.Dict [] [] _) _ => nmOk N sc i x
  | .dput i j e, st => (match asPut st with
    | some (x, jx, v) => plainIx jx && !isComp v && chkVar N sc i x && !e.isRd && chkE N sc l j jx && chkE N sc l e v
    | none => false)
  | .mut i m, st => chkMut N sc l i m st
  | .ex e, .Expr v _ => !isComp v && !e.isRd && chkE N sc l e v
  | .ife c a b, .If t p q _ => chkT N sc l c t && chkSs N sc l a p && chkSs N sc l b q
  | .whl c b, .While t p [] _ => chkT N sc l c t && chkSs N sc l b p
  | .for_ tg it b, .For tx ix p [] _ => chkI N sc l it tx ix && !isSetD ix && chkP N sc stAll tg tx && chkSs N sc l b p
  | _, _ => false
def chkSs (N : List Str) (sc : Scope) (l : Bool) : SL → List Stmt → Bool
  | .nil, [] => true
  | .cons s r, x :: xs => chkS N sc l s x && chkSs N sc l r xs
  | .frz _ r, xs => chkSs N sc l r xs
  | _, _ => false
end
end Dl

set_option Elab.async false
set_option linter.all false
set_option maxRecDepth 100000
set_option maxHeartbeats 8000000
/-! the data layer, part 18: states within a def, the stores, results that are owned -/
namespace Dl
open PySem PySem.Spec PyProof.Rows L2

/-! ### how the program keeps values -/
section
variable {X : Cx} {sc : Scope}
theorem blk_fn (hk : X.env.scope.kind = .function) : X.env.blockKind = .function := by unfold Env.blockKind; rw [hk]; rfl
theorem sw_val {x : Str} {px : Pos} {v : Expr} {line : Nat} (h : isComp v = false) (t : Option Expr) : swapsWith v t line X.env = pure false := no_swap h t line X.env
theorem sw_other {elt : Expr} {gs : List Comprehension} {scope : Scope} {pos px : Pos} {x : Str} {line : Nat} (h : X.env.scope.names.lookup x = some .cell ∨ (px.line == pos.line) = false) : swapsWith (.ListComp elt gs scope pos) (some (.Name x px)) line X.env = pure false := by
  unfold swapsWith
  simp only [Expr.pos]
  rcases h with h | h
  · have : X.env.kindOf x = some .cell := h
    have e : (NameKind.cell == NameKind.local) = false := rfl
    simp [this, e]
  · simp [h]
theorem stores_none {t v : Expr} (h : isTupE v = false) : swappedStores [t] v X.env = pure none := by
  unfold swappedStores
  cases v <;> first | (cases h; done) | (cases t <;> rfl)
theorem names_len {env : Env} {line : Nat} : ∀ {ts : List Expr}, hasCell env.scope ts = true → (ts.filterMap fun t => match t with
    | .Name id pos => if env.kindOf id == some .local && pos.line == line then some id else none
    | _ => none).length < ts.length := by
  intro ts h
  induction ts with
  | nil => cases h
  | cons t r ih =>
    have le : (r.filterMap fun t => match t with
      | .Name id pos => if env.kindOf id == some .local && pos.line == line then some id else none
      | _ => none).length ≤ r.length := List.length_filterMap_le _ _
    unfold hasCell at h
    simp only [List.any_cons, Bool.or_eq_true] at h
    rw [List.filterMap_cons]
    rcases h with h | h
    · have e : (match t with
        | .Name id pos => if env.kindOf id == some .local && pos.line == line then some id else none
        | _ => none) = none := by
        split
        · rename_i x p
          simp only [Bool.not_eq_true', decide_eq_false_iff_not] at h
          have : env.kindOf x ≠ some .local := h
          simp [this]
        · rfl
      rw [e]
      simp only [List.length_cons]
      omega
    · have q := ih (by unfold hasCell; exact h)
      split
      · simp only [List.length_cons]; omega
      · simp only [List.length_cons]; omega
theorem stores_cell {ts vs : List Expr} {j k2 : Nat} {tp vp : Pos} (h : hasCell X.env.scope ts = true) : swappedStores [.Tuple ts j tp] (.Tuple vs k2 vp) X.env = pure none := by
  unfold swappedStores
  simp only [pure_bind]
  split
  · rfl
  · split
    · rfl
    · split
      · rfl
      · rename_i h1 h2 h3
        exfalso
        apply h3
        have := names_len (line := (ts.head?.map (·.pos.line)).getD 0) h
        simp only [Bool.or_eq_true, bne_iff_ne, ne_eq]
        exact .inl (Nat.ne_of_lt this)
theorem stores_sub {o i v : Expr} {p : Pos} : swappedStores [.Subscript o i p] v X.env = pure none := by
  unfold swappedStores
  cases v <;> rfl
theorem stores_fold {ts : List Expr} {v : Expr} {j : Nat} {tp : Pos} (h : foldT v = true) : swappedStores [.Tuple ts j tp] v X.env = pure none := by
  cases v <;> try (cases h; done)
  have h : (List.all _ (foldedForSure 8)) = true := h
  unfold swappedStores
  simp only [pure_bind]
  split
  · rfl
  · split
    · rfl
    · split
      · rfl
      · first | rfl | (rw [if_pos h]; rfl)
theorem starE {vs : List Expr} (h : noStars vs = true) : (vs.any fun | .Starred .. => true | _ => false) = false := by
  unfold noStars at h
  induction vs with
  | nil => rfl
  | cons v r ih =>
    simp only [List.all_cons, Bool.and_eq_true, Bool.not_eq_true'] at h
    simp only [List.any_cons]
    rw [ih h.2, Bool.or_false]
    cases v <;> first | rfl | cases h.1
theorem stores2 (hk : X.env.scope.kind = .function) {x y : Str} {px py pt pt2 : Pos} {kt k2 : Nat} {a b : Expr} (hx : X.env.scope.names.lookup x = some .local) (hy : X.env.scope.names.lookup y = some .local) (hl : (px.line == py.line) = true) (hxy : x ≠ y) (hp : parOk [a, b] = true) :
    swappedStores [.Tuple [.Name x px, .Name y py] kt pt] (.Tuple [a, b] k2 pt2) X.env = pure (some [x, y]) := by
  unfold parOk at hp
  simp only [Bool.and_eq_true, Bool.not_eq_true'] at hp
  obtain ⟨⟨h1, h2⟩, h3⟩ := hp
  have kx : X.env.kindOf x = some .local := hx
  have ky : X.env.kindOf y = some .local := hy
  have hl' : (py.line == px.line) = true := by rw [beq_iff_eq] at hl ⊢; exact hl.symm
  have s1 := starE h1
  have e0 : (some NameKind.local == some NameKind.local) = true := rfl
  have ed : [x, y].eraseDups = [x, y] := by
    have : (y == x) = false := by rw [beq_eq_false_iff_ne]; exact Ne.symm hxy
    simp [List.eraseDups_cons, this]
  unfold swappedStores
  simp only [pure_bind, blk_fn hk, s1, h2, h3, Expr.pos, List.head?_cons, Option.map_some, Option.getD_some, List.filterMap_cons, List.filterMap_nil, kx, ky, hl', beq_self_eq_true, Bool.and_self, if_true, List.length_cons, List.length_nil, ed, e0]
  exact (if_neg (by decide)).trans ((if_neg (by rw [Bool.not_eq_true]; exact s1)).trans ((if_neg (by decide)).trans ((if_neg Bool.false_ne_true).trans (if_neg Bool.false_ne_true))))
theorem stores3 (hk : X.env.scope.kind = .function) {x y z : Str} {px py pz pt pt2 : Pos} {kt k2 : Nat} {a b c : Expr} (hx : X.env.scope.names.lookup x = some .local) (hy : X.env.scope.names.lookup y = some .local) (hz : X.env.scope.names.lookup z = some .local) (hl : (px.line == py.line) = true) (hl2 : (px.line == pz.line) = true)
    (hxy : x ≠ y) (hxz : x ≠ z) (hyz : y ≠ z) (hp : parOk [a, b, c] = true) :
    swappedStores [.Tuple [.Name x px, .Name y py, .Name z pz] kt pt] (.Tuple [a, b, c] k2 pt2) X.env = pure (some [x, y, z]) := by
  unfold parOk at hp
  simp only [Bool.and_eq_true, Bool.not_eq_true'] at hp
  obtain ⟨⟨h1, h2⟩, h3⟩ := hp
  have kx : X.env.kindOf x = some .local := hx
  have ky : X.env.kindOf y = some .local := hy
  have kz : X.env.kindOf z = some .local := hz
  have hl' : (py.line == px.line) = true := by rw [beq_iff_eq] at hl ⊢; exact hl.symm
  have hl2' : (pz.line == px.line) = true := by rw [beq_iff_eq] at hl2 ⊢; exact hl2.symm
  have s1 := starE h1
  have e0 : (some NameKind.local == some NameKind.local) = true := rfl
  have ed : [x, y, z].eraseDups = [x, y, z] := by
    have a1 : (y == x) = false := by rw [beq_eq_false_iff_ne]; exact Ne.symm hxy
    have a2 : (z == x) = false := by rw [beq_eq_false_iff_ne]; exact Ne.symm hxz
    have a3 : (z == y) = false := by rw [beq_eq_false_iff_ne]; exact Ne.symm hyz
    simp [List.eraseDups_cons, a1, a2, a3]
  unfold swappedStores
  simp only [pure_bind, blk_fn hk, s1, h2, h3, Expr.pos, List.head?_cons, Option.map_some, Option.getD_some, List.filterMap_cons, List.filterMap_nil, kx, ky, kz, hl', hl2', beq_self_eq_true, Bool.and_self, if_true, List.length_cons, List.length_nil, ed, e0]
  exact (if_neg (by decide)).trans ((if_neg (by rw [Bool.not_eq_true]; exact s1)).trans ((if_neg (by decide)).trans ((if_neg Bool.false_ne_true).trans (if_neg Bool.false_ne_true))))
end
end Dl

set_option Elab.async false
set_option linter.all false
set_option maxRecDepth 100000
set_option maxHeartbeats 8000000
/-! the data layer, part 19: states within a def -/
namespace Dl
open PySem PySem.Spec PyProof.Rows L2
/-- nothing that stays was there -/
def New (H : Hp) (a : Addr) : Prop := ∀ o, H a = some o → ¬ nt o
theorem New.of {H : Hp} {a : Addr} (h : H a = none) : New H a := fun o e => by rw [h] at e; cases e
/-- .. and the def's own lists are new since it was entered -/
structure StS (W : Wd) (F0 H0 Fb F : Hp) (ρ : Env1) (σ : L2.St) (H : Hp) : Prop where
  st : St W F ρ σ H
  g0 : Good W H0
  sm : Same Fb F
  ex : Ext W F0 H0 F H
  nw : ∀ (i : Nat) b a, ρ[i]? = some b → b.live = true → σ[i]? = some (some (.ref a)) → New H0 a
theorem ks_ne {a : Addr} {es : Array DictEntry} {q : Str} : KsO a es ≠ LamX.CodeO a q := fun z => by
  unfold KsO LamX.CodeO at z
  have e := HO.ext.inj z
  have h := Heap.get?_push_size ({ objs := Array.replicate a { cls := .type "dict", data := .dict es } } : Heap) (o := { cls := .type "dict", data := .dict es }) rfl
  have hz : ({ objs := Array.replicate a { cls := .type "dict", data := .dict es } } : Heap).objs.size = a := by simp
  rw [hz] at h
  obtain ⟨oc, vs, t, h1, h2, _⟩ := (congrFun e _).mp ⟨_, 0, h, ⟨rfl, rfl, rfl⟩, rfl⟩
  rw [h] at h1
  cases h1
  cases h2
/-- what a result is, kept as b -/
def MR (W : Wd) (F H Hx : Hp) (v : V) : B → Prop
  | .val d => Dat W.K F v d
  | .own xs => ∃ a vs, v = .ref a ∧ H a = some (.lst vs) ∧ F a = none ∧ a ≠ W.R ∧ Dats W.K F vs xs ∧ xs.length ≤ 16777216 ∧ New Hx a
  | .dct kvs => ∃ a vs, v = .ref a ∧ H a = some (.dK vs) ∧ F a = none ∧ a ≠ W.R ∧ KvD W.K F vs kvs ∧ kvs.length ≤ 16777216 ∧ New Hx a
  | .ks ds => ∃ a es, v = .ref a ∧ H a = some (KsO a es) ∧ F a = none ∧ a ≠ W.R ∧ (∃ xs, KsD W.K F es xs ds) ∧ (a == sysModules) = false ∧ ds.length ≤ 16777216 ∧ New Hx a
  | _ => False
section
variable {W : Wd} {F0 H0 Fb F H Fx Hx F' H' : Hp} {ρ : Env1} {σ : L2.St}
theorem New.back {a : Addr} (n : New Hx a) (e : Ext W F0 H0 Fx Hx) (hR : a ≠ W.R) : New H0 a := fun o h k => n o (e.keep a o h k hR) k
theorem MR.ext {v : V} {b : B} (m : MR W F H Hx v b) (e : Ext W F H F' H') : MR W F' H' Hx v b := by
  cases b with
  | val d => exact Dat.mono e.sub _ _ m
  | own xs =>
    obtain ⟨a, vs, h1, h2, h3, h4, h5, h6, h7⟩ := m
    exact ⟨a, vs, h1, e.keep _ _ h2 (fun ps z => by cases z) h4, e.fr _ _ h3 h2 (fun ps z => by cases z), h4, h5.mono e.sub, h6, h7⟩
  | dct xs =>
    obtain ⟨a, vs, h1, h2, h3, h4, h5, h6, h7⟩ := m
    exact ⟨a, vs, h1, e.keep _ _ h2 (fun ps z => by cases z) h4, e.fr _ _ h3 h2 (fun ps z => by cases z), h4, h5.mono e.sub, h6, h7⟩
  | ks xs =>
    obtain ⟨a, vs, h1, h2, h3, h4, ⟨zs, h5⟩, h6, h7, h8⟩ := m
    exact ⟨a, vs, h1, e.keep _ _ h2 (fun ps z => by cases z) h4, e.fr _ _ h3 h2 (fun ps z => by cases z), h4, ⟨zs, h5.mono e.sub⟩, h6, h7, h8⟩
  | row => exact m
  | bad => exact m
theorem MR.live {v : V} {b : B} (m : MR W F H Hx v b) (l : b.live = true) : ∃ a, v = .ref a ∧ a ≠ W.R ∧ New Hx a := by
  cases b with
  | val d => cases l
  | own xs =>
    obtain ⟨a, vs, h1, h2, h3, h4, h5, h6, h7⟩ := m
    exact ⟨a, h1, h4, h7⟩
  | dct xs =>
    obtain ⟨a, vs, h1, h2, h3, h4, h5, h6, h7⟩ := m
    exact ⟨a, h1, h4, h7⟩
  | ks xs =>
    obtain ⟨a, vs, h1, h2, h3, h4, ⟨zs, h5⟩, h6, h7, h8⟩ := m
    exact ⟨a, h1, h4, h8⟩
  | row => cases l
  | bad => cases l
theorem MR.slot {v : V} {b : B} (m : MR W F H Hx v b) : SlotOk W F H (some v) b := by
  cases b with
  | val d => exact ⟨v, rfl, m⟩
  | own xs =>
    obtain ⟨a, vs, rfl, h2, h3, h4, h5, h6, h7⟩ := m
    exact ⟨a, vs, rfl, h2, h3, h4, h5, h6⟩
  | dct xs =>
    obtain ⟨a, vs, rfl, h2, h3, h4, h5, h6, h7⟩ := m
    exact ⟨a, vs, rfl, h2, h3, h4, h5, h6⟩
  | ks xs =>
    obtain ⟨a, vs, rfl, h2, h3, h4, ⟨zs, h5⟩, h6, h7, h8⟩ := m
    exact ⟨a, vs, rfl, h2, h3, h4, ⟨zs, h5⟩, h6, h7⟩
  | row => exact m.elim
  | bad => exact m.elim
theorem StS.ext (s : StS W F0 H0 Fb F ρ σ H) (e : Ext W F H F' H') : StS W F0 H0 Fb F' ρ σ H' := ⟨s.st.ext e, s.g0, s.sm.trans e.sub, s.ex.trans e, s.nw⟩
/-- a store; s0: the state when the value was asked for -/
theorem StS.setB {v : V} {b : B} (s0 : StS W F0 H0 Fb Fx ρ σ Hx) (e : Ext W Fx Hx F H) (m : MR W F H Hx v b) (i : Nat) : StS W F0 H0 Fb F (ρ.set i b) (σ.set i (some v)) H := by
  have s := s0.ext e
  have old : ∀ {j : Nat} {c : B}, i ≠ j → ∀ {a : Addr}, (ρ.set i b)[j]? = some c → (σ.set i (some v))[j]? = some (some (.ref a)) → ρ[j]? = some c ∧ σ[j]? = some (some (.ref a)) := fun {j c} hj {a} h1 h2 => by
    rw [List.getElem?_set_ne hj] at h1 h2
    exact ⟨h1, h2⟩
  have live : ∀ {j : Nat} {c : B} {a : Addr}, ρ[j]? = some c → c.live = true → σ[j]? = some (some (.ref a)) → ¬ New Hx a := fun {j c a} h1 lv h2 n => by
    obtain ⟨a', o, e1, e2, e3, _⟩ := (s0.st.sl j _ _ h1 h2).live lv
    cases e1
    exact n _ e2 e3
  have here : ∀ {c : B} {a : Addr}, (ρ.set i b)[i]? = some c → (σ.set i (some v))[i]? = some (some (.ref a)) → b = c ∧ v = .ref a := fun {c a} h1 h2 => by
    rw [List.getElem?_set] at h1 h2
    simp only [if_true] at h1 h2
    split at h1
    · split at h2
      · cases h1; cases h2; exact ⟨rfl, rfl⟩
      · cases h2
    · cases h1
  refine ⟨⟨s.st.f, s.st.g, by simp [s.st.len], fun j c w h1 h2 => ?_, fun j k a c c' h1 h2 l1 l2 h3 h4 => ?_⟩, s.g0, s.sm, s.ex, fun j c a h1 lv h2 => ?_⟩
  · by_cases hj : i = j
    · subst hj
      rw [List.getElem?_set] at h1 h2
      simp only [if_true] at h1 h2
      split at h1
      · split at h2
        · cases h1; cases h2; exact m.slot
        · cases h2
      · cases h1
    · rw [List.getElem?_set_ne hj] at h1 h2
      exact s.st.sl j c w h1 h2
  · by_cases hj : i = j
    · by_cases hk : i = k
      · rw [← hj, ← hk]
      · subst hj
        obtain ⟨rfl, rfl⟩ := here h1 h3
        obtain ⟨a1, a2⟩ := old hk h2 h4
        obtain ⟨a', z, _, n⟩ := m.live l1
        cases z
        exact absurd n (live a1 l2 a2)
    · by_cases hk : i = k
      · subst hk
        obtain ⟨rfl, rfl⟩ := here h2 h4
        obtain ⟨a1, a2⟩ := old hj h1 h3
        obtain ⟨a', z, _, n⟩ := m.live l2
        cases z
        exact absurd n (live a1 l1 a2)
      · obtain ⟨a1, a2⟩ := old hj h1 h3
        obtain ⟨b1, b2⟩ := old hk h2 h4
        exact s0.st.dj j k a c c' a1 b1 l1 l2 a2 b2
  · by_cases hj : i = j
    · subst hj
      obtain ⟨rfl, rfl⟩ := here h1 h2
      obtain ⟨a', z, hR, n⟩ := m.live lv
      cases z
      exact n.back s0.ex hR
    · obtain ⟨a1, a2⟩ := old hj h1 h2
      exact s0.nw j c a a1 lv a2
theorem SlotOk.liveK {v : Option V} {b : B} (h : SlotOk W F H v b) (l : b.live = true) : ∃ a o, v = some (.ref a) ∧ H a = some o ∧ ((∃ xs, o = .lst xs) ∨ (∃ vs, o = .dK vs) ∨ ∃ es, o = KsO a es) ∧ F a = none ∧ a ≠ W.R := by
  cases b with
  | val d => cases l
  | own xs =>
    obtain ⟨a, vs, h1, h2, h3, h4, _⟩ := h
    exact ⟨a, _, h1, h2, .inl ⟨_, rfl⟩, h3, h4⟩
  | dct kvs =>
    obtain ⟨a, vs, h1, h2, h3, h4, _⟩ := h
    exact ⟨a, _, h1, h2, .inr (.inl ⟨_, rfl⟩), h3, h4⟩
  | ks kvs =>
    obtain ⟨a, vs, h1, h2, h3, h4, _⟩ := h
    exact ⟨a, _, h1, h2, .inr (.inr ⟨_, rfl⟩), h3, h4⟩
  | row => cases l
  | bad => cases l
/-- what is owned is written -/
theorem StS.writeG {b0 b1 : B} {o1 : HO} {i : Nat} {a : Addr} (s : StS W F0 H0 Fb F ρ σ H) (h1 : ρ[i]? = some b0) (l0 : b0.live = true) (l1 : b1.live = true) (h2 : σ[i]? = some (some (.ref a))) (hs1 : F a = none → a ≠ W.R → SlotOk W F (upd H a o1) (some (.ref a)) b1) : StS W F0 H0 Fb F (ρ.set i b1) σ (upd H a o1) := by
  obtain ⟨a', o0, e1, e2, e25, e3, e4⟩ := (s.st.sl i _ _ h1 h2).liveK l0
  cases e1
  have sb : FOk W F (upd H a o1) := ⟨fun b o q => by
    have hb : b ≠ a := fun z => by rw [z, e3] at q; cases q
    rw [upd_ne hb]; exact s.st.f.sub b o q, s.st.f.imm, s.st.f.nr⟩
  have gd : Good W (upd H a o1) := by
    obtain ⟨⟨⟨i, s1, gg, q1, hb⟩, ns, hs, hl⟩, t⟩ := s.st.g
    obtain ⟨⟨_, ns0, hs0, hl0⟩, _⟩ := s.g0
    refine ⟨⟨⟨i, s1, gg, by rw [upd_ne (Ne.symm e4)]; exact q1, hb⟩, ?_⟩, fun p hp => ?_⟩
    · rcases hs0 with ⟨hs0, _⟩ | hs0
      · have nS : W.S ≠ a := fun z => by
          rcases hs0 with h | ⟨o, h⟩
          · exact s.nw _ _ _ h1 l0 h2 _ (z ▸ h) (fun ps q => by cases q)
          · exact s.nw _ _ _ h1 l0 h2 _ (z ▸ h) (fun ps q => by cases q)
        exact ⟨ns, hs.imp fun o h _ _ => by rw [upd_ne nS]; exact h, hl⟩
      · exact ⟨ns0, .inr hs0, hl0⟩
    · obtain ⟨ps, t1, t2, t3⟩ := t p hp
      have n1 : p.1 ≠ a := fun z => by rw [z, e2] at t1; rcases e25 with ⟨_, rfl⟩ | ⟨_, rfl⟩ | ⟨_, rfl⟩ <;> cases t1
      refine ⟨ps, by rw [upd_ne n1]; exact t1, t2, fun pos cv h => ?_⟩
      obtain ⟨c, c1, c2⟩ := t3 pos cv h
      have n2 : c ≠ a := fun z => by rw [z, e2] at c2; rcases e25 with ⟨_, rfl⟩ | ⟨_, rfl⟩ | ⟨_, rfl⟩; (cases c2); (cases c2); exact ks_ne (Option.some.inj c2)
      exact ⟨c, c1, by rw [upd_ne n2]; exact c2⟩
  refine ⟨⟨sb, gd, by simp [s.st.len], fun j c w q1 q2 => ?_, fun j k b c c' q1 q2 l1 l2 q3 q4 => ?_⟩, s.g0, s.sm, ⟨fun b o q1 q2 q3 => ?_, s.ex.sub, s.ex.fr, sb, gd⟩, fun j c b q1 lv q2 => ?_⟩
  · by_cases hj : i = j
    · subst hj
      rw [List.getElem?_set] at q1
      simp only [if_true] at q1
      split at q1
      · cases q1
        rw [h2] at q2
        cases q2
        exact hs1 e3 e4
      · cases q1
    · rw [List.getElem?_set_ne hj] at q1
      have q := s.st.sl j c w q1 q2
      cases c with
      | val d => exact q
      | own zs =>
        obtain ⟨b, us', rfl, r2, r3⟩ := q
        have : b ≠ a := fun z => by
          subst z
          exact hj (s.st.dj i j b _ _ h1 q1 l0 rfl h2 q2)
        exact ⟨b, us', rfl, by rw [upd_ne this]; exact r2, r3⟩
      | dct zs =>
        obtain ⟨b, us', rfl, r2, r3⟩ := q
        have : b ≠ a := fun z => by
          subst z
          exact hj (s.st.dj i j b _ _ h1 q1 l0 rfl h2 q2)
        exact ⟨b, us', rfl, by rw [upd_ne this]; exact r2, r3⟩
      | ks zs =>
        obtain ⟨b, us', rfl, r2, r3⟩ := q
        have : b ≠ a := fun z => by
          subst z
          exact hj (s.st.dj i j b _ _ h1 q1 l0 rfl h2 q2)
        exact ⟨b, us', rfl, by rw [upd_ne this]; exact r2, r3⟩
      | row => exact q
      | bad => exact q
  · have lift : ∀ {m : Nat} {ws : B}, (ρ.set i b1)[m]? = some ws → ws.live = true → ∃ ws', ρ[m]? = some ws' ∧ ws'.live = true := fun {m ws} q lw => by
      by_cases hm : i = m
      · subst hm; exact ⟨_, h1, l0⟩
      · rw [List.getElem?_set_ne hm] at q; exact ⟨_, q, lw⟩
    obtain ⟨w1, r1, r1'⟩ := lift q1 l1
    obtain ⟨w2, r2, r2'⟩ := lift q2 l2
    exact s.st.dj j k b _ _ r1 r2 r1' r2' q3 q4
  · have hb : b ≠ a := fun z => by
      subst z
      exact s.nw i _ b h1 l0 h2 o q1 q2
    rw [upd_ne hb]
    exact s.ex.keep b o q1 q2 q3
  · by_cases hj : i = j
    · subst hj
      rw [h2] at q2
      cases q2
      exact s.nw i _ a h1 l0 h2
    · rw [List.getElem?_set_ne hj] at q1
      exact s.nw j _ b q1 lv q2
/-- an owned list is written -/
theorem StS.write {xs ys : List PyData} {vs : List V} {i : Nat} {a : Addr} (s : StS W F0 H0 Fb F ρ σ H) (h1 : ρ[i]? = some (.own xs)) (h2 : σ[i]? = some (some (.ref a))) (d : Dats W.K F vs ys) (z : ys.length ≤ 16777216) : StS W F0 H0 Fb F (ρ.set i (.own ys)) σ (upd H a (.lst vs)) :=
  s.writeG h1 rfl rfl h2 fun e3 e4 => ⟨a, vs, rfl, upd_same, e3, e4, d, z⟩
/-- an owned dict is written -/
theorem StS.writeD {xs ys : List (Int × PyData)} {vs : List (Key × V)} {i : Nat} {a : Addr} (s : StS W F0 H0 Fb F ρ σ H) (h1 : ρ[i]? = some (.dct xs)) (h2 : σ[i]? = some (some (.ref a))) (d : KvD W.K F vs ys) (z : ys.length ≤ 16777216) : StS W F0 H0 Fb F (ρ.set i (.dct ys)) σ (upd H a (.dK vs)) :=
  s.writeG h1 rfl rfl h2 fun e3 e4 => ⟨a, vs, rfl, upd_same, e3, e4, d, z⟩
theorem StS.writeK {xs ys : List PyData} {es : Array DictEntry} {i : Nat} {a : Addr} (s : StS W F0 H0 Fb F ρ σ H) (h1 : ρ[i]? = some (.ks xs)) (h2 : σ[i]? = some (some (.ref a))) (d : ∃ zs, KsD W.K F es zs ys) (hm : (a == sysModules) = false) (z : ys.length ≤ 16777216) : StS W F0 H0 Fb F (ρ.set i (.ks ys)) σ (upd H a (KsO a es)) :=
  s.writeG h1 rfl rfl h2 fun e3 e4 => ⟨a, es, rfl, upd_same, e3, e4, d, hm, z⟩
/-- an owned list is kept as data from now on -/
theorem StS.frz {xs : List PyData} {i : Nat} (s : StS W F0 H0 Fb F ρ σ H) (h1 : ownAt ρ i = some xs) : ∃ F', StS W F0 H0 Fb F' (ρ.set i (.val (.list xs))) σ H := by
  have h1 : ρ[i]? = some (.own xs) := by
    unfold ownAt at h1
    split at h1
    · rename_i e; cases h1; exact e
    · cases h1
  obtain ⟨w, h2, a, us, rfl, e2, e3, e4, e5, e6⟩ := s.st.slot h1
  have sm : Same F (upd F a (.lst us)) := fun b o q => by
    have hb : b ≠ a := fun z => by rw [z, e3] at q; cases q
    rw [upd_ne hb]; exact q
  refine ⟨upd F a (.lst us), ⟨Ext.frzOwn s.st.f s.st.g e2 e4, s.st.g, by simp [s.st.len], fun j c w q1 q2 => ?_, fun j k b c c' q1 q2 l1 l2 q3 q4 => ?_⟩, s.g0, s.sm.trans sm, ⟨s.ex.keep, s.ex.sub.trans sm, fun b o q1 q2 q3 => ?_, Ext.frzOwn s.st.f s.st.g e2 e4, s.st.g⟩, fun j c b q1 lv q2 => ?_⟩
  · by_cases hj : i = j
    · subst hj
      rw [List.getElem?_set] at q1
      simp only [if_true] at q1
      split at q1
      · cases q1
        rw [h2] at q2
        cases q2
        exact ⟨_, rfl, .lst upd_same (e5.mono sm) e6⟩
      · cases q1
    · rw [List.getElem?_set_ne hj] at q1
      have q := s.st.sl j c w q1 q2
      cases c with
      | val d => obtain ⟨x, r1, r2⟩ := q; exact ⟨x, r1, r2.mono sm⟩
      | own zs =>
        obtain ⟨b, us', rfl, r2, r3, r4, r5, r6⟩ := q
        have : b ≠ a := fun z => by
          subst z
          exact hj (s.st.dj i j b _ _ h1 q1 rfl rfl h2 q2)
        exact ⟨b, us', rfl, r2, by rw [upd_ne this]; exact r3, r4, r5.mono sm, r6⟩
      | dct zs =>
        obtain ⟨b, us', rfl, r2, r3, r4, r5, r6⟩ := q
        have : b ≠ a := fun z => by
          subst z
          exact hj (s.st.dj i j b _ _ h1 q1 rfl rfl h2 q2)
        exact ⟨b, us', rfl, r2, by rw [upd_ne this]; exact r3, r4, r5.mono sm, r6⟩
      | ks zs =>
        obtain ⟨b, us', rfl, r2, r3, r4, ⟨ys, r5⟩, r6⟩ := q
        have : b ≠ a := fun z => by
          subst z
          exact hj (s.st.dj i j b _ _ h1 q1 rfl rfl h2 q2)
        exact ⟨b, us', rfl, r2, by rw [upd_ne this]; exact r3, r4, ⟨ys, r5.mono sm⟩, r6⟩
      | row => exact q
      | bad => exact q
  · have lift : ∀ {m : Nat} {ws : B}, (ρ.set i (.val (.list xs)))[m]? = some ws → ws.live = true → i ≠ m ∧ ρ[m]? = some ws := fun {m ws} q lw => by
      by_cases hm : i = m
      · subst hm
        rw [List.getElem?_set] at q
        simp only [if_true] at q
        split at q <;> cases q
        cases lw
      · rw [List.getElem?_set_ne hm] at q; exact ⟨hm, q⟩
    exact s.st.dj j k b _ _ (lift q1 l1).2 (lift q2 l2).2 l1 l2 q3 q4
  · have hb : b ≠ a := fun z => by
      subst z
      exact s.nw i _ b h1 rfl h2 o q2 q3
    rw [upd_ne hb]
    exact s.ex.fr b o q1 q2 q3
  · have hj : i ≠ j := fun z => by
      subst z
      rw [List.getElem?_set] at q1
      simp only [if_true] at q1
      split at q1 <;> cases q1
      cases lv
    rw [List.getElem?_set_ne hj] at q1
    exact s.nw j _ b q1 lv q2
end
end Dl

set_option Elab.async false
set_option linter.all false
set_option maxRecDepth 100000
set_option maxHeartbeats 8000000
/-! the data layer, part 20: statements, one by one -/
namespace Dl
open PySem PySem.Spec PyProof.Rows L2
structure CtxS (W : Wd) (Γ : Gam) (k : Nat) (EX : XK) (N : List Str) (sc : Scope) (l : Bool) (X : Cx) : Prop where
  ok : CtxOk W Γ k EX N sc l X
  fn : ∀ x, X.fn x = true
  kind : sc.kind = .function
  own : PassesOwn (model X.prog X.w) X.A X.env X.xe
theorem _root_.L2.PS.impD {X : Cx} {e : Stmt} {t t' : TS} (h : PS X e t) (i : ∀ D σ H, t' D σ H → t D σ H) : PS X e t' := ⟨fun pins s σ H D I q => h.run pins s σ H D I (i _ _ _ q)⟩
theorem _root_.L2.PSs.impD {X : Cx} {e : List Stmt} {t t' : TS} (h : PSs X e t) (i : ∀ D σ H, t' D σ H → t D σ H) : PSs X e t' := ⟨fun pins s σ H D I q => h.run pins s σ H D I (i _ _ _ q)⟩
structure EndsOk (W : Wd) (EX : XK) (F0 H0 Fb : Hp) (P : Post) (D : Ends) : Prop where
  nx : ∀ F ρ σ H, StS W F0 H0 Fb F ρ σ H → P.nx ρ → D.nx σ H
  rt : ∀ F d v H, Ext W F0 H0 F H → Dat W.K F v d → P.rt d → D.rt v H
  bk : ∀ F ρ σ H, StS W F0 H0 Fb F ρ σ H → P.bk ρ → D.bk σ H
  ct : ∀ F ρ σ H, StS W F0 H0 Fb F ρ σ H → P.ct ρ → D.ct σ H
  xc : XOK W EX F0 H0 P.xc
def tB (W : Wd) (Γ : Gam) (EX : XK) (b : S) : TS := fun D σ H => ∃ F0 H0 Fb F ρ P, StS W F0 H0 Fb F ρ σ H ∧ wpS Γ b ρ P ∧ EndsOk W EX F0 H0 Fb P D
def tBs (W : Wd) (Γ : Gam) (EX : XK) (b : SL) : TS := fun D σ H => ∃ F0 H0 Fb F ρ P, StS W F0 H0 Fb F ρ σ H ∧ wpSs Γ b ρ P ∧ EndsOk W EX F0 H0 Fb P D
def tM (W : Wd) (Γ : Gam) (EX : XK) (o : Bool) (e : E) : TE := fun σ H Q => ∃ F ρ K Xd, St W F ρ σ H ∧ wpM Γ o e ρ K Xd ∧ (∀ b v F' H', Ext W F H F' H' → MR W F' H' H v b → K b → Q v H') ∧ XOK W EX F H Xd
section
variable {W : Wd} {Γ : Gam} {EX : XK} {X : Cx} {k : Nat} {N : List Str} {sc : Scope} {l : Bool}
theorem New.ext {F H F' H' : Hp} {p : Addr} (e : Ext W F H F' H') (n : H' p = none) : New H p := fun o h t => by
  by_cases hR : p = W.R
  · exact e.gd.nR (hR ▸ n)
  · rw [e.keep p o h t hR] at n; cases n
theorem tZ_of_tM {e : E} {σ : L2.St} {H : Hp} {Q : VK} (h : tM W Γ EX true e σ H Q) : tZ W Γ EX e σ H Q := by
  obtain ⟨F, ρ, K, Xd, s, w, q, x⟩ := h
  refine ⟨F, ρ, _, Xd, s, w, fun d F' H' e ⟨xs, h1, h2⟩ => ?_, x⟩
  subst h1
  exact fun p vs n dd z => q (.own xs) _ F' _ (e.trans (Ext.new e.ok e.gd n)) ⟨p, vs, rfl, upd_same, e.ok.none n, fun z => e.gd.nR (z ▸ n), dd, z, New.ext e n⟩ h2
theorem tE_of_tM {e : E} {σ : L2.St} {H : Hp} {Q : VK} (h : tM W Γ EX false e σ H Q) : tE W Γ EX e σ H Q := by
  obtain ⟨F, ρ, K, Xd, s, w, q, x⟩ := h
  exact ⟨F, ρ, _, Xd, s, w, fun d v F' H' e r h1 => q (.val d) v F' H' e r h1, x⟩
theorem m_of {o : Bool} {e : E} {x : Expr} (h : Snd W Γ EX X e x) (hm : modeOk o e = true) : PE X x (tM W Γ EX o e) := by
  unfold modeOk at hm
  cases o with
  | true => exact (h.z hm).impD fun σ H Q q => tZ_of_tM q
  | false => exact (h.e (by simpa using hm)).impD fun σ H Q q => tE_of_tM q
theorem XOK.up {F0 H0 F H : Hp} {Xd : Str → Prop} (x : XOK W EX F0 H0 Xd) (e : Ext W F0 H0 F H) : XOK W EX F H Xd := x.ext e
/-! ### stores of a name -/
theorem nm_of {i : Nat} {x : Str} (C : CtxS W Γ k EX N sc l X) (h : nmOk N sc i x = true) : X.N[i]? = some x ∧ Loc X.env.scope x := by
  unfold nmOk at h
  simp only [Bool.and_eq_true, decide_eq_true_eq] at h
  exact ⟨by rw [C.ok.hN]; exact h.1, by rw [C.ok.hsc]; exact loc_of h.2⟩
theorem set_imp {o : Bool} {i : Nat} {e : E} {D : Ends} {σ : L2.St} {H : Hp} (h : tB W Γ EX (.set o i e) D σ H) : tAsg (tM W Γ EX o e) (gName i) D σ H := by
  obtain ⟨F0, H0, Fb, F, ρ, P, s, w, q⟩ := h
  have w : wpM Γ o e ρ (fun b => P.nx (ρ.set i b)) P.xc := w
  exact ⟨F, ρ, _, _, s.st, w, fun b v F' H' e1 m h1 => q.nx _ _ _ _ (s.setB e1 m i) h1, q.xc.ext s.ex⟩
/-- a comprehension's value kept under a local's name on the same line -/
theorem setLc (C : CtxS W Γ k EX N sc l X) {e : E} {elt : Expr} {gs : List Comprehension} {scope : Scope} {pos spos px : Pos} {i : Nat} {x : Str} (hi : X.N[i]? = some x) (hl : X.env.scope.names.lookup x = some .local)
    (hsw : swapsWith (.ListComp elt gs scope pos) (some (.Name x px)) spos.line X.env = pure true) (h : chkE N sc l e (.ListComp elt gs scope pos) = true) : PS X (.Assign [.Name x px] (.ListComp elt gs scope pos) spos) (tAsg (tZ W Γ EX e) (gName i)) := by
  cases e <;> try (cases h; done)
  rotate_left 3
  · rename_i f a
    cases f <;> cases h
  · rename_i kd i a
    cases kd <;> cases h
  · rename_i elt' own tg it cs
    match gs, h with
    | [], h => cases h
    | ⟨_, _, _, _⟩ :: ⟨_, _, _, _⟩ :: _, h => cases h
    | [⟨tx, ix, ifs, n⟩], h =>
      have h : (decide (n = 0) && blkC N sc scope own && chkI N sc l it tx ix && !isSetD ix && chkP N (relS scope sc) (stBlk scope sc) tg tx && decide (∀ i ∈ tg.slots, i ∈ own.map (·.2)) &&
        chkTs N (relS scope sc) cs ifs && chkE N (relS scope sc) false elt' elt && !elt'.isRd) = true := h
      simp only [Bool.and_eq_true, decide_eq_true_eq, Bool.not_eq_true'] at h
      obtain ⟨⟨⟨⟨⟨⟨⟨⟨rfl, h1⟩, h2⟩, h3⟩, h4⟩, h5⟩, h6⟩, h7⟩, h8⟩ := h
      have C := C.ok
      refine (ps_setLc C.calm (by rw [C.hN]; exact C.nd) hi hl hsw (sndI it C tx ix h2) (by rw [C.hN, C.hsc]; exact blkOk_by h1)
        (fun s H L cl fp => blkP C s H cl L fp h4) (fun s H L cl fp => sndTs cs (C.blk s H cl L fp) ifs h6) (fun s H L cl fp => (snd elt' (C.blk s H cl L fp) elt h7).e h8) (no_fold h3 X.env)).impD fun D σ H q => ?_
      exact lc_imp h5 q
  · rename_i elt' own tg it cs vs1 tg1 it1 cs1
    match gs, h with
    | [], h => cases h
    | [⟨_, _, _, _⟩], h => cases h
    | ⟨_, _, _, _⟩ :: ⟨_, _, _, _⟩ :: ⟨_, _, _, _⟩ :: _, h => cases h
    | [⟨tx, ix, ifs, n⟩, ⟨tx1, ix1, ifs1, n1⟩], h =>
      have h : (decide (n = 0) && decide (n1 = 0) && blkC N sc scope own && chkI N sc l it tx ix && !isSetD ix && chkP N (relS scope sc) (stBlk scope sc) tg tx && decide (∀ i ∈ tg.slots, i ∈ own.map (·.2)) &&
        chkTs N (relS scope sc) cs ifs && chkI N (relS scope sc) false it1 tx1 ix1 && !isSetD ix1 && chkP N (relS scope sc) (stBlk scope sc) tg1 tx1 && decide (∀ i ∈ tg1.slots, i ∈ vs1) && decide (∀ i ∈ vs1, i ∈ own.map (·.2)) &&
        chkTs N (relS scope sc) cs1 ifs1 && chkE N (relS scope sc) false elt' elt && !elt'.isRd) = true := h
      simp only [Bool.and_eq_true, decide_eq_true_eq, Bool.not_eq_true'] at h
      obtain ⟨⟨⟨⟨⟨⟨⟨⟨⟨⟨⟨⟨⟨⟨⟨rfl, rfl⟩, h1⟩, h2⟩, h3⟩, h4⟩, h5⟩, h6⟩, h7⟩, h8⟩, h9⟩, h10⟩, h11⟩, h12⟩, h13⟩, h14⟩ := h
      have C := C.ok
      refine (ps_setLc2 C.calm (by rw [C.hN]; exact C.nd) hi hl hsw (sndI it C tx ix h2) (by rw [C.hN, C.hsc]; exact blkOk_by h1) h11
        (fun s H L cl fp => blkP C s H cl L fp h4) (fun s H L cl fp => sndTs cs (C.blk s H cl L fp) ifs h6) (fun s H L cl fp => sndI it1 (C.blk s H cl L fp) tx1 ix1 h7) (fun s H L cl fp => blkP C s H cl L fp h9) (fun s H L cl fp => sndTs cs1 (C.blk s H cl L fp) ifs1 h12)
        (fun s H L cl fp => (snd elt' (C.blk s H cl L fp) elt h13).e h14) (no_fold h3 X.env) (fun env => no_fold h8 env)).impD fun D σ H q => ?_
      exact lc2_imp h5 h10 h11 q
  · rename_i elt' own tg it cs vs1 tg1 it1 cs1 vs2 tg2 it2 cs2
    match gs, h with
    | [], h => cases h
    | [⟨_, _, _, _⟩], h => cases h
    | [⟨_, _, _, _⟩, ⟨_, _, _, _⟩], h => cases h
    | ⟨_, _, _, _⟩ :: ⟨_, _, _, _⟩ :: ⟨_, _, _, _⟩ :: ⟨_, _, _, _⟩ :: _, h => cases h
    | [⟨tx, ix, ifs, n⟩, ⟨tx1, ix1, ifs1, n1⟩, ⟨tx2, ix2, ifs2, n2⟩], h =>
      have h : (decide (n = 0) && decide (n1 = 0) && decide (n2 = 0) && blkC N sc scope own && chkI N sc l it tx ix && !isSetD ix && chkP N (relS scope sc) (stBlk scope sc) tg tx && decide (∀ i ∈ tg.slots, i ∈ own.map (·.2)) && chkTs N (relS scope sc) cs ifs &&
        (chkI N (relS scope sc) false it1 tx1 ix1 && !isSetD ix1 && chkP N (relS scope sc) (stBlk scope sc) tg1 tx1 && decide (∀ i ∈ tg1.slots, i ∈ vs1) && decide (∀ i ∈ vs1, i ∈ own.map (·.2)) && chkTs N (relS scope sc) cs1 ifs1) &&
        (chkI N (relS scope sc) false it2 tx2 ix2 && !isSetD ix2 && chkP N (relS scope sc) (stBlk scope sc) tg2 tx2 && decide (∀ i ∈ tg2.slots, i ∈ vs2) && decide (∀ i ∈ vs2, i ∈ vs1) && chkTs N (relS scope sc) cs2 ifs2) && chkE N (relS scope sc) false elt' elt && !elt'.isRd) = true := h
      simp only [Bool.and_eq_true, decide_eq_true_eq, Bool.not_eq_true'] at h
      obtain ⟨⟨⟨⟨⟨⟨⟨⟨⟨⟨⟨⟨rfl, rfl⟩, rfl⟩, h1⟩, h2⟩, h3⟩, h4⟩, h5⟩, h6⟩, g1⟩, g2⟩, h13⟩, h14⟩ := h
      obtain ⟨⟨⟨⟨⟨a1, a2⟩, a3⟩, a4⟩, a5⟩, a6⟩ := g1
      obtain ⟨⟨⟨⟨⟨b1, b2⟩, b3⟩, b4⟩, b5⟩, b6⟩ := g2
      have C := C.ok
      refine (ps_setLcN hi hl hsw C.calm (by rw [C.hN]; exact C.nd) (sndI it C tx ix h2) (by rw [C.hN, C.hsc]; exact blkOk_by h1) a5 (fun s H L cl fp => blkP C s H cl L fp h4) (fun s H L cl fp => sndTs cs (C.blk s H cl L fp) ifs h6) (no_fold h3 X.env)
        (hb3 C.calm a2 b2 b5 (fun s H L cl fp => sndI it1 (C.blk s H cl L fp) tx1 ix1 a1) (fun s H L cl fp => blkP C s H cl L fp a3) (fun s H L cl fp => sndTs cs1 (C.blk s H cl L fp) ifs1 a6)
          (fun s H L cl fp => sndI it2 (C.blk s H cl L fp) tx2 ix2 b1) (fun s H L cl fp => blkP C s H cl L fp b3) (fun s H L cl fp => sndTs cs2 (C.blk s H cl L fp) ifs2 b6) (fun s H L cl fp => (snd elt' (C.blk s H cl L fp) elt h13).e h14))).impD fun D σ H q => ?_
      exact lc3_imp h5 a4 b4 q
theorem asg_z {o : Bool} {e : E} {i : Nat} {D : Ends} {σ : L2.St} {H : Hp} (h : tAsg (tM W Γ EX o e) (gName i) D σ H) : tAsg (tZ W Γ EX e) (gName i) D σ H := by
  cases o with
  | true => exact tZ_of_tM h
  | false => exact tE_of_tZ (tE_of_tM h)
theorem b_set (C : CtxS W Γ k EX N sc l X) {o : Bool} {i : Nat} {e : E} {x : Str} {px pos : Pos} {v : Expr} (hn : nmOk N sc i x = true) (hsw : lcSw sc x px v = true) (hm : modeOk o e = true) (h : chkE N sc l e v = true) : PS X (.Assign [.Name x px] v pos) (tB W Γ EX (.set o i e)) := by
  obtain ⟨hi, hx⟩ := nm_of C hn
  have hN : X.N.Nodup := by rw [C.ok.hN]; exact C.ok.nd
  have plain : swapsWith v (some (.Name x px)) pos.line X.env = pure false → PS X (.Assign [.Name x px] v pos) (tB W Γ EX (.set o i e)) := fun hs =>
    (ps_set hN hi hx (m_of (snd e C.ok v h) hm) hs (.inl (C.fn x))).impD fun D σ H q => set_imp q
  by_cases hc : isComp v = true
  · cases v <;> first | (cases hc; done) | (cases hsw; done) | skip
    case ListComp elt gs scope cpos =>
      have hsw : ((decide (sc.names.lookup x = some .local) && (px.line == cpos.line) && lcNo scope x) || decide (sc.names.lookup x = some .cell) || (decide (sc.names.lookup x = some .local) && !(px.line == cpos.line))) = true := hsw
      simp only [Bool.or_eq_true, Bool.and_eq_true, decide_eq_true_eq, Bool.not_eq_true'] at hsw
      rcases hsw with (⟨⟨a1, a2⟩, a3⟩ | a) | ⟨_, a⟩
      · have hl : X.env.scope.names.lookup x = some .local := by rw [C.ok.hsc]; exact a1
        have hsw : swapsWith (.ListComp elt gs scope cpos) (some (.Name x px)) pos.line X.env = pure true := sw_true (by rw [C.ok.hsc]; exact C.kind) hl a2 (by unfold lcNo at a3; simpa using a3)
        exact (setLc C hi hl hsw h).impD fun D σ H q => asg_z (set_imp q)
      · exact plain (sw_other (.inl (by rw [C.ok.hsc]; exact a)))
      · exact plain (sw_other (.inr a))
  · exact plain (no_swap (by simpa using hc) _ _ _)
end
end Dl

set_option Elab.async false
set_option linter.all false
set_option maxRecDepth 100000
set_option maxHeartbeats 8000000
/-! the data layer, part 21: statements, more -/
namespace Dl
open PySem PySem.Spec PyProof.Rows L2
section
variable {W : Wd} {Γ : Gam} {EX : XK} {X : Cx} {k : Nat} {N : List Str} {sc : Scope} {l : Bool}
theorem StS.bind {F0 H0 Fb F H : Hp} {ρ ρ' : Env1} {σ σ' : L2.St} {p : Pat} {d : PyData} (s : StS W F0 H0 Fb F ρ σ H) (hb : bindP p d ρ = some ρ') (s' : St W F ρ' σ' H) (o : SlotsOnly p.slots σ σ') : StS W F0 H0 Fb F ρ' σ' H :=
  ⟨s', s.g0, s.sm, s.ex, fun j xs a h1 lv h2 => by
    obtain ⟨n, h3⟩ := bindP_own p d ρ ρ' hb j xs h1 lv
    rw [← wipe_at n, o p.slots fun _ z => z, wipe_at n] at h2
    exact s.nw j xs a h3 lv h2⟩
theorem sndPS (C : CtxS W Γ k EX N sc l X) {p : Pat} {x : Expr} (h : chkP N sc stAll p x = true) : PG X x (gP W p) := sndP C.ok.hK C.ok.hN C.ok.nd C.ok.hsc C.ok.calm (fun x _ _ => .inl (C.fn x)) p x h
theorem b_asg (C : CtxS W Γ k EX N sc l X) {p : Pat} {e : E} {ts : List Expr} {j : Nat} {tp pos : Pos} {v : Expr} (hs : swappedStores [.Tuple ts j tp] v X.env = pure none) (hc : isComp v = false) (hr : e.isRd = false) (hp : chkP N sc stAll p (.Tuple ts j tp) = true) (h : chkE N sc l e v = true) :
    PS X (.Assign [.Tuple ts j tp] v pos) (tB W Γ EX (.asg p e)) := by
  refine (ps_asg ((snd e C.ok v h).e hr) (sndPS C hp) (no_swap hc (some (.Tuple ts j tp)) pos.line X.env) hs rfl).impD fun D σ H q => ?_
  obtain ⟨F0, H0, Fb, F, ρ, P, s, w, q⟩ := q
  have w : wpE Γ e ρ (fun d => opt (bindP p d ρ) P.nx) P.xc := w
  refine ⟨F, ρ, _, _, s.st, w, fun d v F' H' e1 r ⟨ρ', hb, h1⟩ => ?_, q.xc.ext s.ex⟩
  exact ⟨F', ρ, d, ρ', s.st.ext e1, r, hb, fun σ' s' o => q.nx _ _ _ _ ((s.ext e1).bind hb s' o) h1⟩
theorem b_par2 (C : CtxS W Γ k EX N sc l X) {o1 o2 : Bool} {i1 i2 : Nat} {e1 e2 : E} {x y : Str} {px py pt pt2 pos : Pos} {kt k2 : Nat} {a b : Expr} (h1 : nmOk N sc i1 x = true) (h2 : nmOk N sc i2 y = true) (l1 : isLoc sc x = true) (l2 : isLoc sc y = true) (hl : (px.line == py.line) = true) (hxy : x ≠ y) (hp : parOk [a, b] = true)
    (m1 : modeOk o1 e1 = true) (m2 : modeOk o2 e2 = true) (c1 : chkE N sc l e1 a = true) (c2 : chkE N sc l e2 b = true) : PS X (.Assign [.Tuple [.Name x px, .Name y py] kt pt] (.Tuple [a, b] k2 pt2) pos) (tB W Γ EX (.par2 o1 i1 e1 o2 i2 e2)) := by
  obtain ⟨n1, _⟩ := nm_of C h1
  obtain ⟨n2, _⟩ := nm_of C h2
  unfold isLoc at l1 l2
  rw [decide_eq_true_eq] at l1 l2
  have hk : X.env.scope.kind = .function := by rw [C.ok.hsc]; exact C.kind
  have lx : X.env.scope.names.lookup x = some .local := by rw [C.ok.hsc]; exact l1
  have ly : X.env.scope.names.lookup y = some .local := by rw [C.ok.hsc]; exact l2
  have hij : i1 ≠ i2 := fun z => by rw [z, n2] at n1; cases n1; exact hxy rfl
  have hst : noStars [a, b] = true := by unfold parOk at hp; simp only [Bool.and_eq_true] at hp; exact hp.1.1
  unfold noStars at hst
  simp only [List.all_cons, List.all_nil, Bool.and_true, Bool.and_eq_true, Bool.not_eq_true'] at hst
  have ha := pa_cons (m_of (snd e1 C.ok a c1) m1) (pa_cons (m_of (snd e2 C.ok b c2) m2) pa_nil (star_ok hst.2 [] X.env)) (star_ok hst.1 [b] X.env)
  refine (ps_par C.ok.calm (by rw [C.ok.hN]; exact C.ok.nd) n1 n2 hij lx ly ha (stores2 hk lx ly hl hxy hp) rfl).impD fun D σ H q => ?_
  obtain ⟨F0, H0, Fb, F, ρ, P, s, w, q⟩ := q
  have w : wpM Γ o1 e1 ρ (fun b1 => wpM Γ o2 e2 ρ (fun b2 => P.nx ((ρ.set i1 b1).set i2 b2)) P.xc) P.xc := w
  refine ⟨F, ρ, _, _, s.st, w, fun b1 v1 F1 H1 x1 r1 w1 => ?_, q.xc.ext s.ex⟩
  refine ⟨F1, ρ, _, _, s.st.ext x1, w1, fun b2 v2 F2 H2 x2 r2 w2 => ?_, (q.xc.ext s.ex).ext x1⟩
  exact ⟨v1, v2, rfl, q.nx _ _ _ _ ((s.setB x1 r1 i1).setB x2 r2 i2) w2⟩
theorem b_par2c (C : CtxS W Γ k EX N sc l X) {o1 o2 : Bool} {i1 i2 : Nat} {e1 e2 : E} {x y : Str} {px py pt pt2 pos : Pos} {kt k2 : Nat} {a b : Expr} (h1 : nmOk N sc i1 x = true) (h2 : nmOk N sc i2 y = true) (hl : (!isLoc sc x || !isLoc sc y) = true) (hp : parOk [a, b] = true)
    (m1 : modeOk o1 e1 = true) (m2 : modeOk o2 e2 = true) (c1 : chkE N sc l e1 a = true) (c2 : chkE N sc l e2 b = true) : PS X (.Assign [.Tuple [.Name x px, .Name y py] kt pt] (.Tuple [a, b] k2 pt2) pos) (tB W Γ EX (.par2 o1 i1 e1 o2 i2 e2)) := by
  obtain ⟨n1, x1⟩ := nm_of C h1
  obtain ⟨n2, y1⟩ := nm_of C h2
  have hN : X.N.Nodup := by rw [C.ok.hN]; exact C.ok.nd
  have hst : noStars [a, b] = true := by unfold parOk at hp; simp only [Bool.and_eq_true] at hp; exact hp.1.1
  unfold noStars at hst
  simp only [List.all_cons, List.all_nil, Bool.and_true, Bool.and_eq_true, Bool.not_eq_true'] at hst
  have hcell : hasCell X.env.scope [.Name x px, .Name y py] = true := by
    rw [C.ok.hsc]
    unfold isLoc at hl
    unfold hasCell
    simp only [List.any_cons, List.any_nil, Bool.or_false]
    exact hl
  have ha := pa_cons (m_of (snd e1 C.ok a c1) m1) (pa_cons (m_of (snd e2 C.ok b c2) m2) pa_nil (star_ok hst.2 [] X.env)) (star_ok hst.1 [b] X.env)
  have hg : PG X (.Tuple [.Name x px, .Name y py] kt pt) _ := pg_tup C.ok.calm (pgs_cons (pg_name hN n1 x1 (.inl (C.fn x))) (pgs_cons (pg_name hN n2 y1 (.inl (C.fn y))) pgs_nil))
  refine (ps_asg (pe_tup (x1 := k2) (pos := pt2) ha) hg rfl (stores_cell hcell) rfl).impD fun D σ H q => ?_
  obtain ⟨F0, H0, Fb, F, ρ, P, s, w, q⟩ := q
  have w : wpM Γ o1 e1 ρ (fun b1 => wpM Γ o2 e2 ρ (fun b2 => P.nx ((ρ.set i1 b1).set i2 b2)) P.xc) P.xc := w
  refine ⟨F, ρ, _, _, s.st, w, fun b1 v1 F1 H1 x1 r1 w1 => ?_, q.xc.ext s.ex⟩
  refine ⟨F1, ρ, _, _, s.st.ext x1, w1, fun b2 v2 F2 H2 x2 r2 w2 => ⟨by rw [sizeLine_eq]; simp, fun p hp => ?_⟩, (q.xc.ext s.ex).ext x1⟩
  have x3 := Ext.new (o := .tup [v1, v2]) x2.ok x2.gd hp
  exact ⟨p, [v1, v2], rfl, .inl (.inl upd_same), rfl, v1, [v2], rfl, v2, [], rfl, rfl, q.nx _ _ _ _ (((s.setB x1 r1 i1).setB x2 r2 i2).ext x3) w2⟩
theorem b_par3 (C : CtxS W Γ k EX N sc l X) {o1 o2 o3 : Bool} {i1 i2 i3 : Nat} {e1 e2 e3 : E} {x y z : Str} {px py pz pt pt2 pos : Pos} {kt k2 : Nat} {a b c : Expr} (h1 : nmOk N sc i1 x = true) (h2 : nmOk N sc i2 y = true) (h3 : nmOk N sc i3 z = true) (l1 : isLoc sc x = true) (l2 : isLoc sc y = true) (l3 : isLoc sc z = true)
    (hl : (px.line == py.line) = true) (hl2 : (px.line == pz.line) = true) (hxy : x ≠ y) (hxz : x ≠ z) (hyz : y ≠ z) (hp : parOk [a, b, c] = true)
    (m1 : modeOk o1 e1 = true) (m2 : modeOk o2 e2 = true) (m3 : modeOk o3 e3 = true) (c1 : chkE N sc l e1 a = true) (c2 : chkE N sc l e2 b = true) (c3 : chkE N sc l e3 c = true) :
    PS X (.Assign [.Tuple [.Name x px, .Name y py, .Name z pz] kt pt] (.Tuple [a, b, c] k2 pt2) pos) (tB W Γ EX (.par3 o1 i1 e1 o2 i2 e2 o3 i3 e3)) := by
  obtain ⟨n1, _⟩ := nm_of C h1
  obtain ⟨n2, _⟩ := nm_of C h2
  obtain ⟨n3, _⟩ := nm_of C h3
  unfold isLoc at l1 l2 l3
  rw [decide_eq_true_eq] at l1 l2 l3
  have hk : X.env.scope.kind = .function := by rw [C.ok.hsc]; exact C.kind
  have lx : X.env.scope.names.lookup x = some .local := by rw [C.ok.hsc]; exact l1
  have ly : X.env.scope.names.lookup y = some .local := by rw [C.ok.hsc]; exact l2
  have lz : X.env.scope.names.lookup z = some .local := by rw [C.ok.hsc]; exact l3
  have hij : i1 ≠ i2 := fun z => by rw [z, n2] at n1; cases n1; exact hxy rfl
  have hil : i1 ≠ i3 := fun z => by rw [z, n3] at n1; cases n1; exact hxz rfl
  have hjl : i2 ≠ i3 := fun z => by rw [z, n3] at n2; cases n2; exact hyz rfl
  have hst : noStars [a, b, c] = true := by unfold parOk at hp; simp only [Bool.and_eq_true] at hp; exact hp.1.1
  unfold noStars at hst
  simp only [List.all_cons, List.all_nil, Bool.and_true, Bool.and_eq_true, Bool.not_eq_true'] at hst
  have ha := pa_cons (m_of (snd e1 C.ok a c1) m1) (pa_cons (m_of (snd e2 C.ok b c2) m2) (pa_cons (m_of (snd e3 C.ok c c3) m3) pa_nil (star_ok hst.2.2 [] X.env)) (star_ok hst.2.1 [c] X.env)) (star_ok hst.1 [b, c] X.env)
  refine (ps_par3 C.ok.calm (by rw [C.ok.hN]; exact C.ok.nd) n1 n2 n3 hij hil hjl lx ly lz ha (stores3 hk lx ly lz hl hl2 hxy hxz hyz hp) rfl).impD fun D σ H q => ?_
  obtain ⟨F0, H0, Fb, F, ρ, P, s, w, q⟩ := q
  have w : wpM Γ o1 e1 ρ (fun b1 => wpM Γ o2 e2 ρ (fun b2 => wpM Γ o3 e3 ρ (fun b3 => P.nx (((ρ.set i1 b1).set i2 b2).set i3 b3)) P.xc) P.xc) P.xc := w
  refine ⟨F, ρ, _, _, s.st, w, fun b1 v1 F1 H1 x1 r1 w1 => ?_, q.xc.ext s.ex⟩
  refine ⟨F1, ρ, _, _, s.st.ext x1, w1, fun b2 v2 F2 H2 x2 r2 w2 => ?_, (q.xc.ext s.ex).ext x1⟩
  refine ⟨F2, ρ, _, _, (s.st.ext x1).ext x2, w2, fun b3 v3 F3 H3 x3 r3 w3 => ?_, ((q.xc.ext s.ex).ext x1).ext x2⟩
  exact ⟨v1, v2, v3, rfl, q.nx _ _ _ _ (((s.setB x1 r1 i1).setB x2 r2 i2).setB x3 r3 i3) w3⟩
theorem b_aug (C : CtxS W Γ k EX N sc l X) {op : Operator} {i : Nat} {e : E} {x : Str} {px pos : Pos} {v : Expr} (ho : op = .Add ∨ op = .Sub) (hn : nmOk N sc i x = true) (hr : e.isRd = false) (h : chkE N sc l e v = true) : PS X (.AugAssign (.Name x px) op v pos) (tB W Γ EX (.aug op i e)) := by
  obtain ⟨hi, hx⟩ := nm_of C hn
  have hN : X.N.Nodup := by rw [C.ok.hN]; exact C.ok.nd
  have fin : ∀ {f : Int → Int → Int}, (∀ d d' r, augSem op d d' = some r → ∃ a b, d = .int a ∧ d' = .int b ∧ r = .int (f a b)) → ∀ D σ H, tB W Γ EX (.aug op i e) D σ H → tAug i (tE W Γ EX e) (ipI f) D σ H := fun {f} hf D σ H q => by
    obtain ⟨F0, H0, Fb, F, ρ, P, s, w, q⟩ := q
    obtain ⟨d, hd, w⟩ : opt (valAt ρ i) fun d => wpE Γ e ρ (fun d' => opt (augSem op d d') fun r => P.nx (ρ.set i (.val r))) P.xc := w
    obtain ⟨u, h1, h2⟩ := s.st.val hd
    refine ⟨u, h1, F, ρ, _, _, s.st, w, fun d' v' F' H' x1 r1 ⟨r, w1, w2⟩ => ?_, q.xc.ext s.ex⟩
    obtain ⟨a, b, rfl, rfl, rfl⟩ := hf _ _ _ w1
    cases h2
    cases r1
    exact ⟨a, b, rfl, rfl, q.nx _ _ _ _ (s.setB x1 (b := .val (.int (f a b))) (Dat.int _) i) w2⟩
  have he := (snd e C.ok v h).e hr
  rcases ho with rfl | rfl
  · refine (ps_aug hN hi hx he ip_add (.inl (C.fn x))).impD (fin fun d d' r hs => ?_)
    cases d <;> cases d' <;> first | (cases hs; done) | (cases hs; exact ⟨_, _, rfl, rfl, rfl⟩)
  · refine (ps_aug hN hi hx he ip_sub (.inl (C.fn x))).impD (fin fun d d' r hs => ?_)
    cases d <;> cases d' <;> first | (cases hs; done) | (cases hs; exact ⟨_, _, rfl, rfl, rfl⟩)
theorem b_ex (C : CtxS W Γ k EX N sc l X) {e : E} {pos : Pos} {v : Expr} (hc : isComp v = false) (hr : e.isRd = false) (h : chkE N sc l e v = true) : PS X (.Expr v pos) (tB W Γ EX (.ex e)) := by
  refine (ps_expr ((snd e C.ok v h).e hr) (no_swap hc none pos.line X.env)).impD fun D σ H q => ?_
  obtain ⟨F0, H0, Fb, F, ρ, P, s, w, q⟩ := q
  have w : wpE Γ e ρ (fun _ => P.nx ρ) P.xc := w
  exact ⟨F, ρ, _, _, s.st, w, fun d v F' H' e1 r h1 => q.nx _ _ _ _ (s.ext e1) h1, q.xc.ext s.ex⟩
theorem b_ret (C : CtxS W Γ k EX N sc l X) {e : E} {pos : Pos} {v : Expr} (hr : e.isRd = false) (h : chkE N sc l e v = true) : PS X (.Return (some v) pos) (tB W Γ EX (.ret e)) := by
  refine (ps_ret ((snd e C.ok v h).e hr)).impD fun D σ H q => ?_
  obtain ⟨F0, H0, Fb, F, ρ, P, s, w, q⟩ := q
  have w : wpE Γ e ρ P.rt P.xc := w
  exact ⟨F, ρ, _, _, s.st, w, fun d v F' H' e1 r h1 => q.rt _ _ _ _ (s.ex.trans e1) r h1, q.xc.ext s.ex⟩
end
end Dl

set_option Elab.async false
set_option linter.all false
set_option maxRecDepth 100000
set_option maxHeartbeats 8000000
/-! the data layer, part 22: lists that are written, branches, loops; all statements -/
namespace Dl
open PySem PySem.Spec PyProof.Rows L2
section
variable {W : Wd} {Γ : Gam} {EX : XK} {X : Cx} {k : Nat} {N : List Str} {sc : Scope} {l : Bool}
theorem own_at {ρ : Env1} {i : Nat} {xs : List PyData} (h : ownAt ρ i = some xs) : ρ[i]? = some (.own xs) := by
  unfold ownAt at h
  split at h
  · rename_i e; cases h; exact e
  · cases h
theorem var_of (C : CtxS W Γ k EX N sc l X) {i : Nat} {x : Str} {pos : Pos} (h : chkVar N sc i x = true) : PE X (.Name x pos) (tVar i) := by
  unfold chkVar nameOk at h
  simp only [Bool.and_eq_true, decide_eq_true_eq, Bool.not_eq_true'] at h
  exact pe_var (by rw [C.ok.hN]; exact h.1.1) (by rw [C.ok.hsc]; exact vis_of h.1.2) h.2.1.1 h.2.1.2
theorem few1 {v : Expr} {cp : Pos} (hs : isStar v = false) : ((backTo cp (starEach [v] X.env)).all (fun x => !x.1) && (backToKw cp (keywordEach [] X.env)).all (fun x => x.1.isSome)
      && decide (([v] : List Expr).length + ([] : List Keyword).length + (if ([] : List Keyword).isEmpty then 0 else 1) < 30)) = true := by
  rw [star_ok hs]; rfl
theorem b_app (C : CtxS W Γ k EX N sc l X) {i : Nat} {e : E} {x m : Str} {px ap cp pos : Pos} {v : Expr} (hm : m = "append") (hl : (ap.endLine == cp.line) = true) (hs : isStar v = false) (hx : chkVar N sc i x = true) (hr : e.isRd = false) (h : chkE N sc l e v = true) :
    PS X (.Expr (.Call (.Attribute (.Name x px) m ap) [v] [] cp) pos) (tB W Γ EX (.app i e)) := by
  subst hm
  refine (ps_expr (pe_bm PySem.F.plainAttrs_list PySem.F.slot_list_append PySem.F.type_list_append mt_append (var_of C hx) (pa_cons ((snd e C.ok v h).e hr) pa_nil (star_ok hs [] X.env)) rfl (few1 hs) hl (star_ok hs [] X.env) rfl) rfl).impD fun D σ H q => ?_
  obtain ⟨F0, H0, Fb, F, ρ, P, s, w, q⟩ := q
  obtain ⟨xs, ho, w⟩ : opt (ownAt ρ i) fun xs => wpE Γ e ρ (fun d => xs.length < 16777216 ∧ P.nx (ρ.set i (.own (xs ++ [d])))) P.xc := w
  obtain ⟨a, vs, e1, e2, e3, e4, e5, e6⟩ := s.st.own ho
  refine ⟨_, e1, .inl ⟨rfl, vs, .inl (.inl e2)⟩, F, ρ, _, _, s.st, w, fun d v F' H' x1 r ⟨h1, h2⟩ => ?_, q.xc.ext s.ex⟩
  refine ⟨a, vs, v, rfl, rfl, x1.keep _ _ e2 (fun ps z => by cases z) e4, ?_, ?_⟩
  · rw [e5.length, sizeLine_eq]; omega
  · exact q.nx _ _ _ _ ((s.ext x1).write (own_at ho) e1 ((e5.mono x1.sub).append (.cons r .nil)) (by simp; omega)) h2
theorem b_ext (C : CtxS W Γ k EX N sc l X) {i : Nat} {e : E} {x m : Str} {px ap cp pos : Pos} {v : Expr} (hm : m = "extend") (hl : (ap.endLine == cp.line) = true) (hs : isStar v = false) (hx : chkVar N sc i x = true) (h : chkE N sc l e v = true) :
    PS X (.Expr (.Call (.Attribute (.Name x px) m ap) [v] [] cp) pos) (tB W Γ EX (.ext i e)) := by
  subst hm
  refine (ps_expr (pe_bm PySem.F.plainAttrs_list PySem.F.slot_list_extend PySem.F.type_list_extend mt_extend (var_of C hx) (pa_cons (snd e C.ok v h).r pa_nil (star_ok hs [] X.env)) rfl (few1 hs) hl (star_ok hs [] X.env) rfl) rfl).impD fun D σ H q => ?_
  obtain ⟨F0, H0, Fb, F, ρ, P, s, w, q⟩ := q
  obtain ⟨xs, ho, w⟩ : opt (ownAt ρ i) fun xs => wpE Γ e ρ (fun d => ∃ ys, d = .list ys ∧ xs.length + ys.length ≤ 16777216 ∧ P.nx (ρ.set i (.own (xs ++ ys)))) P.xc := w
  obtain ⟨a, vs, e1, e2, e3, e4, e5, e6⟩ := s.st.own ho
  refine ⟨_, e1, .inl ⟨rfl, vs, .inl (.inl e2)⟩, F, ρ, _, _, s.st, w, fun d v F' H' x1 r ⟨ys, h0, h1, h2⟩ => ?_, q.xc.ext s.ex⟩
  subst h0
  obtain ⟨b, us, rfl, g1, g2, g3⟩ := r.lst x1.ok
  refine ⟨a, b, vs, us, rfl, rfl, x1.keep _ _ e2 (fun ps z => by cases z) e4, g1, ?_, ?_⟩
  · rw [e5.length, g2.length, sizeLine_eq]; omega
  · exact q.nx _ _ _ _ ((s.ext x1).write (own_at ho) e1 ((e5.mono x1.sub).append g2) (by simp; omega)) h2
theorem b_popT (C : CtxS W Γ k EX N sc l X) {p : Pat} {i : Nat} {ts : List Expr} {j : Nat} {tp px ap cp pos : Pos} {x m : Str} (hm : m = "pop") (hl : (ap.endLine == cp.line) = true) (hx : chkVar N sc i x = true) (hp : chkP N sc stAll p (.Tuple ts j tp) = true) :
    PS X (.Assign [.Tuple ts j tp] (.Call (.Attribute (.Name x px) m ap) [] [] cp) pos) (tB W Γ EX (.mut i (.popT p))) := by
  subst hm
  refine (ps_asg (pe_bm0 PySem.F.plainAttrs_list PySem.F.slot_list_pop PySem.F.type_list_pop mt_pop (var_of C hx) rfl hl) (sndPS C hp) (no_swap (show isComp (.Call (.Attribute (.Name x px) ("pop" : Str) ap) [] [] cp) = false from rfl) (some (.Tuple ts j tp)) pos.line X.env) (stores_none rfl) rfl).impD fun D σ H q => ?_
  obtain ⟨F0, H0, Fb, F, ρ, P, s, w, q⟩ := q
  obtain ⟨xs, ho, d, hd, ρ', hb, w⟩ : opt (ownAt ρ i) fun xs => opt xs.getLast? fun d => opt (bindP p d (ρ.set i (.own xs.dropLast))) P.nx := w
  obtain ⟨a, vs, e1, e2, e3, e4, e5, e6⟩ := s.st.own ho
  have hd' : xs[xs.length - 1]? = some d := by rw [← List.getLast?_eq_getElem?]; exact hd
  obtain ⟨v, hv, rv⟩ := e5.get hd'
  refine ⟨_, e1, .inl ⟨rfl, vs, .inl (.inl e2)⟩, a, vs, v, rfl, rfl, e2, by rw [e5.length]; exact hv, ?_⟩
  have s' := s.write (own_at ho) e1 e5.dropLast (by simp; omega)
  exact ⟨F, _, d, ρ', s'.st, rv, hb, fun σ' s'' o => q.nx _ _ _ _ (s'.bind hb s'' o) w⟩
theorem b_popAt (C : CtxS W Γ k EX N sc l X) {i : Nat} {e : E} {x m : Str} {px ap cp pos : Pos} {v : Expr} (hm : m = "pop") (hl : (ap.endLine == cp.line) = true) (hs : isStar v = false) (hx : chkVar N sc i x = true) (h : chkE N sc l e v = true) :
    PS X (.Expr (.Call (.Attribute (.Name x px) m ap) [v] [] cp) pos) (tB W Γ EX (.mut i (.popAt e))) := by
  subst hm
  refine (ps_expr (pe_bm PySem.F.plainAttrs_list PySem.F.slot_list_pop PySem.F.type_list_pop mt_popAt (var_of C hx) (pa_cons (snd e C.ok v h).r pa_nil (star_ok hs [] X.env)) rfl (few1 hs) hl (star_ok hs [] X.env) rfl) rfl).impD fun D σ H q => ?_
  obtain ⟨F0, H0, Fb, F, ρ, P, s, w, q⟩ := q
  obtain ⟨xs, ho, w⟩ : opt (ownAt ρ i) fun xs => wpE Γ e ρ (fun d => ∃ k' n, d = .int k' ∧ ixN xs.length k' = some n ∧ P.nx (ρ.set i (.own (xs.eraseIdx n)))) P.xc := w
  obtain ⟨a, vs, e1, e2, e3, e4, e5, e6⟩ := s.st.own ho
  refine ⟨_, e1, .inl ⟨rfl, vs, .inl (.inl e2)⟩, F, ρ, _, _, s.st, w, fun d v F' H' x1 r ⟨k', n, h0, h1, h2⟩ => ?_, q.xc.ext s.ex⟩
  subst h0
  have := r.int
  subst this
  obtain ⟨g1, g2, g3, g4⟩ := ixN_seq h1
  obtain ⟨y, hy⟩ : ∃ y, vs[n]? = some y := ⟨_, List.getElem?_eq_getElem (by rw [e5.length]; exact g2)⟩
  refine ⟨a, vs, k', n, y, rfl, rfl, x1.keep _ _ e2 (fun ps z => by cases z) e4, by omega, by omega, by rw [e5.length]; exact g1, hy, ?_⟩
  exact q.nx _ _ _ _ ((s.ext x1).write (own_at ho) e1 ((e5.mono x1.sub).eraseIdx n) (by have := List.length_eraseIdx_le xs n; omega)) h2
theorem few2 {v u : Expr} {cp : Pos} (hs : isStar v = false) (hu : isStar u = false) : ((backTo cp (starEach [v, u] X.env)).all (fun x => !x.1) && (backToKw cp (keywordEach [] X.env)).all (fun x => x.1.isSome)
      && decide (([v, u] : List Expr).length + ([] : List Keyword).length + (if ([] : List Keyword).isEmpty then 0 else 1) < 30)) = true := by
  rw [star_ok hs, star_ok hu]; rfl
theorem b_ins (C : CtxS W Γ k EX N sc l X) {i : Nat} {e1' e : E} {x m : Str} {px ap cp pos : Pos} {v u : Expr} (hm : m = "insert") (hl : (ap.endLine == cp.line) = true) (hs : isStar v = false) (hu : isStar u = false) (hx : chkVar N sc i x = true) (hr : e.isRd = false) (h1 : chkE N sc l e1' v = true) (h : chkE N sc l e u = true) :
    PS X (.Expr (.Call (.Attribute (.Name x px) m ap) [v, u] [] cp) pos) (tB W Γ EX (.mut i (.ins e1' e))) := by
  subst hm
  refine (ps_expr (pe_bm PySem.F.plainAttrs_list PySem.F.slot_list_insert PySem.F.type_list_insert mt_insert (var_of C hx) (pa_cons (snd e1' C.ok v h1).r (pa_cons ((snd e C.ok u h).e hr) pa_nil (star_ok hu [] X.env)) (star_ok hs [u] X.env)) rfl (few2 hs hu) hl (star_ok hs [u] X.env) (by rw [star_ok hu]; rfl)) rfl).impD fun D σ H q => ?_
  obtain ⟨F0, H0, Fb, F, ρ, P, s, w, q⟩ := q
  obtain ⟨xs, ho, w⟩ : opt (ownAt ρ i) fun xs => wpE Γ e1' ρ (fun k => wpE Γ e ρ (fun d => ∃ n : Nat, k = .int (n : Nat) ∧ n ≤ xs.length ∧ xs.length < 16777216 ∧ P.nx (ρ.set i (.own (xs.take n ++ d :: xs.drop n)))) P.xc) P.xc := w
  obtain ⟨a, vs, e1, e2, e3, e4, e5, e6⟩ := s.st.own ho
  refine ⟨_, e1, .inl ⟨rfl, vs, .inl (.inl e2)⟩, F, ρ, _, _, s.st, w, fun g y F1 H1 x1 r1 w1 => ?_, q.xc.ext s.ex⟩
  refine ⟨F1, ρ, _, _, s.st.ext x1, w1, fun d v F2 H2 x2 r2 ⟨n, h0, h1, h2, h3⟩ => ?_, (q.xc.ext s.ex).ext x1⟩
  subst h0
  have := r1.int
  subst this
  have x3 := x1.trans x2
  refine ⟨a, vs, (n : Nat), v, rfl, rfl, x3.keep _ _ e2 (fun ps z => by cases z) e4, by rw [e5.length, sizeLine_eq]; omega, by omega, by omega, ?_⟩
  rw [Int.toNat_natCast]
  have e7 := e5.mono x3.sub
  refine q.nx _ _ _ _ ((s.ext x3).write (own_at ho) e1 (ys := xs.take n ++ d :: xs.drop n) ?_ (by simp; omega)) h3
  rw [List.append_assoc]
  exact (e7.take n).append (.cons r2 (e7.drop n))
def sSlP (to ta tb tv : TE) : TS := fun D σ H => tv σ H fun v H1 => to σ H1 fun x H2 => tPart ta σ H2 (fun l H3 => tPart tb σ H3 fun w H4 => ∃ p b xs ys m n, x = .ref p ∧ v = .ref b ∧ l = some m ∧ w = some n ∧ H4 p = some (.lst xs) ∧ H4 b = some (.lst ys) ∧ p ≠ b ∧ 0 ≤ m ∧ m ≤ n ∧ n ≤ xs.length ∧
  xs.length + ys.length ≤ sizeLine ∧ D.nx σ (upd H4 p (.lst (xs.take m.toNat ++ ys ++ xs.drop n.toNat))))
theorem ps_slput {X : Cx} {o a b value : Expr} {to ta tb tv : TE} {p2 pos' pos : Pos} (ho : PE X o to) (ha : PE X a ta) (hb : PE X b tb) (hv : PE X value tv) (hs : swapsWith value (some (.Subscript o (.Slice (some a) (some b) none p2) pos')) pos.line X.env = pure false) :
    PS X (.Assign [.Subscript o (.Slice (some a) (some b) none p2) pos'] value pos) (sSlP to ta tb tv) := by
  refine ⟨fun pins s σ H D I h => ?_⟩
  refine wpAny_Assign_Subscript (thn (hv.run pins s σ H _ I h) fun r s1 ⟨v, H1, I1, rv, q1⟩ => thn (ho.run pins s1 σ H1 _ I1 q1) fun u s2 ⟨x, H2, I2, rx, q2⟩ => wpAny_Slice (thn ((po_some ha).run pins s2 σ H2 _ I2 q2) fun vl s3 ⟨l, H3, I3, pl, q3⟩ => thn ((po_some hb).run pins s3 σ H3 _ I3 q3) fun vu s4 ⟨w, H4, I4, pu, q4⟩ => ?_)) hs
  rw [evalPart_none]
  refine wpAny_pure ?_
  obtain ⟨p, b', xs, ys, m, n, rfl, rfl, rfl, rfl, g1, g2, g3, g4, g5, g6, g7, q5⟩ := q4
  cases rx
  cases rv
  cases pl with
  | int _ t1 =>
    cases pu with
    | int _ t2 =>
      have I5 := I4.kept (t' := s4.toks) (h' := s4.heap.push { cls := .type "slice", data := .fields #[.int m t1, .int n t2, .none] }) fun b ob q => Heap.get?_push_of_some _ q
      exact set_slice I5 g1 g2 g3 (Heap.IsSliceOf.new ..) ⟨_, rfl⟩ ⟨_, rfl⟩ g4 g5 g6 g7 fun s' I' => ⟨σ, _, I', q5⟩
theorem b_slcp (C : CtxS W Γ k EX N sc l X) {i : Nat} {a b e : E} {x : Str} {px p2 tp pos : Pos} {ax bx v : Expr} (hc : isComp v = false) (hx : chkVar N sc i x = true) (hr : e.isRd = false) (h1 : chkE N sc l a ax = true) (h2 : chkE N sc l b bx = true) (h : chkE N sc l e v = true) :
    PS X (.Assign [.Subscript (.Name x px) (.Slice (some ax) (some bx) none p2) tp] v pos) (tB W Γ EX (.mut i (.slcp a b e))) := by
  refine (ps_slput (var_of C hx) (snd a C.ok ax h1).r (snd b C.ok bx h2).r ((snd e C.ok v h).e hr) (no_swap hc _ _ _)).impD fun D σ H q => ?_
  obtain ⟨F0, H0, Fb, F, ρ, P, s, w, q⟩ := q
  obtain ⟨xs, ho, w⟩ : opt (ownAt ρ i) fun xs => wpE Γ e ρ (fun d => wpE Γ a ρ (fun ka => ∃ m : Nat, ka = .int (m : Nat) ∧ wpE Γ b ρ (fun kb => ∃ (ys : List PyData) (n : Nat), d = .list ys ∧ kb = .int (n : Nat) ∧ m ≤ n ∧ n ≤ xs.length ∧ xs.length + ys.length ≤ 16777216 ∧ P.nx (ρ.set i (.own (xs.take m ++ ys ++ xs.drop n)))) P.xc) P.xc) P.xc := w
  obtain ⟨a', vs, e1, e2, e3, e4, e5, e6⟩ := s.st.own ho
  refine ⟨F, ρ, _, _, s.st, w, fun d v F1 H1 x1 r w1 => ?_, q.xc.ext s.ex⟩
  refine ⟨_, e1, F1, ρ, _, _, s.st.ext x1, w1, fun ka u F2 H2 x2 r2 ⟨m, h0, w2⟩ => ?_, (q.xc.ext s.ex).ext x1⟩
  subst h0
  have := r2.int
  subst this
  refine ⟨_, rfl, F2, ρ, _, _, (s.st.ext x1).ext x2, w2, fun kb t F3 H3 x3 r3 ⟨ys, n, g0, g1, g2, g3, g4, g5⟩ => ?_, ((q.xc.ext s.ex).ext x1).ext x2⟩
  subst g0 g1
  have := r3.int
  subst this
  have x23 := x2.trans x3
  have x13 := x1.trans x23
  cases r with
  | lst c1 c2 c3 =>
    rename_i b' us
    have fb : F3 b' = some (.lst us) := x23.sub _ _ c1
    have fa : F3 a' = none := x13.fr _ _ e3 e2 fun ps z => by cases z
    refine ⟨_, rfl, a', b', vs, us, (m : Nat), (n : Nat), rfl, rfl, rfl, rfl, x13.keep _ _ e2 (fun ps z => by cases z) e4, x13.ok.sub _ _ fb, fun z => (by rw [z, fb] at fa; cases fa), by omega, by omega, by rw [e5.length]; omega, by rw [e5.length, c2.length, sizeLine_eq]; omega, ?_⟩
    rw [Int.toNat_natCast, Int.toNat_natCast]
    have e7 := e5.mono x13.sub
    exact q.nx _ _ _ _ ((s.ext x13).write (own_at ho) e1 (ys := xs.take m ++ ys ++ xs.drop n) (((e7.take m).append (c2.mono x23.sub)).append (e7.drop n)) (by simp; omega)) g5
theorem b_popA (C : CtxS W Γ k EX N sc l X) {p : Pat} {i : Nat} {e : E} {t : Expr} {px ap cp pos : Pos} {x m : Str} {v : Expr} (hm : m = "pop") (hl : (ap.endLine == cp.line) = true) (hs : isStar v = false) (hx : chkVar N sc i x = true) (hp : chkP N sc stAll p t = true) (h : chkE N sc l e v = true) :
    PS X (.Assign [t] (.Call (.Attribute (.Name x px) m ap) [v] [] cp) pos) (tB W Γ EX (.mut i (.popA p e))) := by
  subst hm
  have ht : isStar t = false := by cases p <;> cases t <;> first | rfl | cases hp
  refine (ps_asg (pe_bm PySem.F.plainAttrs_list PySem.F.slot_list_pop PySem.F.type_list_pop mt_popAt (var_of C hx) (pa_cons (snd e C.ok v h).r pa_nil (star_ok hs [] X.env)) rfl (few1 hs) hl (star_ok hs [] X.env) rfl) (sndPS C hp) (no_swap (show isComp (.Call (.Attribute (.Name x px) ("pop" : Str) ap) [v] [] cp) = false from rfl) (some t) pos.line X.env) (stores_none rfl) (by rw [each_plain ht]; rfl)).impD fun D σ H q => ?_
  obtain ⟨F0, H0, Fb, F, ρ, P, s, w, q⟩ := q
  obtain ⟨xs, ho, w⟩ : opt (ownAt ρ i) fun xs => wpE Γ e ρ (fun k => ∃ k' n d, k = .int k' ∧ ixN xs.length k' = some n ∧ xs[n]? = some d ∧ opt (bindP p d (ρ.set i (.own (xs.eraseIdx n)))) P.nx) P.xc := w
  obtain ⟨a, vs, e1, e2, e3, e4, e5, e6⟩ := s.st.own ho
  refine ⟨_, e1, .inl ⟨rfl, vs, .inl (.inl e2)⟩, F, ρ, _, _, s.st, w, fun kd kv F' H' x1 r ⟨k', n, d, h0, h1, hd, ρ', hb, h2⟩ => ?_, q.xc.ext s.ex⟩
  subst h0
  have := r.int
  subst this
  obtain ⟨g1, g2, g3, g4⟩ := ixN_seq h1
  obtain ⟨y, hy, ry⟩ := e5.get hd
  refine ⟨a, vs, k', n, y, rfl, rfl, x1.keep _ _ e2 (fun ps z => by cases z) e4, by omega, by omega, by rw [e5.length]; exact g1, hy, ?_⟩
  have s' := (s.ext x1).write (own_at ho) e1 ((e5.mono x1.sub).eraseIdx n) (by have := List.length_eraseIdx_le xs n; omega)
  exact ⟨F', _, d, ρ', s'.st, ry.mono x1.sub, hb, fun σ' s'' o => q.nx _ _ _ _ (s'.bind hb s'' o) h2⟩
theorem b_put2 (C : CtxS W Γ k EX N sc l X) {i i2 : Nat} {j1 j2 e : E} {x u : Str} {px p1 pu p2 pt vp pos : Pos} {kt k2 : Nat} {jx ju : Expr} {vs : List Expr} (hx : chkVar N sc i x = true) (hu : chkVar N sc i2 u = true) (hne : i ≠ i2) (hjx : plainIx jx = true) (hju : plainIx ju = true) (hr : e.isRd = false) (h1 : chkE N sc l j1 jx = true) (h2 : chkE N sc l j2 ju = true) (h : chkE N sc l e (.Tuple vs k2 vp) = true) :
    PS X (.Assign [.Tuple [.Subscript (.Name x px) jx p1, .Subscript (.Name u pu) ju p2] kt pt] (.Tuple vs k2 vp) pos) (tB W Γ EX (.mut i (.put2 i2 j1 j2 e))) := by
  have g1 : PG X (.Subscript (.Name x px) jx p1) (gSub (tVar i) (tR W Γ EX j1) rSetL) := pg_sub (var_of C hx) (snd j1 C.ok jx h1).r set_list (by cases jx <;> first | (cases hjx; done) | (intro _; rfl))
  have g2 : PG X (.Subscript (.Name u pu) ju p2) (gSub (tVar i2) (tR W Γ EX j2) rSetL) := pg_sub (var_of C hu) (snd j2 C.ok ju h2).r set_list (by cases ju <;> first | (cases hju; done) | (intro _; rfl))
  refine (ps_asg ((snd e C.ok _ h).e hr) (pg_tup C.ok.calm (pgs_cons g1 (pgs_cons g2 pgs_nil))) (no_swap (show isComp (.Tuple vs k2 vp) = false from rfl) (some (.Tuple [.Subscript (.Name x px) jx p1, .Subscript (.Name u pu) ju p2] kt pt)) pos.line X.env) (stores_cell rfl) rfl).impD fun D σ H q => ?_
  obtain ⟨F0, H0, Fb, F, ρ, P, s, w, q⟩ := q
  obtain ⟨xs, ho, ys, ho2, w⟩ : opt (ownAt ρ i) fun xs => opt (ownAt ρ i2) fun ys => wpE Γ e ρ (fun d => ∃ d1 d2, d = .tuple [d1, d2] ∧ wpE Γ j1 ρ (fun k1 => ∃ k n, k1 = .int k ∧ ixN xs.length k = some n ∧ wpE Γ j2 (ρ.set i (.own (xs.set n d1))) (fun k2 => ∃ k' n', k2 = .int k' ∧ ixN ys.length k' = some n' ∧ P.nx ((ρ.set i (.own (xs.set n d1))).set i2 (.own (ys.set n' d2)))) P.xc) P.xc) P.xc := w
  refine ⟨F, ρ, _, _, s.st, w, fun d v F1 H1 x1 r ⟨d1, d2, hd, w1⟩ => ?_, q.xc.ext s.ex⟩
  subst hd
  have s1 := s.ext x1
  cases r with
  | tup t1 dd z =>
    rename_i ta ws
    cases dd with
    | cons r1 dd =>
      cases dd with
      | cons r2 dd =>
        cases dd
        refine ⟨ta, _, rfl, C.ok.hK ▸ (t1.mono x1.ok.sub).seq, rfl, _, _, rfl, ?_⟩
        obtain ⟨a, as, e1, e2, e3, e4, e5, e6⟩ := s1.st.own ho
        refine ⟨_, e1, F1, ρ, _, _, s1.st, w1, fun g y F2 H2 x2 r3 ⟨kk, n, hk, hn, w2⟩ => ?_, (q.xc.ext s.ex).ext x1⟩
        subst hk
        have := r3.int
        subst this
        refine ⟨a, as, kk, n, rfl, rfl, x2.keep _ _ e2 (fun ps z => by cases z) e4, by rw [e5.length]; exact hn, ?_⟩
        have s3 := (s1.ext x2).write (own_at ho) e1 (Dats.set (r1.mono x2.sub) n (e5.mono x2.sub)) (by simp; omega)
        have ho3 : ownAt (ρ.set i (.own (xs.set n d1))) i2 = some ys := by
          unfold ownAt
          rw [List.getElem?_set_ne hne]
          exact ho2
        obtain ⟨b, bs, f1, f2, f3, f4, f5, f6⟩ := s3.st.own ho3
        refine ⟨_, _, rfl, _, f1, F2, _, _, _, s3.st, w2, fun g y F4 H4 x4 r5 ⟨kk', n', hk', hn', w4⟩ => ?_, q.xc.ext s3.ex⟩
        subst hk'
        have := r5.int
        subst this
        refine ⟨b, bs, kk', n', rfl, rfl, x4.keep _ _ f2 (fun ps z => by cases z) f4, by rw [f5.length]; exact hn', rfl, ?_⟩
        exact q.nx _ _ _ _ ((s3.ext x4).write (own_at ho3) f1 (Dats.set ((r2.mono x2.sub).mono x4.sub) n' (f5.mono x4.sub)) (by simp; omega)) w4
theorem ks_atE {ρ : Env1} {i : Nat} {xs : List PyData} (h : ksAt ρ i = some xs) : ρ[i]? = some (.ks xs) := by
  unfold ksAt at h
  split at h
  · rename_i e; cases h; exact e
  · cases h
theorem ksPut_len {ds : List PyData} {d : PyData} : (ksPut ds d).length ≤ ds.length + 1 := by
  unfold ksPut
  split <;> simp
theorem b_ksn (C : CtxS W Γ k EX N sc l X) {i : Nat} {x : Str} {px dp pos : Pos} (hn : nmOk N sc i x = true) : PS X (.Assign [.Name x px] (.Dict [] [] dp) pos) (tB W Γ EX (.mut i .ksn)) := by
  obtain ⟨hi, hx⟩ := nm_of C hn
  have hN : X.N.Nodup := by rw [C.ok.hN]; exact C.ok.nd
  refine (ps_set hN hi hx pe_knew (no_swap (x := .Dict [] [] dp) rfl _ _ _) (.inl (C.fn x))).impD fun D σ H q => ?_
  obtain ⟨F0, H0, Fb, F, ρ, P, s, w, q⟩ := q
  intro p hp hm
  have e1 := Ext.new (o := KsO p #[]) s.st.f s.st.g hp
  have hnone : F p = none := s.st.f.none hp
  have hR : p ≠ W.R := fun z => s.st.g.nR (z ▸ hp)
  exact q.nx _ _ _ _ (s.setB (b := .ks []) e1 ⟨p, _, rfl, upd_same, hnone, hR, ⟨_, ksd_new⟩, hm, Nat.zero_le _, New.of hp⟩ i) w
theorem b_ksn2 (C : CtxS W Γ k EX N sc l X) {i1 i2 : Nat} {x y : Str} {px py pt pt2 pos lp dp : Pos} {kt k2 : Nat} (h1 : nmOk N sc i1 x = true) (h2 : nmOk N sc i2 y = true) (l1 : isLoc sc x = true) (l2 : isLoc sc y = true) (hl : (px.line == py.line) = true) (hxy : x ≠ y) (hp : parOk [.List [] lp, .Dict [] [] dp] = true) :
    PS X (.Assign [.Tuple [.Name x px, .Name y py] kt pt] (.Tuple [.List [] lp, .Dict [] [] dp] k2 pt2) pos) (tB W Γ EX (.mut i1 (.ksn2 i2))) := by
  obtain ⟨n1, _⟩ := nm_of C h1
  obtain ⟨n2, _⟩ := nm_of C h2
  unfold isLoc at l1 l2
  rw [decide_eq_true_eq] at l1 l2
  have hk : X.env.scope.kind = .function := by rw [C.ok.hsc]; exact C.kind
  have lx : X.env.scope.names.lookup x = some .local := by rw [C.ok.hsc]; exact l1
  have ly : X.env.scope.names.lookup y = some .local := by rw [C.ok.hsc]; exact l2
  have hij : i1 ≠ i2 := fun z => by rw [z, n2] at n1; cases n1; exact hxy rfl
  have ha := pa_cons (X := X) (pe_lst (pos := lp) pa_nil) (pa_cons (X := X) (pe_knew (pos := dp)) pa_nil (star_ok rfl [] X.env)) (star_ok rfl [.Dict [] [] dp] X.env)
  refine (ps_par C.ok.calm (by rw [C.ok.hN]; exact C.ok.nd) n1 n2 hij lx ly ha (stores2 hk lx ly hl hxy hp) rfl).impD fun D σ H q => ?_
  obtain ⟨F0, H0, Fb, F, ρ, P, s, w, q⟩ := q
  refine ⟨Nat.zero_le _, fun p hp => ?_⟩
  have e1 := Ext.new (o := .lst []) s.st.f s.st.g hp
  have hnone : F p = none := s.st.f.none hp
  have hR : p ≠ W.R := fun z => s.st.g.nR (z ▸ hp)
  have s1 := s.setB (b := .own []) e1 ⟨p, [], rfl, upd_same, hnone, hR, .nil, Nat.zero_le _, New.of hp⟩ i1
  intro p2 hp2 hm
  have e2 := Ext.new (o := KsO p2 #[]) s1.st.f s1.st.g hp2
  have hnone2 : F p2 = none := s1.st.f.none hp2
  have hR2 : p2 ≠ W.R := fun z => s1.st.g.nR (z ▸ hp2)
  exact ⟨_, _, rfl, q.nx _ _ _ _ (s1.setB (b := .ks []) e2 ⟨p2, _, rfl, upd_same, hnone2, hR2, ⟨_, ksd_new⟩, hm, Nat.zero_le _, New.of hp2⟩ i2) w⟩
theorem b_ksp (C : CtxS W Γ k EX N sc l X) {i j : Nat} {e : E} {x : Str} {px tp pos vp : Pos} {jx : Expr} {b : Bool} (hx : chkVar N sc i x = true) (hj : chkE N sc l e jx = true) :
    PS X (.Assign [.Subscript (.Name x px) jx tp] (.Constant (.bool b) j vp) pos) (tB W Γ EX (.mut i (.ksp e))) := by
  refine (ps_kput C.ok.units (var_of C hx) (snd e C.ok jx hj).r (no_swap (x := .Constant (.bool b) j vp) rfl _ _ _)).impD fun D σ H q => ?_
  obtain ⟨F0, H0, Fb, F, ρ, P, s, w, q⟩ := q
  obtain ⟨ds, ho, w⟩ : opt (ksAt ρ i) fun ds => wpE Γ e ρ (fun d => kOk d = true ∧ ds.length < 16777216 ∧ P.nx (ρ.set i (.ks (ksPut ds d)))) P.xc := w
  obtain ⟨a, es, e1, e2, e3, e4, e5, e6, e7⟩ := s.st.ks ho
  refine ⟨_, e1, F, ρ, _, _, s.st, w, fun d v F1 H1 x1 r ⟨k1, k2, w1⟩ => ?_, q.xc.ext s.ex⟩
  obtain ⟨a', es', f1, f2, f3, f4, ⟨xs', f5⟩, f6, f7⟩ := (s.st.ext x1).ks ho
  rw [e1] at f1
  cases f1
  obtain ⟨⟨ts, rfl⟩, _, _⟩ := kOk_tup k1
  refine ⟨F1, a, es', xs', ds, _, ⟨x1.ok.sub, f2, C.ok.hK ▸ f5, f6⟩, rfl, C.ok.hK ▸ r.dat, k1, k2, fun es2 xs2 hd => ?_⟩
  exact q.nx _ _ _ _ ((s.ext x1).writeK (ks_atE ho) e1 ⟨_, C.ok.hK ▸ hd⟩ f6 (Nat.le_trans ksPut_len (by omega))) w1
theorem b_mut (C : CtxS W Γ k EX N sc l X) {i : Nat} {m : OwnF} {st : Stmt} (h : chkMut N sc l i m st = true) : PS X st (tB W Γ EX (.mut i m)) := by
  cases m with
  | popT p =>
    have g : (match asPopT st with
      | some (ts, j, tp, x, m, ap, cp) => decide (m = "pop") && (ap.endLine == cp.line) && chkVar N sc i x && chkP N sc stAll p (.Tuple ts j tp)
      | none => false) = true := h
    split at g
    · rename_i hq
      obtain ⟨_, _, rfl⟩ := asPopT_eq hq
      simp only [Bool.and_eq_true, decide_eq_true_eq] at g
      obtain ⟨⟨⟨a1, a2⟩, a3⟩, a4⟩ := g
      exact b_popT C a1 a2 a3 a4
    · cases g
  | popAt a =>
    have g : (match asMth st with
      | some (x, m, ap, v, cp) => decide (m = "pop") && (ap.endLine == cp.line) && !isStar v && chkVar N sc i x && chkE N sc l a v
      | none => false) = true := h
    split at g
    · rename_i hq
      obtain ⟨_, _, rfl⟩ := asMth_eq hq
      simp only [Bool.and_eq_true, decide_eq_true_eq, Bool.not_eq_true'] at g
      obtain ⟨⟨⟨⟨a1, a2⟩, a3⟩, a4⟩, a5⟩ := g
      exact b_popAt C a1 a2 a3 a4 a5
    · cases g
  | ins a e =>
    have g : (match asMth2 st with
      | some (x, m, ap, v, u, cp) => decide (m = "insert") && (ap.endLine == cp.line) && !isStar v && !isStar u && chkVar N sc i x && !e.isRd && chkE N sc l a v && chkE N sc l e u
      | none => false) = true := h
    split at g
    · rename_i hq
      obtain ⟨_, _, rfl⟩ := asMth2_eq hq
      simp only [Bool.and_eq_true, decide_eq_true_eq, Bool.not_eq_true'] at g
      obtain ⟨⟨⟨⟨⟨⟨⟨a1, a2⟩, a3⟩, a4⟩, a5⟩, a6⟩, a7⟩, a8⟩ := g
      exact b_ins C a1 a2 a3 a4 a5 a6 a7 a8
    · cases g
  | slcp a b e =>
    have g : (match asSlc st with
      | some (x, ax, bx, v) => !isComp v && chkVar N sc i x && !e.isRd && chkE N sc l a ax && chkE N sc l b bx && chkE N sc l e v
      | none => false) = true := h
    split at g
    · rename_i hq
      obtain ⟨_, _, _, _, rfl⟩ := asSlc_eq hq
      simp only [Bool.and_eq_true, Bool.not_eq_true'] at g
      obtain ⟨⟨⟨⟨⟨a1, a2⟩, a3⟩, a4⟩, a5⟩, a6⟩ := g
      exact b_slcp C a1 a2 a3 a4 a5 a6
    · cases g
  | popA p a =>
    have g : (match asPopA st with
      | some (t, x, m, ap, v, cp) => decide (m = "pop") && ((ap.endLine == cp.line) && (!isStar v && (chkVar N sc i x && (chkP N sc stAll p t && chkE N sc l a v))))
      | none => false) = true := h
    split at g
    · rename_i hq
      obtain ⟨_, _, rfl⟩ := asPopA_eq hq
      simp only [Bool.and_eq_true, decide_eq_true_eq, Bool.not_eq_true'] at g
      obtain ⟨a1, a2, a3, a4, a5, a6⟩ := g
      exact b_popA C a1 a2 a3 a4 a5 a6
    · cases g
  | put2 i2 j1 j2 e =>
    have g : (match asPut2 st with
      | some (x, jx, u, ju, vs, k2, vp) => chkVar N sc i x && (chkVar N sc i2 u && (decide (i ≠ i2) && (plainIx jx && (plainIx ju && (!e.isRd && (chkE N sc l j1 jx && (chkE N sc l j2 ju && chkE N sc l e (.Tuple vs k2 vp))))))))
      | none => false) = true := h
    split at g
    · rename_i hq
      obtain ⟨_, _, _, _, _, _, _, rfl⟩ := asPut2_eq hq
      simp only [Bool.and_eq_true, decide_eq_true_eq, Bool.not_eq_true'] at g
      obtain ⟨a1, a2, a3, a4, a5, a6, a7, a8, a9⟩ := g
      exact b_put2 C a1 a2 a3 a4 a5 a6 a7 a8 a9
    · cases g
  | ksn =>
    have g : (match asD0 st with
      | some x => nmOk N sc i x
      | none => false) = true := h
    split at g
    · rename_i hq
      obtain ⟨_, _, _, rfl⟩ := asD0_eq hq
      exact b_ksn C g
    · cases g
  | ksn2 i2 =>
    have g : (match asPar2 st with
      | some (x, px, y, py, a, b) => nmOk N sc i x && (nmOk N sc i2 y && (isLoc sc x && (isLoc sc y && ((px.line == py.line) && (decide (x ≠ y) && (parOk [a, b] && (isNil a && isD0 b)))))))
      | none => false) = true := h
    split at g
    · rename_i hq
      obtain ⟨_, _, _, _, _, rfl⟩ := asPar2_eq hq
      simp only [Bool.and_eq_true, decide_eq_true_eq] at g
      obtain ⟨a1, a2, a3, a4, a5, a6, a7, a8, a9⟩ := g
      obtain ⟨_, rfl⟩ := isNil_eq a8
      obtain ⟨_, rfl⟩ := isD0_eq a9
      exact b_ksn2 C a1 a2 a3 a4 a5 a6 a7
    · cases g
  | ksp e =>
    have g : (match asPut st with
      | some (x, jx, v) => isBoolC v && (plainIx jx && (chkVar N sc i x && chkE N sc l e jx))
      | none => false) = true := h
    split at g
    · rename_i hq
      obtain ⟨_, _, _, rfl⟩ := asPut_eq hq
      simp only [Bool.and_eq_true] at g
      obtain ⟨a1, a2, a3, a4⟩ := g
      obtain ⟨_, _, _, rfl⟩ := isBoolC_eq a1
      exact b_ksp C a3 a4
    · cases g
theorem b_put (C : CtxS W Γ k EX N sc l X) {i : Nat} {j e : E} {x : Str} {px tp pos : Pos} {v jx : Expr} (hp : plainIx jx = true) (hc : isComp v = false) (hx : chkVar N sc i x = true) (hr : e.isRd = false) (hj : chkE N sc l j jx = true) (h : chkE N sc l e v = true) :
    PS X (.Assign [.Subscript (.Name x px) jx tp] v pos) (tB W Γ EX (.put i j e)) := by
  have hg : PG X (.Subscript (.Name x px) jx tp) (gSub (tVar i) (tR W Γ EX j) rSetL) := pg_sub (var_of C hx) (snd j C.ok jx hj).r set_list (by cases jx <;> first | (cases hp; done) | (intro _; rfl))
  refine (ps_asg ((snd e C.ok v h).e hr) hg (no_swap hc (some (.Subscript (.Name x px) jx tp)) pos.line X.env) stores_sub rfl).impD fun D σ H q => ?_
  obtain ⟨F0, H0, Fb, F, ρ, P, s, w, q⟩ := q
  obtain ⟨xs, ho, w⟩ : opt (ownAt ρ i) fun xs => wpE Γ e ρ (fun d => wpE Γ j ρ (fun k => ∃ k' n, k = .int k' ∧ ixN xs.length k' = some n ∧ P.nx (ρ.set i (.own (xs.set n d)))) P.xc) P.xc := w
  obtain ⟨a, vs, e1, e2, e3, e4, e5, e6⟩ := s.st.own ho
  refine ⟨F, ρ, _, _, s.st, w, fun d v F1 H1 x1 r w1 => ?_, q.xc.ext s.ex⟩
  refine ⟨_, e1, F1, ρ, _, _, s.st.ext x1, w1, fun g u F2 H2 x2 r2 ⟨k', n, h0, h1, h2⟩ => ?_, (q.xc.ext s.ex).ext x1⟩
  subst h0
  have := r2.int
  subst this
  have x3 := x1.trans x2
  refine ⟨a, vs, k', n, rfl, rfl, x3.keep _ _ e2 (fun ps z => by cases z) e4, by rw [e5.length]; exact h1, ?_⟩
  exact q.nx _ _ _ _ ((s.ext x3).write (own_at ho) e1 (Dats.set (r.mono x2.sub) n (e5.mono x3.sub)) (by simp; omega)) h2
def tGetL (K : PySem.W.Frag) : V → V → Hp → VK → Prop := fun o i H Q => ∃ p xs k v, o = .ref p ∧ i = .int k ∧ SqL K H p xs ∧ atI xs k = some v ∧ Q v H
theorem get_list : PGet X (tGetL X.K) := by
  intro pins s σ H o i ov iv Q I ro ri h
  obtain ⟨p, xs, i, z, rfl, rfl, hq, he, q⟩ := h
  cases ro
  obtain ⟨t, rfl⟩ := ri
  obtain ⟨its, r, pl, hz⟩ := I.list hq
  obtain ⟨j, h1, h2, h3, h4, h5⟩ := atI_get he
  obtain ⟨w, ew, rw'⟩ := r.get h2
  have hl := r.length
  have hn := line63
  have fin : EP X pins σ Q w s := ⟨z, H, I, rw', q⟩
  by_cases h0 : 0 ≤ i
  · have hj : i.toNat = j := by
      rw [seqIndex_of h0 h5] at h1
      exact Option.some.inj h1
    exact wpAny_getItem_list pl.isList h0 (by omega) (by rw [hj]; simpa using ew) fin
  · have hj : (i + (its.toArray.size : Int)).toNat = j := by
      rw [seqIndex_neg (by omega) h4] at h1
      rw [List.size_toArray, ← hl]
      exact Option.some.inj h1
    exact wpAny_getItem_list_neg pl.isList (by omega) (by rw [List.size_toArray] <;> omega) (by omega) (by rw [hj]; simpa using ew) fin
theorem b_augp (C : CtxS W Γ k EX N sc l X) {op : Operator} {i : Nat} {j e : E} {x : Str} {px tp pos : Pos} {v jx : Expr} (ho : op = .Add ∨ op = .Sub) (hp : plainIx jx = true) (hx : chkVar N sc i x = true) (hr : e.isRd = false) (hj : chkE N sc l j jx = true) (h : chkE N sc l e v = true) :
    PS X (.AugAssign (.Subscript (.Name x px) jx tp) op v pos) (tB W Γ EX (.augp op i j e)) := by
  have ha : ∀ ov iv new, augStore jx ov iv new = (do holding [new, ov, iv] (setItem ov iv new); release [new, ov, iv] []; pure .next) := by cases jx <;> first | (cases hp; done) | (intros; rfl)
  have fin : ∀ {f : Int → Int → Int}, (∀ d d' r, augSem op d d' = some r → ∃ a b, d = .int a ∧ d' = .int b ∧ r = .int (f a b)) → ∀ D σ H, tB W Γ EX (.augp op i j e) D σ H → tAugS (tVar i) (tR W Γ EX j) (tE W Γ EX e) (tGetL X.K) (ipI f) rSetL D σ H := fun {f} hf D σ H q => by
    obtain ⟨F0, H0, Fb, F, ρ, P, s, w, q⟩ := q
    obtain ⟨xs, ho, w⟩ : opt (ownAt ρ i) fun xs => wpE Γ j ρ (fun k => ∃ k' n d, k = .int k' ∧ ixN xs.length k' = some n ∧ xs[n]? = some d ∧ wpE Γ e ρ (fun d' => opt (augSem op d d') fun r => P.nx (ρ.set i (.own (xs.set n r)))) P.xc) P.xc := w
    obtain ⟨a, vs, e1, e2, e3, e4, e5, e6⟩ := s.st.own ho
    refine ⟨_, e1, F, ρ, _, _, s.st, w, fun g u F1 H1 x1 r1 ⟨k', n, d, h0, h1, h2, w2⟩ => ?_, q.xc.ext s.ex⟩
    subst h0
    have := r1.int
    subst this
    obtain ⟨z, z1, z2⟩ := e5.get h2
    refine ⟨a, vs, k', z, rfl, rfl, .inl (.inl (x1.keep _ _ e2 (fun ps z => by cases z) e4)), by unfold atI; rw [e5.length, h1]; exact z1, ?_⟩
    refine ⟨F1, ρ, _, _, s.st.ext x1, w2, fun d' v' F2 H2 x2 r2 ⟨r, w3, w4⟩ => ?_, (q.xc.ext s.ex).ext x1⟩
    obtain ⟨m, b, rfl, rfl, rfl⟩ := hf _ _ _ w3
    cases z2
    cases r2
    have x3 := x1.trans x2
    refine ⟨m, b, rfl, rfl, a, vs, k', n, rfl, rfl, x3.keep _ _ e2 (fun ps z => by cases z) e4, by rw [e5.length]; exact h1, ?_⟩
    exact q.nx _ _ _ _ ((s.ext x3).write (own_at ho) e1 (Dats.set (Dat.int _) n (e5.mono x3.sub)) (by simp; omega)) w4
  have he := (snd e C.ok v h).e hr
  rcases ho with rfl | rfl
  · refine (ps_augS (var_of C hx) (snd j C.ok jx hj).r get_list he ip_add set_list ha).impD (fin fun d d' r hs => ?_)
    cases d <;> cases d' <;> first | (cases hs; done) | (cases hs; exact ⟨_, _, rfl, rfl, rfl⟩)
  · refine (ps_augS (var_of C hx) (snd j C.ok jx hj).r get_list he ip_sub set_list ha).impD (fin fun d d' r hs => ?_)
    cases d <;> cases d' <;> first | (cases hs; done) | (cases hs; exact ⟨_, _, rfl, rfl, rfl⟩)
/-! ### dicts of the def's own -/
theorem dct_at {ρ : Env1} {i : Nat} {xs : List (Int × PyData)} (h : dctAt ρ i = some xs) : ρ[i]? = some (.dct xs) := by
  unfold dctAt at h
  split at h
  · rename_i e; cases h; exact e
  · cases h
theorem b_dnew (C : CtxS W Γ k EX N sc l X) {i : Nat} {x : Str} {px dp pos : Pos} (hn : nmOk N sc i x = true) : PS X (.Assign [.Name x px] (.Dict [] [] dp) pos) (tB W Γ EX (.dnew i)) := by
  obtain ⟨hi, hx⟩ := nm_of C hn
  have hN : X.N.Nodup := by rw [C.ok.hN]; exact C.ok.nd
  refine (ps_set hN hi hx pe_dnewK (no_swap (x := .Dict [] [] dp) rfl _ _ _) (.inl (C.fn x))).impD fun D σ H q => ?_
  obtain ⟨F0, H0, Fb, F, ρ, P, s, w, q⟩ := q
  intro p hp
  have e1 := Ext.new (o := .dK []) s.st.f s.st.g hp
  have hnone : F p = none := s.st.f.none hp
  have hR : p ≠ W.R := fun z => s.st.g.nR (z ▸ hp)
  exact q.nx _ _ _ _ (s.setB (b := .dct []) e1 ⟨p, [], rfl, upd_same, hnone, hR, ⟨rfl, .nil⟩, Nat.zero_le _, New.of hp⟩ i) w
theorem b_dput (C : CtxS W Γ k EX N sc l X) {i : Nat} {j e : E} {x : Str} {px tp pos : Pos} {v jx : Expr} (hc : isComp v = false) (hx : chkVar N sc i x = true) (hr : e.isRd = false) (hj : chkE N sc l j jx = true) (h : chkE N sc l e v = true) :
    PS X (.Assign [.Subscript (.Name x px) jx tp] v pos) (tB W Γ EX (.dput i j e)) := by
  have hu : X.A.units + 1 < cLine := by have := C.ok.units; omega
  refine (ps_dput hu (var_of C hx) (snd j C.ok jx hj).r ((snd e C.ok v h).e hr) (no_swap hc _ _ _)).impD fun D σ H q => ?_
  obtain ⟨F0, H0, Fb, F, ρ, P, s, w, q⟩ := q
  obtain ⟨kvs, ho, w⟩ : opt (dctAt ρ i) fun kvs => wpE Γ e ρ (fun d => wpE Γ j ρ (fun k => ∃ k', k = .int k' ∧ kvs.length < 16777216 ∧ P.nx (ρ.set i (.dct (dPut kvs k' d)))) P.xc) P.xc := w
  refine ⟨F, ρ, _, _, s.st, w, fun d v F1 H1 x1 r w1 => ?_, q.xc.ext s.ex⟩
  obtain ⟨a, vs, e1, e2, e3, e4, e5, e6⟩ := (s.st.ext x1).dct ho
  refine ⟨_, e1, F1, ρ, _, _, s.st.ext x1, w1, fun g u F2 H2 x2 r2 ⟨k', h0, h1, h2⟩ => ?_, (q.xc.ext s.ex).ext x1⟩
  subst h0
  have := r2.int
  subst this
  have x3 := x1.trans x2
  obtain ⟨a', vs', e1', e2', e3', e4', e5', e6'⟩ := ((s.st.ext x1).ext x2).dct ho
  rw [e1] at e1'
  cases e1'
  refine ⟨a, _, rfl, DPut.k (k := Sum.inl k') e2' ?_, ?_⟩
  · have := e5'.1
    have := congrArg List.length this
    simp at this
    rw [this, sizeLine_eq]; omega
  · exact q.nx _ _ _ _ ((s.ext x3).writeD (dct_at ho) e1 (kvd_put (r.mono x2.sub) e5') (Nat.le_trans dPut_len (by omega))) h2
/-! ### branches, loops -/
theorem b_ife {c : E} {a b : SL} {t : Expr} {p q' : List Stmt} {pos : Pos} (hc : PT X t (tT W Γ EX c)) (ha : PSs X p (tBs W Γ EX a)) (hb : PSs X q' (tBs W Γ EX b)) : PS X (.If t p q' pos) (tB W Γ EX (.ife c a b)) := by
  refine (ps_if hc ha hb).impD fun D σ H q => ?_
  obtain ⟨F0, H0, Fb, F, ρ, P, s, w, q⟩ := q
  have w : wpT Γ c ρ (fun t => if t = true then wpSs Γ a ρ P else wpSs Γ b ρ P) P.xc := w
  refine ⟨F, ρ, _, _, s.st, w, fun t F' H' x1 w1 => ?_, q.xc.ext s.ex⟩
  cases t with
  | true => rw [if_pos rfl] at w1 ⊢; exact ⟨F0, H0, Fb, F', ρ, P, s.ext x1, w1, q⟩
  | false => rw [if_neg Bool.false_ne_true] at w1 ⊢; exact ⟨F0, H0, Fb, F', ρ, P, s.ext x1, w1, q⟩
theorem b_whl (C : CtxS W Γ k EX N sc l X) {c : E} {b : SL} {t : Expr} {p : List Stmt} {pos : Pos} (hc : PT X t (tT W Γ EX c)) (hb : PSs X p (tBs W Γ EX b)) : PS X (.While t p [] pos) (tB W Γ EX (.whl c b)) := by
  refine (ps_while C.own hc hb).impD fun D σ H q => ?_
  obtain ⟨F0, H0, Fb, F, ρ, P, s, w, q⟩ := q
  obtain ⟨I, ⟨n, h0⟩, turn⟩ : ∃ I : Nat → Env1 → Prop, (∃ n, I n ρ) ∧ ∀ n ρ1, I n ρ1 → wpT Γ c ρ1 (fun t => if t = true then wpSs Γ b ρ1 { nx := fun ρ2 => ∃ m, m < n ∧ I m ρ2, ct := fun ρ2 => ∃ m, m < n ∧ I m ρ2, bk := P.nx, rt := P.rt, xc := P.xc } else P.nx ρ1) P.xc := w
  refine ⟨fun n σ H => ∃ F ρ, StS W F0 H0 Fb F ρ σ H ∧ I n ρ, ⟨n, F, ρ, s, h0⟩, ?_⟩
  rintro m σ1 H1 ⟨F1, ρ1, s1, i1⟩
  refine ⟨F1, ρ1, _, _, s1.st, turn m ρ1 i1, fun t F' H' x1 w1 => ?_, q.xc.ext s1.ex⟩
  dsimp only
  cases t with
  | true =>
    rw [if_pos rfl] at w1 ⊢
    refine ⟨fun σ2 H2 => ∃ F ρ m', StS W F0 H0 Fb F ρ σ2 H2 ∧ m' < m ∧ I m' ρ, ?_, F0, H0, Fb, F', ρ1, _, s1.ext x1, w1, ?_⟩
    · rintro σ2 H2 ⟨F2, ρ2, m', s2, hm, i2⟩
      exact ⟨m', hm, F2, ρ2, s2, i2⟩
    · exact ⟨fun F ρ σ H s ⟨m', hm, i2⟩ => ⟨F, ρ, m', s, hm, i2⟩, q.rt, q.nx, fun F ρ σ H s ⟨m', hm, i2⟩ => ⟨F, ρ, m', s, hm, i2⟩, q.xc⟩
  | false =>
    rw [if_neg Bool.false_ne_true] at w1 ⊢
    exact q.nx _ _ _ _ (s1.ext x1) w1
theorem b_for (C : CtxS W Γ k EX N sc l X) {tg : Pat} {it : It1} {b : SL} {tx ix : Expr} {p : List Stmt} {pos : Pos} (hi : PI X tx ix (tIt W Γ EX it)) (hf : isSetD ix = false) (hg : PG X tx (gP W tg)) (hb : PSs X p (tBs W Γ EX b)) : PS X (.For tx ix p [] pos) (tB W Γ EX (.for_ tg it b)) := by
  refine (ps_for C.own C.ok.calm hi hg hb (no_fold hf X.env)).impD fun D σ H q => ?_
  obtain ⟨F0, H0, Fb, F, ρ, P, s, w, q⟩ := q
  have w : wpI Γ it ρ (fun items => forL (fun x ρ1 k => opt (bindP tg x ρ1) fun ρ2 => wpSs Γ b ρ2 { nx := k, ct := k, bk := P.nx, rt := P.rt, xc := P.xc }) items ρ P.nx) P.xc := w
  refine ⟨F, ρ, _, _, s.st, w, fun items J F1 H1 x1 hJ hlen w1 => ?_, q.xc.ext s.ex⟩
  obtain ⟨G, Y, wk, hG, hY⟩ := hJ
  have s1 := s.ext x1
  refine for_it wk (fun i σ H => ∃ F2 ρ2, StS W F0 H0 F1 F2 ρ2 σ H ∧ forL (fun x ρ1 k => opt (bindP tg x ρ1) fun ρ2 => wpSs Γ b ρ2 { nx := k, ct := k, bk := P.nx, rt := P.rt, xc := P.xc }) (items.drop i) ρ2 P.nx) ?_ ?_ ?_ ?_
  · exact ⟨F1, ρ, ⟨s1.st, s1.g0, .refl _, s1.ex, s1.nw⟩, by simpa using w1⟩
  · rintro i σ2 H2 hi ⟨F2, ρ2, s2, w2⟩
    exact hG F2 H2 s2.sm s2.st.f
  · rintro i xv σ2 H2 H' hi ⟨F2, ρ2, s2, w2⟩ hy
    obtain ⟨F3, d, x3, hd, dv⟩ := hY i F2 H2 xv H' s2.sm s2.st.f s2.st.g hi hy
    rw [drop_at hd] at w2
    obtain ⟨ρ3, hb3, w3⟩ := w2
    have s3 := s2.ext x3
    refine ⟨F3, ρ2, d, ρ3, s3.st, dv, hb3, fun σ4 s4 o => ?_⟩
    refine ⟨F0, H0, F1, F3, ρ3, _, s3.bind hb3 s4 o, w3, ?_⟩
    exact ⟨fun F ρ σ H s k => ⟨F, ρ, s, k⟩, q.rt, fun F ρ σ H s k => q.nx F ρ σ H ⟨s.st, s.g0, (s1.sm).trans s.sm, s.ex, s.nw⟩ k, fun F ρ σ H s k => ⟨F, ρ, s, k⟩, q.xc⟩
  · rintro σ2 H2 ⟨F2, ρ2, s2, w2⟩
    rw [List.drop_length] at w2
    exact q.nx _ _ _ _ ⟨s2.st, s2.g0, (s1.sm).trans s2.sm, s2.ex, s2.nw⟩ w2
end
end Dl

set_option Elab.async false
set_option linter.all false
set_option maxRecDepth 100000
set_option maxHeartbeats 8000000
/-! the data layer, part 23: all statements; a def -/
namespace Dl
open PySem PySem.Spec PyProof.Rows L2
section
variable {W : Wd} {Γ : Gam} {k : Nat}
theorem stS_frz {W : Wd} {Γ : Gam} {EX : XK} {i : Nat} {r : SL} {D : Ends} {σ : L2.St} {H : Hp} (h : tBs W Γ EX (.frz i r) D σ H) : tBs W Γ EX r D σ H := by
  obtain ⟨F0, H0, Fb, F, ρ, P, s, w, q⟩ := h
  obtain ⟨xs, ho, w⟩ : opt (ownAt ρ i) fun xs => wpSs Γ r (ρ.set i (.val (.list xs))) P := w
  obtain ⟨F', s'⟩ := s.frz ho
  exact ⟨F0, H0, Fb, F', _, P, s', w, q⟩
mutual
theorem sndS : ∀ (b : S) {EX : XK} {X : Cx} {N : List Str} {sc : Scope} {l : Bool} (C : CtxS W Γ k EX N sc l X) (x : Stmt), chkS N sc l b x = true → PS X x (tB W Γ EX b)
  | .skip, EX, X, N, sc, l, C, x, h => by
    have fin : ∀ D σ H, tB W Γ EX .skip D σ H → tNext D σ H := fun D σ H ⟨F0, H0, Fb, F, ρ, P, s, w, q⟩ => q.nx _ _ _ _ s w
    cases x <;> try (cases h; done)
    case Pass => exact ps_pass.impD fin
    case Expr v pos =>
      cases v <;> try (cases h; done)
      rename_i c j p
      cases c <;> try (cases h; done)
      exact ps_doc.impD fin
  | .ret e, EX, X, N, sc, l, C, x, h => by
    cases x <;> try (cases h; done)
    rename_i v pos
    cases v with
    | none => cases h
    | some v =>
      have h : (chkE N sc l e v && !e.isRd) = true := h
      simp only [Bool.and_eq_true, Bool.not_eq_true'] at h
      exact b_ret C h.2 h.1
  | .retN, EX, X, N, sc, l, C, x, h => by
    cases x <;> try (cases h; done)
    rename_i v pos
    cases v with
    | some _ => cases h
    | none => exact ps_retN.impD fun D σ H ⟨F0, H0, Fb, F, ρ, P, s, w, q⟩ => q.rt _ _ _ _ s.ex .non w
  | .brk, EX, X, N, sc, l, C, x, h => by
    cases x <;> try (cases h; done)
    exact ps_break.impD fun D σ H ⟨F0, H0, Fb, F, ρ, P, s, w, q⟩ => q.bk _ _ _ _ s w
  | .cnt, EX, X, N, sc, l, C, x, h => by
    cases x <;> try (cases h; done)
    exact ps_continue.impD fun D σ H ⟨F0, H0, Fb, F, ρ, P, s, w, q⟩ => q.ct _ _ _ _ s w
  | .set o i e, EX, X, N, sc, l, C, x, h => by
    cases x <;> try (cases h; done)
    rename_i ts v pos
    match ts, h with
    | [], h => cases h
    | [t], h =>
      cases t <;> try (cases h; done)
      rename_i x px
      have h : (nmOk N sc i x && lcSw sc x px v && modeOk o e && chkE N sc l e v) = true := h
      simp only [Bool.and_eq_true] at h
      exact b_set C h.1.1.1 h.1.1.2 h.1.2 h.2
    | t :: _ :: _, h => cases t <;> cases h
  | .asg p e, EX, X, N, sc, l, C, x, h => by
    cases x <;> try (cases h; done)
    rename_i ts v pos
    match ts, h with
    | [], h => cases h
    | [t], h =>
      cases t <;> try (cases h; done)
      rename_i ts j tp
      have h : ((!isTupE v || hasCell sc ts || foldT v) && !isComp v && !e.isRd && chkP N sc stAll p (.Tuple ts j tp) && chkE N sc l e v) = true := h
      simp only [Bool.and_eq_true, Bool.or_eq_true, Bool.not_eq_true'] at h
      obtain ⟨⟨⟨⟨h1, h2⟩, h3⟩, h4⟩, h5⟩ := h
      refine b_asg C ?_ h2 h3 h4 h5
      rcases h1 with h1 | h1
      · rcases h1 with h1 | h1
        · exact stores_none h1
        · cases v <;> first | exact stores_cell (by rw [C.ok.hsc]; exact h1) | exact stores_none rfl
      · exact stores_fold h1
    | t :: _ :: _, h => cases t <;> cases h
  | .par2 o1 i1 e1 o2 i2 e2, EX, X, N, sc, l, C, x, h => by
    have g : (match asPar2 x with
      | some (x, px, y, py, a, b) => nmOk N sc i1 x && nmOk N sc i2 y && ((isLoc sc x && isLoc sc y && (px.line == py.line)) || (!isLoc sc x || !isLoc sc y)) && decide (x ≠ y) && parOk [a, b] && modeOk o1 e1 && modeOk o2 e2 && chkE N sc l e1 a && chkE N sc l e2 b
      | none => false) = true := h
    clear h
    split at g
    · rename_i hq
      obtain ⟨_, _, _, _, _, rfl⟩ := asPar2_eq hq
      simp only [Bool.and_eq_true, decide_eq_true_eq] at g
      obtain ⟨⟨⟨⟨⟨⟨⟨⟨a1, a2⟩, a3⟩, a6⟩, a7⟩, a8⟩, a9⟩, a10⟩, a11⟩ := g
      rw [Bool.or_eq_true] at a3
      rcases a3 with a3 | a3
      · simp only [Bool.and_eq_true] at a3
        exact b_par2 C a1 a2 a3.1.1 a3.1.2 a3.2 a6 a7 a8 a9 a10 a11
      · exact b_par2c C a1 a2 a3 a7 a8 a9 a10 a11
    · cases g
  | .par3 o1 i1 e1 o2 i2 e2 o3 i3 e3, EX, X, N, sc, l, C, x, h => by
    have g : (match asPar3 x with
      | some (x, px, y, py, z, pz, a, b, c) => nmOk N sc i1 x && nmOk N sc i2 y && nmOk N sc i3 z && isLoc sc x && isLoc sc y && isLoc sc z && (px.line == py.line) && (px.line == pz.line) &&
      decide (x ≠ y) && decide (x ≠ z) && decide (y ≠ z) && parOk [a, b, c] && modeOk o1 e1 && modeOk o2 e2 && modeOk o3 e3 && chkE N sc l e1 a && chkE N sc l e2 b && chkE N sc l e3 c
      | none => false) = true := h
    clear h
    split at g
    · rename_i hq
      obtain ⟨_, _, _, _, _, rfl⟩ := asPar3_eq hq
      simp only [Bool.and_eq_true, decide_eq_true_eq] at g
      obtain ⟨⟨⟨⟨⟨⟨⟨⟨⟨⟨⟨⟨⟨⟨⟨⟨⟨a1, a2⟩, a3⟩, a4⟩, a5⟩, a6⟩, a7⟩, a8⟩, a9⟩, a10⟩, a11⟩, a12⟩, a13⟩, a14⟩, a15⟩, a16⟩, a17⟩, a18⟩ := g
      exact b_par3 C a1 a2 a3 a4 a5 a6 a7 a8 a9 a10 a11 a12 a13 a14 a15 a16 a17 a18
    · cases g
  | .aug op i e, EX, X, N, sc, l, C, x, h => by
    cases x <;> try (cases h; done)
    rename_i t op' v pos
    cases t <;> try (cases h; done)
    rename_i x px
    have h : (decide (op = op') && (decide (op = .Add) || decide (op = .Sub)) && nmOk N sc i x && !e.isRd && chkE N sc l e v) = true := h
    simp only [Bool.and_eq_true, Bool.or_eq_true, decide_eq_true_eq, Bool.not_eq_true'] at h
    obtain ⟨⟨⟨⟨rfl, a2⟩, a3⟩, a4⟩, a5⟩ := h
    exact b_aug C a2 a3 a4 a5
  | .augp op i j e, EX, X, N, sc, l, C, x, h => by
    have g : (match asAugp x with
      | some (x, jx, op', v) => decide (op = op') && (decide (op = .Add) || decide (op = .Sub)) && plainIx jx && chkVar N sc i x && !e.isRd && chkE N sc l j jx && chkE N sc l e v
      | none => false) = true := h
    clear h
    split at g
    · rename_i hq
      obtain ⟨_, _, _, rfl⟩ := asAugp_eq hq
      simp only [Bool.and_eq_true, Bool.or_eq_true, decide_eq_true_eq, Bool.not_eq_true'] at g
      obtain ⟨⟨⟨⟨⟨⟨rfl, a2⟩, a3⟩, a4⟩, a5⟩, a6⟩, a7⟩ := g
      exact b_augp C a2 a3 a4 a5 a6 a7
    · cases g
  | .app i e, EX, X, N, sc, l, C, x, h => by
    have g : (match asMth x with
      | some (x, m, ap, v, cp) => decide (m = "append") && (ap.endLine == cp.line) && !isStar v && chkVar N sc i x && !e.isRd && chkE N sc l e v
      | none => false) = true := h
    clear h
    split at g
    · rename_i hq
      obtain ⟨_, _, rfl⟩ := asMth_eq hq
      simp only [Bool.and_eq_true, decide_eq_true_eq, Bool.not_eq_true'] at g
      obtain ⟨⟨⟨⟨⟨a1, a2⟩, a3⟩, a4⟩, a5⟩, a6⟩ := g
      exact b_app C a1 a2 a3 a4 a5 a6
    · cases g
  | .ext i e, EX, X, N, sc, l, C, x, h => by
    have g : (match asMth x with
      | some (x, m, ap, v, cp) => decide (m = "extend") && (ap.endLine == cp.line) && !isStar v && chkVar N sc i x && chkE N sc l e v
      | none => false) = true := h
    clear h
    split at g
    · rename_i hq
      obtain ⟨_, _, rfl⟩ := asMth_eq hq
      simp only [Bool.and_eq_true, decide_eq_true_eq, Bool.not_eq_true'] at g
      obtain ⟨⟨⟨⟨a1, a2⟩, a3⟩, a4⟩, a6⟩ := g
      exact b_ext C a1 a2 a3 a4 a6
    · cases g
  | .put i j e, EX, X, N, sc, l, C, x, h => by
    have g : (match asPut x with
      | some (x, jx, v) => plainIx jx && !isComp v && chkVar N sc i x && !e.isRd && chkE N sc l j jx && chkE N sc l e v
      | none => false) = true := h
    clear h
    split at g
    · rename_i hq
      obtain ⟨_, _, _, rfl⟩ := asPut_eq hq
      simp only [Bool.and_eq_true, Bool.not_eq_true'] at g
      obtain ⟨⟨⟨⟨⟨a1, a2⟩, a4⟩, a5⟩, a6⟩, a7⟩ := g
      exact b_put C a1 a2 a4 a5 a6 a7
    · cases g
  | .dnew i, EX, X, N, sc, l, C, x, h => by
    cases x <;> try (cases h; done)
    rename_i ts v pos
    match ts, v, h with
    | [.Name x px], .Dict [] [] dp, h => exact b_dnew C h
    | [.Name x px], .Dict (_ :: _) _ dp, h => cases h
    | [.Name x px], .Dict [] (_ :: _) dp, h => cases h
    | [], _, h => cases h
    | t :: _ :: _, _, h => cases t <;> cases h
    | [t], v, h =>
      cases t <;> try (cases h; done)
      rename_i x px
      cases v <;> try (cases h; done)
      rename_i ks vs dp
      cases ks with
      | nil => cases vs with
        | nil => exact b_dnew C h
        | cons _ _ => cases h
      | cons _ _ => cases h
  | .mut i m, EX, X, N, sc, l, C, x, h => b_mut C h
  | .dput i j e, EX, X, N, sc, l, C, x, h => by
    have g : (match asPut x with
      | some (x, jx, v) => plainIx jx && !isComp v && chkVar N sc i x && !e.isRd && chkE N sc l j jx && chkE N sc l e v
      | none => false) = true := h
    clear h
    split at g
    · rename_i hq
      obtain ⟨_, _, _, rfl⟩ := asPut_eq hq
      simp only [Bool.and_eq_true, Bool.not_eq_true'] at g
      obtain ⟨⟨⟨⟨⟨a1, a2⟩, a4⟩, a5⟩, a6⟩, a7⟩ := g
      exact b_dput C a2 a4 a5 a6 a7
    · cases g
  | .ex e, EX, X, N, sc, l, C, x, h => by
    cases x <;> try (cases h; done)
    rename_i v pos
    have h : (!isComp v && !e.isRd && chkE N sc l e v) = true := h
    simp only [Bool.and_eq_true, Bool.not_eq_true'] at h
    exact b_ex C h.1.1 h.1.2 h.2
  | .ife c a b, EX, X, N, sc, l, C, x, h => by
    cases x <;> try (cases h; done)
    rename_i t p q pos
    have h : (chkT N sc l c t && chkSs N sc l a p && chkSs N sc l b q) = true := h
    simp only [Bool.and_eq_true] at h
    exact b_ife (sndT c C.ok t h.1.1) (sndSs a C p h.1.2) (sndSs b C q h.2)
  | .whl c b, EX, X, N, sc, l, C, x, h => by
    cases x <;> try (cases h; done)
    rename_i t p q pos
    cases q with
    | cons _ _ => cases h
    | nil =>
      have h : (chkT N sc l c t && chkSs N sc l b p) = true := h
      simp only [Bool.and_eq_true] at h
      exact b_whl C (sndT c C.ok t h.1) (sndSs b C p h.2)
  | .for_ tg it b, EX, X, N, sc, l, C, x, h => by
    cases x <;> try (cases h; done)
    rename_i tx ix p q pos
    cases q with
    | cons _ _ => cases h
    | nil =>
      have h : (chkI N sc l it tx ix && !isSetD ix && chkP N sc stAll tg tx && chkSs N sc l b p) = true := h
      simp only [Bool.and_eq_true, Bool.not_eq_true'] at h
      exact b_for C (sndI it C.ok tx ix h.1.1.1) h.1.1.2 (sndPS C h.1.2) (sndSs b C p h.2)
theorem sndSs : ∀ (b : SL) {EX : XK} {X : Cx} {N : List Str} {sc : Scope} {l : Bool} (C : CtxS W Γ k EX N sc l X) (xs : List Stmt), chkSs N sc l b xs = true → PSs X xs (tBs W Γ EX b)
  | .nil, EX, X, N, sc, l, C, xs, h => by
    cases xs with
    | cons _ _ => cases h
    | nil => exact pss_nil.impD fun D σ H ⟨F0, H0, Fb, F, ρ, P, s, w, q⟩ => q.nx _ _ _ _ s w
  | .cons b r, EX, X, N, sc, l, C, xs, h => by
    cases xs with
    | nil => cases h
    | cons x xs =>
      have h : (chkS N sc l b x && chkSs N sc l r xs) = true := h
      simp only [Bool.and_eq_true] at h
      refine (pss_cons (sndS b C x h.1) (sndSs r C xs h.2)).impD fun D σ H q => ?_
      obtain ⟨F0, H0, Fb, F, ρ, P, s, w, q⟩ := q
      refine ⟨F0, H0, Fb, F, ρ, _, s, w, ?_⟩
      exact ⟨fun F ρ σ H s k => ⟨F0, H0, Fb, F, ρ, P, s, k, q⟩, q.rt, q.bk, q.ct, q.xc⟩
  | .frz i r, EX, X, N, sc, l, C, xs, h => by
    have h : chkSs N sc l r xs = true := h
    exact (sndSs r C xs h).impD fun D σ H q => stS_frz q
end
end
end Dl

set_option Elab.async false
set_option linter.all false
set_option maxRecDepth 100000
set_option maxHeartbeats 8000000
/-! the data layer, part 24: a def keeps its promise -/
namespace Dl
open PySem PySem.Spec PyProof.Rows L2
/-- the slots at a def's entry -/
def rho0 (n : Nat) (row : Bool) (ds : List PyData) : Env1 := (if row then [B.row] else []) ++ ds.map B.val ++ List.replicate (n - ((if row then 1 else 0) + ds.length)) B.bad
def postOf (Q : PyData → Prop) (X : Str → Prop) : Post := { nx := fun _ => Q .none, rt := Q, xc := X }
theorem St.start {W : Wd} {F H : Hp} {N : List Str} {row : Bool} {ds : List PyData} {vs : List V} (f : FOk W F H) (g : Good W H) (d : Dats W.K F vs ds) : St W F (rho0 N.length row ds) (L2.start N ((if row then [V.ref W.R] else []) ++ vs)) H := by
  have hl := d.length
  have key : ∀ (i : Nat) b v, (rho0 N.length row ds)[i]? = some b → (L2.start N ((if row then [V.ref W.R] else []) ++ vs))[i]? = some v → SlotOk W F H v b ∧ b.live = false := by
    intro i b v h1 h2
    unfold rho0 at h1
    unfold L2.start at h2
    have dat : ∀ j : Nat, (ds.map B.val ++ List.replicate (N.length - ((if row then 1 else 0) + ds.length)) B.bad)[j]? = some b → (vs.map some ++ List.replicate (N.length - (((if row then [V.ref W.R] else []) ++ vs)).length) none)[j]? = some v → SlotOk W F H v b ∧ b.live = false := by
      intro j h1 h2
      by_cases hj : j < ds.length
      · rw [List.getElem?_append_left (by simpa using hj)] at h1
        rw [List.getElem?_append_left (by simpa [hl] using hj)] at h2
        rw [List.getElem?_map] at h1 h2
        cases hd : ds[j]? with
        | none => rw [hd] at h1; cases h1
        | some d0 =>
          rw [hd] at h1
          cases h1
          obtain ⟨w, e1, e2⟩ := d.get hd
          rw [e1] at h2
          cases h2
          exact ⟨⟨w, rfl, e2⟩, rfl⟩
      · rw [List.getElem?_append_right (by simpa using Nat.le_of_not_lt hj)] at h1
        have := List.mem_of_getElem? h1
        rw [List.mem_replicate] at this
        obtain ⟨_, rfl⟩ := this
        exact ⟨trivial, rfl⟩
    cases row with
    | false => simpa using dat i (by simpa using h1) (by simpa using h2)
    | true =>
      cases i with
      | zero =>
        simp at h1 h2
        subst h1 h2
        exact ⟨rfl, rfl⟩
      | succ i => exact dat i (by simpa using h1) (by simpa using h2)
  refine ⟨f, g, ?_, fun i b v h1 h2 => (key i b v h1 h2).1, fun i j a b c h1 h2 l1 l2 h3 h4 => by rw [(key i _ _ h1 h3).2] at l1; cases l1⟩
  unfold rho0 L2.start
  cases row <;> simp [hl] <;> omega
theorem rho0_no {n : Nat} {row : Bool} {ds : List PyData} {i : Nat} {b : B} (lv : b.live = true) (h : (rho0 n row ds)[i]? = some b) : False := by
  have := List.mem_of_getElem? h
  unfold rho0 at this
  simp only [List.mem_append, List.mem_map, List.mem_replicate] at this
  rcases this with (h | ⟨_, _, h⟩) | ⟨_, h⟩
  · cases row with
    | false => simp at h
    | true => simp at h; subst h; cases lv
  · subst h; cases lv
  · subst h; cases lv
section
variable {P : Program} {w : World} {K : PySem.W.Frag} {mg : Str → Option Value} {base : Heap} {W : Wd} {Γ : Gam} {k : Nat}
structure Glb (P : Program) (w : World) (K : PySem.W.Frag) (mg : Str → Option Value) (base : Heap) (W : Wd) (Γ : Gam) (k : Nat) : Prop where
  hK : K = W.K
  hmg : mg = W.mg
  funs : ∀ f sg, Γ.funs f = some sg → FnAt P w K mg base k W f sg
  cons : ∀ x d, Γ.cons x = some d → ∃ u v, mg x = some u ∧ RelV v u ∧ ∀ F, Dat W.K F v d
  blt : ∀ x ∈ bltNames, mg x = none
  dcons : ∀ x kvs, Γ.dcons x = some kvs → DConAt K mg x kvs
theorem def_ok {x qual : Str} {st : Stmt} {f : Addr} {fd : FuncData} {N : List Str} {sg : Sig} {b : SL} {l : Bool} {m : Nat} (G : Glb P w K mg base W Γ k) (F : Fun K x qual st f fd) (S : FnScope N sg.ps (defScope st)) (hb : chkSs N (defScope st) l b (defBody st) = true)
    (hlen : ∀ ds Q X, sg.sp ds Q X → (if sg.row then 1 else 0) + ds.length = sg.ps.length) (hsp : ∀ ds Q X, sg.sp ds Q X → wpSs Γ b (rho0 N.length sg.row ds) (postOf Q X))
    (hm : k ≤ m) (hl : l = true → k + 2 ≤ m ∧ ∀ (cdv : Value) (A : Around) (outer : List Env) (s : Shared) (H : Hp) (E : XK), Room m (A.deeper (envOfC qual (defScope st) s.heap.objs.size f cdv)) → LamAt W (cxOf (L2.CX P w) P w K mg base N qual (defScope st) f cdv A outer s H E)) :
    FnOk P w K mg base (L2.CX P w) (m + 1) f fd sg.ps (spV W sg) := by
  refine F.okX S (fun vs H Q E h => ?_) fun cdv A outer s H vs Q E hr h => ⟨tBs W Γ E b, ?_, ?_⟩
  · obtain ⟨F0, ds, ws, Qd, Xd, f1, g1, rfl, d1, h1, _⟩ := h
    rw [← hlen ds Qd Xd h1, List.length_append, d1.length]
    cases sg.row <;> rfl
  · have C : CtxS W Γ k E N (defScope st) l (cxOf (L2.CX P w) P w K mg base N qual (defScope st) f cdv A outer s H E) := by
      refine ⟨⟨G.hK, G.hmg, rfl, S.nd, rfl, rfl, hr.mono hm, fun z => hr.mono (hl z).1, passes_call (W := fun cls d _ H => E cls d H) (takes_of rfl rfl rfl rfl) (fun _ _ _ _ h => h), G.funs, G.cons, G.blt, fun z => (hl z).2 cdv A outer s H E hr, G.dcons⟩, fun _ => rfl, S.kind, passes_of rfl⟩
    exact sndSs b C _ hb
  · obtain ⟨F0, ds, ws, Qd, Xd, f1, g1, rfl, d1, h1, h2, h3⟩ := h
    exact ⟨F0, H, F0, F0, _, _, ⟨St.start f1 g1 d1, g1, .refl _, .refl f1 g1, fun i b a q1 lv q2 => (rho0_no lv q1).elim⟩, hsp ds Qd Xd h1, ⟨fun F' ρ σ H' s' q => h2 .none .non F' H' s'.ex .non q, fun F' d v H' e r q => h2 d v F' H' e r q, fun _ _ _ _ _ z => z.elim, fun _ _ _ _ _ z => z.elim, fun n cls dd F' H' e i q => h3 n cls dd F' H' e i q⟩⟩
end
end Dl

set_option Elab.async false
set_option linter.all false
set_option maxRecDepth 100000
set_option maxHeartbeats 8000000
/-! the data layer, part 25: the error of an argument: made, raised, told -/
namespace Dl
open PySem PySem.Spec PyProof.Rows L2
/-- what the written part says of the error's class at C -/
structure ErrTxt (K : PySem.W.Frag) (mg : Str → Option Value) (C fI : Addr) : Prop where
  gC : mg "BadArgument" = some (.ref C)
  oex : OexC K C
  xf : XfC K C
  noN : PySem.W.findIn K (.ref C) "name" = some none
  iC : PySem.W.findIn K (.ref C) "__init__" = some (some (.ref fI))
  tI : PySem.W.typeIn K (.ref fI) = some (.type "function")
  te : PySem.W.exmOne K (.ref C) (.ref C) = some true
section
variable {P : Program} {w : World} {K : PySem.W.Frag} {mg : Str → Option Value} {base : Heap} {W : Wd} {Γ : Gam} {k : Nat} {C fI : Addr}
/-- self.name = name -/
def spInit (C : Addr) : Sp := fun vs H Q _ => ∃ (a : Addr) (y : V), vs = [.ref a, y] ∧ H a = some (exo a C none) ∧ ∀ dx, H dx = none → dx ≠ a → Q .non (upd (upd H dx (exd dx [(("name" : Str), y)])) a (exo a C (some dx)))
theorem ok_init {st : Stmt} {qual : Str} {f : Addr} {fd : FuncData} {p1 p2 p3 p4 : Pos} (F : Fun K "__init__" qual st f fd) (T : ErrTxt K mg C f) (S : FnScope ["self", "name"] ["self", "name"] (defScope st)) (m : Nat)
    (hb : defBody st = [.Assign [.Attribute (.Name "self" p1) "name" p2] (.Name "name" p3) p4]) : FnOk P w K mg base (L2.CX P w) (m + 1) f fd ["self", "name"] (spInit C) := by
  refine F.okX S (fun vs H Q E h => ?_) fun cdv A outer s H vs Q E hr h => ⟨tOst K "name" (tVar 0) (tVar 1), ?_, ?_⟩
  · obtain ⟨a, y, rfl, _⟩ := h; rfl
  · rw [hb]
    have v0 : PE (cxOf (L2.CX P w) P w K mg base ["self", "name"] qual (defScope st) f cdv A outer s H E) (.Name "self" p1) (tVar 0) := pe_var rfl ((S.par _ List.mem_cons_self).elim .inl fun z => .inr (.inl z)) (by decide) (by decide)
    have v1 : PE (cxOf (L2.CX P w) P w K mg base ["self", "name"] qual (defScope st) f cdv A outer s H E) (.Name "name" p3) (tVar 1) := pe_var rfl ((S.par _ (List.mem_cons_of_mem _ List.mem_cons_self)).elim .inl fun z => .inr (.inl z)) (by decide) (by decide)
    exact pss_one (ps_ost v0 v1 rfl)
  · obtain ⟨a, y, rfl, h1, h2⟩ := h
    exact ⟨_, rfl, _, rfl, a, C, rfl, T.oex, T.noN, .inl ⟨h1, fun dx n ne => h2 dx n ne⟩⟩
theorem ctx_of {qual : Str} {st : Stmt} {f : Addr} {N ps : List Str} {m : Nat} {cdv : Value} {A : Around} {outer : List Env} {s : Shared} {H : Hp} {E : XK} (G : Glb P w K mg base W Γ k) (S : FnScope N ps (defScope st)) (hm : k ≤ m) (hr : Room m (A.deeper (envOfC qual (defScope st) s.heap.objs.size f cdv))) :
    CtxS W Γ k E N (defScope st) false (cxOf (L2.CX P w) P w K mg base N qual (defScope st) f cdv A outer s H E) :=
  ⟨⟨G.hK, G.hmg, rfl, S.nd, rfl, rfl, hr.mono hm, fun z => (by cases z), passes_call (W := fun cls d _ H => E cls d H) (takes_of rfl rfl rfl rfl) (fun _ _ _ _ h => h), G.funs, G.cons, G.blt, fun z => (by cases z), G.dcons⟩, fun _ => rfl, S.kind, passes_of rfl⟩
/-- demand(is_right, name) -/
def sgDemand : Sig where
  ps := ["is_right", "name"]
  row := false
  kws := []
  sp := fun ds Q X => ∃ d n b, ds = [d, .str n] ∧ truth d = some b ∧ (b = true → Q .none) ∧ (b = false → X n)
theorem del_put {H : Hp} {a dx : Addr} {C : Addr} {o o' : HO} (n : H a = none) (ne : dx ≠ a) : upd (L2.del (upd (upd (upd H a o') dx o) a (exo a C (some dx))) a) dx (.xd [] : HO) = upd H dx (.xd []) := by
  funext b
  by_cases hb : b = dx
  · subst hb; rw [upd_same, upd_same]
  · rw [upd_ne hb, upd_ne hb]
    by_cases ha : b = a
    · subst ha; rw [L2.del_same, n]
    · rw [L2.del_ne ha, upd_ne ha, upd_ne hb, upd_ne ha]
theorem del_put' {H : Hp} {a dx : Addr} {C : Addr} {o o' u : HO} (n : H a = none) (ne : dx ≠ a) : upd (L2.del (upd (upd (upd H a o') dx o) a (exo a C (some dx))) a) dx u = upd H dx u := by
  funext b
  by_cases hb : b = dx
  · subst hb; rw [upd_same, upd_same]
  · rw [upd_ne hb, upd_ne hb]
    by_cases ha : b = a
    · subst ha; rw [L2.del_same, n]
    · rw [L2.del_ne ha, upd_ne ha, upd_ne hb, upd_ne ha]
theorem ok_demand {st : Stmt} {f : Addr} {fd fdI : FuncData} {m j : Nat} {p1 p2 p3 p4 p5 p6 p7 : Pos} (hW : mg = W.mg) (hK : K = W.K) (G : Glb P w K mg base W Γ k) (F : Fun K "demand" "demand" st f fd) (S : FnScope ["is_right", "name"] ["is_right", "name"] (defScope st)) (T : ErrTxt K mg C fI)
    (FI : FnOk P w K mg base (L2.CX P w) j fI fdI ["self", "name"] (spInit C)) (bI : Binds K fdI ["self", "name"] []) (hg : (defScope st).names.lookup ("BadArgument" : Str) = some .globalImplicit)
    (hb : defBody st = [.If (.UnaryOp .Not (.Name "is_right" p1) p2) [.Raise (some (.Call (.Name "BadArgument" p3) [.Name "name" p4] [] p5)) none p6] [] p7]) (hm : k ≤ m) (hj : j + 1 ≤ m) :
    FnOk P w K mg base (L2.CX P w) (m + 1) f fd sgDemand.ps (spV W sgDemand) := by
  refine F.okX S (fun vs H Q E h => ?_) fun cdv A outer s H vs Q E hr h => ⟨tIfS (tT W Γ E (.not (.var 0))) (fun _ σ H => tMkO C (spInit C) [] (tCons (tE W Γ E (.var 1)) tNil) σ H fun cls d H' => E cls d H') tNext, ?_, ?_⟩
  · obtain ⟨F0, ds, ws, Qd, Xd, f1, g1, rfl, d1, ⟨d, n, b, rfl, _⟩, _⟩ := h
    have := d1.length
    show vs.length = 2
    exact this
  · rw [hb]
    have C1 : CtxS W Γ k E ["is_right", "name"] (defScope st) false (cxOf (L2.CX P w) P w K mg base ["is_right", "name"] "demand" (defScope st) f cdv A outer s H E) := ctx_of G S hm hr
    have x0 : chkVar ["is_right", "name"] (defScope st) 0 "is_right" = true := by
      unfold chkVar nameOk visB
      rcases S.par _ List.mem_cons_self with z | z <;> rw [z] <;> rfl
    have x1 : chkVar ["is_right", "name"] (defScope st) 1 "name" = true := by
      unfold chkVar nameOk visB
      rcases S.par _ (List.mem_cons_of_mem _ List.mem_cons_self) with z | z <;> rw [z] <;> rfl
    have ht := sndT (W := W) (Γ := Γ) (k := k) (.not (.var 0)) C1.ok (.UnaryOp .Not (.Name "is_right" p1) p2) x0
    have hn := (snd (W := W) (Γ := Γ) (k := k) (.var 1) C1.ok (.Name "name" p4) x1).e rfl
    have hr2 : Room (j + 1) (cxOf (L2.CX P w) P w K mg base ["is_right", "name"] "demand" (defScope st) f cdv A outer s H E).A := hr.mono hj
    exact pss_one (ps_if ht (pss_one (ps_raise rfl (takes_of (E := E) rfl rfl rfl rfl) (pmk_oex (X := cxOf (L2.CX P w) P w K mg base ["is_right", "name"] "demand" (defScope st) f cdv A outer s H E) (dvs := []) (ds := []) T.oex T.iC T.tI FI hr2 bI .nil passNo hg T.gC (pa_cons hn pa_nil rfl)))) pss_nil)
  · obtain ⟨F0, ds, ws, Qd, Xd, f1, g1, rfl, d1, ⟨d, n, b, rfl, h1, h2, h3⟩, h4, h5⟩ := h
    have s0 : St W F0 (rho0 2 false [d, .str n]) (L2.start ["is_right", "name"] vs) H := St.start (N := ["is_right", "name"]) (row := false) f1 g1 d1
    have hs : PyData.strOk n = true := by
      cases d1 with
      | cons a1 a2 => cases a2 with | cons b1 b2 => cases b1 with | str _ k => exact k
    refine ⟨F0, rho0 2 false [d, .str n], fun t => (!t) = b, fun _ => False, s0, ⟨d, rfl, b, h1, by simp⟩, fun t F' H' e ht => ?_, fun _ _ _ _ _ _ _ z => z.elim⟩
    subst ht
    cases t with
    | false =>
      rw [if_neg Bool.false_ne_true]
      exact h4 .none .non F' H' e .non (h2 rfl)
    | true =>
      rw [if_pos rfl]
      refine ⟨F', rho0 2 false [d, .str n], fun d' => d' = .str n, fun _ => False, s0.ext e, ⟨.str n, rfl, rfl⟩, fun d' v F2 H2 e2 r hd' => ?_, fun _ _ _ _ _ _ _ z => z.elim⟩
      subst hd'
      cases r
      refine ⟨by simp, fun a n1 => ⟨a, _, rfl, upd_same, fun dx n2 ne => ⟨rfl, dx, _, upd_same, by rw [upd_ne ne, upd_same], ?_, ?_⟩⟩⟩
      · rwa [upd_ne ne] at n2
      · rw [upd_ne ne] at n2
        rw [del_put' n1 ne]
        refine h5 n _ _ F2 _ ((e.trans e2).trans (Ext.new e2.ok e2.gd n2)) ⟨C, dx, ?_, rfl, rfl, upd_same, hs⟩ (h3 rfl)
        rw [← hW]; exact T.gC
theorem takes_len {X : Cx} {W' : WX} (t : Takes X W') : Takes X (fun c d σ H => σ.length = X.N.length → W' c d σ H) := fun u s' ⟨a, B, sI, pins, σ, H, cls, d, e, I, nb, up, sky, na, os, ag, w⟩ =>
  t u s' ⟨a, B, sI, pins, σ, H, cls, d, e, I, nb, up, sky, na, os, ag, w I.len⟩
/-- the name that a call refuses -/
theorem refused_gives {X : Cx} {sg : Scope} {g CS fI : Addr} {cdg : Value} {q : Str} {j : Nat} {p1 p2 p3 p4 p5 p6 p7 p8 p9 p10 p11 : Pos} (hK : X.K = W.K) (hW : X.mg = W.mg) (T : ErrTxt X.K X.mg CS fI) (hge : sg.names.lookup ("BadArgument" : Str) = some .globalImplicit) (hle : sg.names.lookup ("e" : Str) = some .local) :
    LamX.GivesTo X ["call", "e"] "_law_refused" sg g cdg [.Try [.Expr (.Call (.Name "call" p1) [] [] p2) p3] [.ExceptHandler (some (.Name "BadArgument" p4)) (some "e") [.Return (some (.Attribute (.Name "e" p5) "name" p6)) p7] p8] [] [] p9, .Return (some (.Constant (.str "") j p10)) p11] "call" q
      (fun tl H Q => tl (fun cls dd H' => ∃ n, IsX W n cls dd H' ∧ Q (.str n) H') H (fun _ H' => Q (.str "") H')) := by
  intro f c' s H Q tl act hc h
  let tb : WX → TS := fun W' D σ H => ∃ Ech : XK, (∀ cls d σ' H', Ech cls d H' → σ'.length = 2 → W' cls d σ' H') ∧ σ = L2.start ["call", "e"] [.ref f] ∧ H c' = some (LamX.CodeO c' q) ∧ tl Ech H (fun _ H1 => D.nx σ H1)
  let ts : Addr → Value → Option Addr → TS := fun a cls d => tRet (tXf a cls d CS "name" (tVar 1))
  refine ⟨_, pss_cons (ps_try_as (X := (cxOf C8.CX0 X.prog X.w X.K X.mg X.base ["call", "e"] "_law_refused" sg g cdg X.A X.stack s H C8.E0).nox) (c := .ref CS) (tb := tb) (ts := ts) (i := 1) (Wout := fun _ _ _ _ => False)
      rfl rfl (show (["call", "e"] : List Str).Nodup by decide) rfl hle ⟨hge, by decide, .inl T.gC⟩ L2.takes0 (fun W' pn xe tk _ => ?_) (fun a oe cls d pn hz hf => ?_)) (pss_one (ps_ret pe_str)), ?_⟩
  · refine ⟨fun pins s' σ H' D I h' => ?_⟩
    obtain ⟨Ech, hW', h1, h2, h3⟩ := h'
    have hp := act (fun c d σ H => σ.length = 2 → W' c d σ H) pn xe Ech p1 p2 (takes_len tk) hW'
    exact (pss_one (ps_expr (pos := p3) hp rfl)).run pins s' σ H' D I ⟨by rw [h1]; rfl, h2, h3⟩
  · have ve : PE ((cxOf C8.CX0 X.prog X.w X.K X.mg X.base ["call", "e"] "_law_refused" sg g cdg X.A X.stack s H C8.E0).nox.suite a ((a, oe) :: pn)) (.Name "e" p5) (tVar 1) := pe_var rfl (.inl hle) (by decide) (by decide)
    exact pss_one (ps_ret (pe_xf T.xf T.noN hz hf ve rfl))
  · refine ⟨fun cls dd H' => ∃ n, IsX W n cls dd H' ∧ Q (.str n) H', fun cls d σ' H' ⟨n, hx, hq⟩ hl => ?_, rfl, hc, h⟩
    obtain ⟨C2, d2, e1, rfl, rfl, e4, e5⟩ := hx
    have : C2 = CS := by
      have a1 := T.gC
      rw [hW, e1] at a1
      cases a1; rfl
    subst this
    refine ⟨true, T.te, fun _ a na => ?_, fun z => by cases z⟩
    refine ⟨V.ref a, ?_, rfl, rfl, d2, _, .str n, rfl, e4, rfl, hq⟩
    rw [List.getElem?_set_self (by rw [hl]; decide)]
end
end Dl

set_option Elab.async false
set_option linter.all false
set_option maxRecDepth 100000
set_option maxHeartbeats 8000000
/-! the data layer, part 26: the draws -/
namespace Dl
open PySem PySem.Spec PyProof.Rows L2
/-- an expression that is a number at these slots and this heap, which it leaves -/
structure IV (X : Cx) (e : Expr) (σ : L2.St) (H : Hp) (n : Int) : Prop where
  run : ∀ (pins : List (Addr × Obj)) (s : Shared) (Q : VK), Inv X pins σ H s → Q (.int n) H → wpAny (model X.prog X.w) X.A (eval e X.env) (EP X pins σ Q) X.xe s
def tIv (X : Cx) (e : Expr) : TE := fun σ H Q => ∃ n, IV X e σ H n ∧ Q (.int n) H
section
variable {X : Cx} {e e' : Expr} {σ : L2.St} {H : Hp} {a b : Int} {pos : Pos}
theorem pe_iv : PE X e (tIv X e) := ⟨fun pins s σ H Q I ⟨n, h, q⟩ => h.run pins s Q I q⟩
theorem IV.of {t : TE} (h : PE X e t) (ht : ∀ Q : VK, Q (.int a) H → t σ H Q) : IV X e σ H a := ⟨fun pins s Q I q => h.run pins s σ H Q I (ht Q q)⟩
theorem iv_c {j : Nat} : IV X (.Constant (.int a) j pos) σ H a := .of pe_int fun Q q => q
theorem iv_add (h : IV X e σ H a) (h' : IV X e' σ H b) : IV X (.BinOp e .Add e' pos) σ H (a + b) := .of (pe_op op_add pe_iv pe_iv) fun Q q => ⟨a, h, b, h', _, _, rfl, rfl, q⟩
theorem iv_sub (h : IV X e σ H a) (h' : IV X e' σ H b) : IV X (.BinOp e .Sub e' pos) σ H (a - b) := .of (pe_op op_sub pe_iv pe_iv) fun Q q => ⟨a, h, b, h', _, _, rfl, rfl, q⟩
theorem iv_mul (h : IV X e σ H a) (h' : IV X e' σ H b) (c : -(2 ^ 64) < b ∧ b < 2 ^ 64) : IV X (.BinOp e .Mult e' pos) σ H (a * b) := .of (pe_op op_mul pe_iv pe_iv) fun Q q => ⟨a, h, b, h', _, _, rfl, rfl, .inr c, q⟩
theorem iv_mod (h : IV X e σ H a) (h' : IV X e' σ H b) (c : 0 < b) : IV X (.BinOp e .Mod e' pos) σ H (a % b) := .of (pe_op op_mod pe_iv pe_iv) fun Q q => ⟨a, h, b, h', _, _, rfl, rfl, c, q⟩
theorem iv_div (h : IV X e σ H a) (h' : IV X e' σ H b) (c : 0 < b) (c2 : b < 2 ^ 64) : IV X (.BinOp e .FloorDiv e' pos) σ H (a / b) := .of (pe_op op_fdivW pe_iv pe_iv) fun Q q => ⟨a, h, b, h', _, _, rfl, rfl, ⟨c, by
  have : b.natAbs < 2 ^ 64 := by omega
  have := (Nat.log2_lt (n := b.natAbs) (k := 64) (by omega)).mpr this
  omega⟩, q⟩
theorem iv_pow (h : IV X e σ H a) (h' : IV X e' σ H b) (c : a.natAbs < 2 ^ 64) (c1 : 0 ≤ b) (c2 : b ≤ 1000000) : IV X (.BinOp e .Pow e' pos) σ H (a ^ b.toNat) := .of (pe_op op_pow pe_iv pe_iv) fun Q q => ⟨a, h, b, h', _, _, rfl, rfl, ⟨c1, c2, c⟩, q⟩
theorem iv_int {p : Pos} (hg : Gl X "int") (hm : X.mg "int" = none) (hs : isStar e = false) (h : IV X e σ H a) : IV X (.Call (.Name "int" p) [e] [] pos) σ H a :=
  .of (pe_callTy call_int1 hg hm (by decide +kernel) (pa_cons pe_iv pa_nil (star_ok hs [] X.env)) (by decide) (by decide) (star_ok hs [] X.env) rfl) fun Q q => ⟨a, h, .inl ⟨a, rfl, q⟩⟩
theorem iv_var {i : Nat} {x : Str} (hN : X.N[i]? = some x) (hv : Vis X.env.scope x) (h1 : (x == ("__debug__" : Str)) = false) (h2 : (x == ("__classdict__" : Str)) = false) (h : σ[i]? = some (some (.int a))) : IV X (.Name x pos) σ H a := .of (pe_var hN hv h1 h2) fun Q q => ⟨_, h, q⟩
/-- a number at a place of a list that a name holds -/
theorem iv_at {i k : Nat} {x : Str} {R : Addr} {vs : List V} {j : Nat} {p p2 : Pos} (hN : X.N[i]? = some x) (hv : Vis X.env.scope x) (h1 : (x == ("__debug__" : Str)) = false) (h2 : (x == ("__classdict__" : Str)) = false) (h : σ[i]? = some (some (.ref R))) (hR : H R = some (.lst vs)) (hk : atI vs (k : Int) = some (.int a)) :
    IV X (.Subscript (.Name x p) (.Constant (.int (k : Int)) j p2) pos) σ H a := .of (pe_ix ix_list (pe_var hN hv h1 h2) pe_int (by intro o i; rfl)) fun Q q => ⟨_, h, R, vs, k, _, rfl, rfl, .inl (.inl hR), hk, q⟩
/-- the length of a list at a place of a list -/
theorem iv_len {i k : Nat} {x : Str} {R S : Addr} {vs ws : List V} {j : Nat} {p p2 p3 p4 : Pos} (hg : Gl X "len") (hm : X.mg "len" = none) (hN : X.N[i]? = some x) (hv : Vis X.env.scope x) (h1 : (x == ("__debug__" : Str)) = false) (h2 : (x == ("__classdict__" : Str)) = false) (h : σ[i]? = some (some (.ref R))) (hR : H R = some (.lst vs)) (hk : atI vs (k : Int) = some (.ref S)) (hS : SqL X.K H S ws) :
    IV X (.Call (.Name "len" p3) [.Subscript (.Name x p) (.Constant (.int (k : Int)) j p2) p4] [] pos) σ H (ws.length : Int) :=
  .of (pe_callB call_len_seq hg hm (by decide +kernel) (pa_cons (pe_ix ix_list (pe_var hN hv h1 h2) pe_int (by intro o i; rfl)) pa_nil rfl)) fun Q q => ⟨_, h, R, vs, k, _, rfl, rfl, .inl (.inl hR), hk, S, ws, rfl, .inl hS, q⟩
/-- a number at a place of a list at a place of a list -/
theorem iv_at2 {i k : Nat} {x : Str} {R S : Addr} {vs ws : List V} {j : Nat} {p p2 p3 : Pos} (hN : X.N[i]? = some x) (hv : Vis X.env.scope x) (h1 : (x == ("__debug__" : Str)) = false) (h2 : (x == ("__classdict__" : Str)) = false) (h : σ[i]? = some (some (.ref R))) (hR : H R = some (.lst vs)) (hk : atI vs (k : Int) = some (.ref S)) (hS : SqL X.K H S ws)
    (hp : plainIx e = true) (he : IV X e σ H b) (hb : atI ws b = some (.int a)) : IV X (.Subscript (.Subscript (.Name x p) (.Constant (.int (k : Int)) j p2) p3) e pos) σ H a :=
  .of (pe_ix ix_list (pe_ix ix_list (pe_var hN hv h1 h2) pe_int (by intro o i; rfl)) pe_iv (plain_ix hp)) fun Q q => ⟨_, h, R, vs, k, _, rfl, rfl, .inl (.inl hR), hk, b, he, S, ws, b, _, rfl, rfl, hS, hb, q⟩
/-- row[k] = e -/
theorem ps_iv {i k : Nat} {x : Str} {j : Nat} {p p2 p3 : Pos} (hN : X.N[i]? = some x) (hv : Vis X.env.scope x) (h1 : (x == ("__debug__" : Str)) = false) (h2 : (x == ("__classdict__" : Str)) = false) (hc : isComp e = false) (ht : isTupE e = false) :
    PS X (.Assign [.Subscript (.Name x p) (.Constant (.int (k : Int)) j p2) p3] e pos) (fun D σ H => ∃ n, IV X e σ H n ∧ ∃ R vs, σ[i]? = some (some (.ref R)) ∧ H R = some (.lst vs) ∧ k < vs.length ∧ D.nx σ (upd H R (.lst (vs.set k (.int n))))) := by
  refine (ps_asg pe_iv (pg_sub (pe_var hN hv h1 h2) pe_int set_list (by intro _; rfl)) (no_swap hc (some (.Subscript (.Name x p) (.Constant (.int (k : Int)) j p2) p3)) pos.line X.env) (stores_none ht) rfl).impD fun D σ H q => ?_
  obtain ⟨n, h, R, vs, g1, g2, g3, g4⟩ := q
  refine ⟨n, h, _, g1, R, vs, k, k, rfl, rfl, g2, ?_, g4⟩
  unfold ixN
  rw [if_pos (by omega), if_pos (by omega)]
  simp
theorem ps_ivn {i : Nat} {x : Str} {p : Pos} (hnd : X.N.Nodup) (hN : X.N[i]? = some x) (hl : X.env.scope.names.lookup x = some .local) (hc : isComp e = false) :
    PS X (.Assign [.Name x p] e pos) (fun D σ H => ∃ n, IV X e σ H n ∧ D.nx (σ.set i (some (.int n))) H) :=
  (ps_set hnd hN (.inl hl) pe_iv (no_swap hc (some (.Name x p)) pos.line X.env) (.inr hl)).impD fun D σ H q => q
theorem ps_ivr : PS X (.Return (some e) pos) (fun D σ H => ∃ n, IV X e σ H n ∧ D.rt (.int n) H) := (ps_ret pe_iv).impD fun D σ H q => q
theorem pt_gt (hm : behindInMarks .Gt e' = false) : PT X (.Compare e [.Gt] [e'] pos) (fun σ H Q => ∃ a b, IV X e σ H a ∧ IV X e' σ H b ∧ Q (decide (b < a)) H) :=
  (pt_cmpR op_gt pe_iv pe_iv hm).impD fun σ H Q ⟨a, b, h, h', q⟩ => ⟨a, h, b, h', a, b, rfl, rfl, _, rfl, q⟩
theorem pt_ge (hm : behindInMarks .GtE e' = false) : PT X (.Compare e [.GtE] [e'] pos) (fun σ H Q => ∃ a b, IV X e σ H a ∧ IV X e' σ H b ∧ Q (decide (b ≤ a)) H) :=
  (pt_cmpR op_ge pe_iv pe_iv hm).impD fun σ H Q ⟨a, b, h, h', q⟩ => ⟨a, h, b, h', a, b, rfl, rfl, _, rfl, q⟩
end
def sgTaken : Sig where
  ps := ["row", "many"]
  row := true
  kws := []
  sp := fun ds Q X => ∃ m : Int, ds = [.int m] ∧ 0 < m ∧ m ≤ 1000000000000 ∧ ∀ r : Int, 0 ≤ r → r < m → Q (.int r)
section
variable {P : Program} {w : World} {K : PySem.W.Frag} {mg : Str → Option Value} {base : Heap} {W : Wd}
theorem row_step {F H : Hp} {i s g i' s' g' : Int} (f : FOk W F H) (gd : Good W H) (h : H W.R = some (.lst [.ref W.S, .int i, .int s, .int g])) (h1 : 0 ≤ i') (h2 : 0 ≤ s') (h3 : s' < 2147483647) (h4 : 0 ≤ g') (h5 : g' < 10 ^ 90) :
    Ext W F H F (upd H W.R (.lst [.ref W.S, .int i', .int s', .int g'])) := by
  have sb : FOk W F (upd H W.R (.lst [.ref W.S, .int i', .int s', .int g'])) := ⟨fun b o q => by
    have hb : b ≠ W.R := fun z => by rw [z, f.nr] at q; cases q
    rw [upd_ne hb]; exact f.sub b o q, f.imm, f.nr⟩
  refine ⟨fun b o q1 q2 q3 => by rw [upd_ne q3]; exact q1, .refl _, fun b o q1 q2 q3 => q1, sb, ?_⟩
  obtain ⟨⟨_, ns, hs, hl1, hl2⟩, t⟩ := gd
  refine ⟨⟨⟨i', s', g', upd_same, h1, h2, h3, h4, h5⟩, ns, hs.imp fun o q _ n => by rw [upd_ne n]; exact q, hl1, hl2⟩, fun p hp => ?_⟩
  · obtain ⟨ps, t1, t2, t3⟩ := t p hp
    have n1 : p.1 ≠ W.R := fun z => by rw [z, h] at t1; cases t1
    refine ⟨ps, by rw [upd_ne n1]; exact t1, t2, fun pos cv q => ?_⟩
    obtain ⟨c, c1, c2⟩ := t3 pos cv q
    have n2 : c ≠ W.R := fun z => by rw [z, h] at c2; cases c2
    exact ⟨c, c1, by rw [upd_ne n2]; exact c2⟩
structure TkX (X : Cx) : Prop where
  hN : X.N = (["row", "many", "found", "cell"] : List Str)
  vr : Vis X.env.scope ("row" : Str)
  vm : Vis X.env.scope "many"
  vf : Vis X.env.scope "found"
  vc : Vis X.env.scope "cell"
  gi : Gl X "int"
  gl : Gl X "len"
  mi : X.mg "int" = none
  ml : X.mg "len" = none
section
variable {X : Cx} {σ : L2.St} {H : Hp} {p p2 p3 p4 pos : Pos} {j : Nat} {R S : Addr} {vs ws : List V} {a b : Int} {e : Expr}
theorem TkX.row (T : TkX X) (k : Nat) (h : σ[0]? = some (some (.ref R))) (hR : H R = some (.lst vs)) (hk : atI vs (k : Int) = some (.int a)) : IV X (.Subscript (.Name "row" p) (.Constant (.int (k : Int)) j p2) pos) σ H a := iv_at (by rw [T.hN]; rfl) T.vr (by decide) (by decide) h hR hk
theorem TkX.many (T : TkX X) (h : σ[1]? = some (some (.int a))) : IV X (.Name "many" pos) σ H a := iv_var (i := 1) (by rw [T.hN]; rfl) T.vm (by decide) (by decide) h
theorem TkX.found (T : TkX X) (h : σ[2]? = some (some (.int a))) : IV X (.Name "found" pos) σ H a := iv_var (i := 2) (by rw [T.hN]; rfl) T.vf (by decide) (by decide) h
theorem TkX.cell (T : TkX X) (h : σ[3]? = some (some (.int a))) : IV X (.Name "cell" pos) σ H a := iv_var (i := 3) (by rw [T.hN]; rfl) T.vc (by decide) (by decide) h
theorem TkX.int (T : TkX X) (hs : isStar e = false) (h : IV X e σ H a) : IV X (.Call (.Name "int" p) [e] [] pos) σ H a := iv_int T.gi T.mi hs h
theorem TkX.len (T : TkX X) {k : Nat} (h : σ[0]? = some (some (.ref R))) (hR : H R = some (.lst vs)) (hk : atI vs (k : Int) = some (.ref S)) (hS : SqL X.K H S ws) : IV X (.Call (.Name "len" p3) [.Subscript (.Name "row" p) (.Constant (.int (k : Int)) j p2) p4] [] pos) σ H (ws.length : Int) := iv_len T.gl T.ml (by rw [T.hN]; rfl) T.vr (by decide) (by decide) h hR hk hS
theorem TkX.at2 (T : TkX X) {k : Nat} (h : σ[0]? = some (some (.ref R))) (hR : H R = some (.lst vs)) (hk : atI vs (k : Int) = some (.ref S)) (hS : SqL X.K H S ws) (hp : plainIx e = true) (he : IV X e σ H b) (hb : atI ws b = some (.int a)) :
    IV X (.Subscript (.Subscript (.Name "row" p) (.Constant (.int (k : Int)) j p2) p3) e pos) σ H a := iv_at2 (by rw [T.hN]; rfl) T.vr (by decide) (by decide) h hR hk hS hp he hb
end
theorem ok_taken {st : Stmt} {f : Addr} {fd : FuncData} {m : Nat} {p1 p2 p3 p4 p5 p6 p7 p8 p9 p10 p11 p12 p13 p14 p15 p16 p17 p18 p19 p20 p21 p22 p23 p24 p25 p26 p27 p28 p29 p30 p31 p32 p33 p34 p35 p36 p37 p38 p39 p40 p41 p42 p43 p44 p45 p46 p47 p48 p49 p50 p51 p52 p53 p54 p55 p56 p57 p58 p59 p60 p61 p62 p63 p64 p65 p66 p67 p68 p69 p70 p71 p72 p73 p74 p75 p76 p77 p78 p79 p80 p81 p82 p83 p84 p85 p86 p87 p88 p89 p90 p91 p92 p93 p94 p95 p96 p97 p98 p99 p100 p101 p102 p103 p104 p105 p106 p107 p108 p109 p110 p111 p112 p113 p114 p115 p116 p117 p118 p119 p120 p121 p122 p123 p124 p125 p126 p127 : Pos} (hW : mg = W.mg) (hK : K = W.K) (F : Fun K "_law_taken" "_law_taken" st f fd) (S : FnScope ["row", "many", "found", "cell"] ["row", "many"] (defScope st))
    (gi : (defScope st).names.lookup ("int" : Str) = some .globalImplicit) (gl : (defScope st).names.lookup ("len" : Str) = some .globalImplicit) (lf : (defScope st).names.lookup ("found" : Str) = some .local) (lc : (defScope st).names.lookup ("cell" : Str) = some .local) (mi : mg "int" = none) (ml : mg "len" = none)
    (hb : defBody st = [.If (.Compare (.Subscript (.Name "row" p1) (.Constant (.int 3) 0 p2) p3) [.Gt] [(.Constant (.int 0) 0 p4)] p5) [.Assign [(.Name "found" p6)] (.BinOp (.Call (.Name "int" p7) [(.Subscript (.Name "row" p8) (.Constant (.int 3) 0 p9) p10)] [] p11) .Mod (.Name "many" p12) p13) p14, .Assign [(.Subscript (.Name "row" p15) (.Constant (.int 3) 0 p16) p17)] (.BinOp (.Subscript (.Name "row" p18) (.Constant (.int 3) 0 p19) p20) .FloorDiv (.Name "many" p21) p22) p23, .Return (some (.Name "found" p24)) p25] [] p26, .Assign [(.Subscript (.Name "row" p27) (.Constant (.int 1) 0 p28) p29)] (.BinOp (.Subscript (.Name "row" p30) (.Constant (.int 1) 0 p31) p32) .Add (.Constant (.int 1) 0 p33) p34) p35, .If (.Compare (.Subscript (.Name "row" p36) (.Constant (.int 1) 0 p37) p38) [.Gt] [(.Call (.Name "len" p39) [(.Subscript (.Name "row" p40) (.Constant (.int 0) 0 p41) p42)] [] p43)] p44) [.Assign [(.Subscript (.Name "row" p45) (.Constant (.int 2) 0 p46) p47)] (.BinOp (.Call (.Name "int" p48) [(.BinOp (.BinOp (.Subscript (.Name "row" p49) (.Constant (.int 2) 0 p50) p51) .Mult (.Constant (.int 48271) 0 p52) p53) .Add (.Constant (.int 11) 0 p54) p55)] [] p56) .Mod (.Constant (.int 2147483647) 0 p57) p58) p59, .Return (some (.BinOp (.Call (.Name "int" p60) [(.BinOp (.Subscript (.Name "row" p61) (.Constant (.int 2) 0 p62) p63) .FloorDiv (.Constant (.int 7) 0 p64) p65)] [] p66) .Mod (.Name "many" p67) p68)) p69] [] p70, .Assign [(.Name "cell" p71)] (.Subscript (.Subscript (.Name "row" p72) (.Constant (.int 0) 0 p73) p74) (.BinOp (.Subscript (.Name "row" p75) (.Constant (.int 1) 0 p76) p77) .Sub (.Constant (.int 1) 0 p78) p79) p80) p81, .Assign [(.Subscript (.Name "row" p82) (.Constant (.int 2) 0 p83) p84)] (.BinOp (.Call (.Name "int" p85) [(.BinOp (.BinOp (.BinOp (.Subscript (.Name "row" p86) (.Constant (.int 2) 0 p87) p88) .Mult (.Constant (.int 48271) 0 p89) p90) .Add (.Call (.Name "int" p91) [(.Name "cell" p92)] [] p93) p94) .Add (.Constant (.int 11) 0 p95) p96)] [] p97) .Mod (.Constant (.int 2147483647) 0 p98) p99) p100, .If (.Compare (.Name "cell" p101) [.GtE] [(.BinOp (.Constant (.int 10) 0 p102) .Pow (.Constant (.int 18) 0 p103) p104)] p105) [.Assign [(.Subscript (.Name "row" p106) (.Constant (.int 3) 0 p107) p108)] (.BinOp (.Call (.Name "int" p109) [(.BinOp (.Call (.Name "int" p110) [(.Name "cell" p111)] [] p112) .Mod (.BinOp (.Constant (.int 10) 0 p113) .Pow (.Constant (.int 90) 0 p114) p115) p116)] [] p117) .FloorDiv (.Name "many" p118) p119) p120] [] p121, .Return (some (.BinOp (.Call (.Name "int" p122) [(.Name "cell" p123)] [] p124) .Mod (.Name "many" p125) p126)) p127]) : FnOk P w K mg base (L2.CX P w) (m + 1) f fd sgTaken.ps (spV W sgTaken) := by
  refine F.okX S (fun vs H Q E h => ?_) fun cdv A outer s H vs Q E hr h => ?_
  · obtain ⟨F0, ds, ws, Qd, Xd, f1, g1, rfl, d1, ⟨m, rfl, _⟩, _⟩ := h
    have := d1.length
    show (V.ref W.R :: ws).length = 2
    simpa using this
  rw [hb]
  have vr : Vis (defScope st) "row" := (S.par _ List.mem_cons_self).elim .inl fun z => .inr (.inl z)
  have vm : Vis (defScope st) "many" := (S.par _ (List.mem_cons_of_mem _ List.mem_cons_self)).elim .inl fun z => .inr (.inl z)
  refine ⟨_, pss_cons (ps_if (pt_gt rfl) (pss_cons (ps_ivn S.nd (i := 2) rfl lf rfl) (pss_cons (ps_iv (k := 3) (i := 0) rfl vr (by decide) (by decide) rfl rfl) (pss_one ps_ivr))) pss_nil)
    (pss_cons (ps_iv (k := 1) (i := 0) rfl vr (by decide) (by decide) rfl rfl) (pss_cons (ps_if (pt_gt rfl) (pss_cons (ps_iv (k := 2) (i := 0) rfl vr (by decide) (by decide) rfl rfl) (pss_one ps_ivr)) pss_nil)
    (pss_cons (ps_ivn S.nd (i := 3) rfl lc rfl) (pss_cons (ps_iv (k := 2) (i := 0) rfl vr (by decide) (by decide) rfl rfl) (pss_cons (ps_if (pt_ge rfl) (pss_one (ps_iv (k := 3) (i := 0) rfl vr (by decide) (by decide) rfl rfl)) pss_nil) (pss_one ps_ivr)))))), ?_⟩
  obtain ⟨F0, ds, ws, Qd, Xd, f1, g1, rfl, d1, ⟨m, rfl, hm, hm2, hq⟩, h4, _⟩ := h
  have ew : ws = [V.int m] := by
    cases d1 with
    | cons a1 a2 => cases a1; cases a2; rfl
  subst ew
  obtain ⟨⟨⟨i, sd, g, e, hi, hs1, hs2, hg1, hg2⟩, ns, hns, hl, hbits⟩, ht⟩ := id g1
  have mret : ∀ (x : Int) (F' : Hp) (H' : Hp), Ext W F0 H F' H' → Q (.int (x % m)) H' := fun x F' H' ex => h4 (.int (x % m)) _ F' H' ex (.int _) (hq _ (Int.emod_nonneg _ (by omega)) (Int.emod_lt_of_pos _ hm))
  have m64 : m < 2 ^ 64 := by omega
  have big : ∀ x : Int, 0 ≤ x % 2147483647 ∧ x % 2147483647 < 2147483647 := fun x => ⟨Int.emod_nonneg _ (by decide), Int.emod_lt_of_pos _ (by decide)⟩
  have T : TkX (cxOf (L2.CX P w) P w K mg base ["row", "many", "found", "cell"] "_law_taken" (defScope st) f cdv A outer s H E) := ⟨rfl, vr, vm, .inl lf, .inl lc, gi, gl, mi, ml⟩
  have z0 : (0 : Int) ≤ 0 := by decide
  refine ⟨g, 0, T.row 3 rfl e rfl, iv_c, ?_⟩
  dsimp only
  by_cases c : 0 < g
  · rw [if_pos (decide_eq_true c)]
    refine ⟨g % m, iv_mod (T.int rfl (T.row 3 rfl e rfl)) (T.many rfl) hm, g / m, iv_div (T.row 3 rfl e rfl) (T.many rfl) hm m64, _, _, rfl, e, by show 3 < 4; decide, g % m, T.found rfl, ?_⟩
    exact mret g _ _ (row_step f1 g1 e hi hs1 hs2 (Int.ediv_nonneg hg1 (by omega)) (Int.lt_of_le_of_lt (Int.ediv_le_self _ hg1) hg2))
  · rw [if_neg (show ¬ decide (0 < g) = true by simpa using c)]
    refine ⟨i + 1, iv_add (T.row 1 rfl e rfl) iv_c, _, _, rfl, e, by show 1 < 4; decide, ?_⟩
    have x1 := row_step f1 g1 e (i' := i + 1) (s' := sd) (g' := g) (by omega) hs1 hs2 hg1 hg2
    have e1 : (upd H W.R (.lst [.ref W.S, .int (i + 1), .int sd, .int g])) W.R = some (.lst [.ref W.S, .int (i + 1), .int sd, .int g]) := upd_same
    have hns1 : SqL K (upd H W.R (.lst [.ref W.S, .int (i + 1), .int sd, .int g])) W.S (ns.map V.int) := by
      rw [hK]; exact (hns.imp fun o q _ n => by rw [upd_ne n]; exact q).sq
    refine ⟨i + 1, (ns.length : Int), T.row 1 rfl e1 rfl, by rw [← List.length_map (f := V.int)]; exact T.len (k := 0) rfl e1 rfl hns1, ?_⟩
    dsimp only
    by_cases c2 : (ns.length : Int) < i + 1
    · rw [if_pos (decide_eq_true c2)]
      refine ⟨_, iv_mod (T.int rfl (iv_add (iv_mul (T.row 2 rfl e1 rfl) iv_c (by decide)) iv_c)) iv_c (by decide), _, _, rfl, e1, by show 2 < 4; decide, ?_⟩
      have x2 := row_step x1.ok x1.gd e1 (i' := i + 1) (s' := (sd * 48271 + 11) % 2147483647) (g' := g) (by omega) (big _).1 (big _).2 hg1 hg2
      exact ⟨_, iv_mod (T.int rfl (iv_div (T.row 2 rfl upd_same rfl) iv_c (by decide) (by decide))) (T.many rfl) hm, mret _ _ _ (x1.trans x2)⟩
    · rw [if_neg (show ¬ decide ((ns.length : Int) < i + 1) = true by simpa using c2)]
      have hj : i.toNat < ns.length := by omega
      have hz : ns[i.toNat]? = some (ns[i.toNat]) := List.getElem?_eq_getElem hj
      generalize ns[i.toNat] = z at hz
      have hat : atI (ns.map V.int) (i + 1 - 1) = some (.int z) := by
        unfold atI ixN
        rw [if_pos (by omega), List.length_map, if_pos (by omega), show (i + 1 - 1).toNat = i.toNat by omega]
        show (ns.map V.int)[i.toNat]? = _
        rw [List.getElem?_map, hz]; rfl
      refine ⟨z, T.at2 (k := 0) rfl e1 rfl hns1 rfl (iv_sub (T.row 1 rfl e1 rfl) iv_c) hat, ?_⟩
      refine ⟨_, iv_mod (T.int rfl (iv_add (iv_add (iv_mul (T.row 2 rfl e1 rfl) iv_c (by decide)) (T.int rfl (T.cell rfl))) iv_c)) iv_c (by decide), _, _, rfl, e1, by show 2 < 4; decide, ?_⟩
      have x2 := row_step x1.ok x1.gd e1 (i' := i + 1) (s' := (sd * 48271 + z + 11) % 2147483647) (g' := g) (by omega) (big _).1 (big _).2 hg1 hg2
      have e2 : (upd (upd H W.R (.lst [.ref W.S, .int (i + 1), .int sd, .int g])) W.R (.lst [.ref W.S, .int (i + 1), .int ((sd * 48271 + z + 11) % 2147483647), .int g])) W.R = some (.lst [.ref W.S, .int (i + 1), .int ((sd * 48271 + z + 11) % 2147483647), .int g]) := upd_same
      refine ⟨z, _, T.cell rfl, iv_pow iv_c iv_c (by decide) (by decide) (by decide), ?_⟩
      dsimp only
      by_cases c3 : (10 : Int) ^ (18 : Int).toNat ≤ z
      · rw [if_pos (decide_eq_true c3)]
        refine ⟨_, iv_div (T.int rfl (iv_mod (T.int rfl (T.cell rfl)) (iv_pow iv_c iv_c (by decide) (by decide) (by decide)) (by decide))) (T.many rfl) hm m64, _, _, rfl, e2, by show 3 < 4; decide, ?_⟩
        have b1 : 0 ≤ z % (10 : Int) ^ (90 : Int).toNat := Int.emod_nonneg _ (by decide)
        have b2 : z % (10 : Int) ^ (90 : Int).toNat < 10 ^ 90 := Int.emod_lt_of_pos _ (by decide)
        have x3 := row_step x2.ok x2.gd e2 (i' := i + 1) (s' := (sd * 48271 + z + 11) % 2147483647) (g' := z % (10 : Int) ^ (90 : Int).toNat / m) (by omega) (big _).1 (big _).2 (Int.ediv_nonneg b1 (by omega)) (Int.lt_of_le_of_lt (Int.ediv_le_self _ b1) b2)
        exact ⟨_, iv_mod (T.int rfl (T.cell rfl)) (T.many rfl) hm, mret _ _ _ ((x1.trans x2).trans x3)⟩
      · rw [if_neg (show ¬ decide ((10 : Int) ^ (18 : Int).toNat ≤ z) = true by simpa using c3)]
        exact ⟨_, iv_mod (T.int rfl (T.cell rfl)) (T.many rfl) hm, mret _ _ _ (x1.trans x2)⟩
end
end Dl

set_option Elab.async false
set_option linter.all false
set_option maxRecDepth 100000
set_option maxHeartbeats 8000000
/-! the data layer, part 27: whether two values are alike; one of some things; the law's own loop -/
namespace Dl
open PySem PySem.Spec PyProof.Rows L2
def b__law_pick : SL := (.cons (.ret (.idx (.var 1) (.call "_law_taken" (some 0) (.cons (.blt .len (.cons (.var 1) .nil)) .nil) [] .nil))) .nil)
def b__law_alike : SL := (.cons (.ife (.isi (.var 1) "tuple") (.cons (.ife (.ors (.cons (.not (.isi (.var 0) "tuple")) (.cons (.cmp .NotEq (.blt .len (.cons (.var 0) .nil)) (.blt .len (.cons (.var 1) .nil))) .nil))) (.cons (.ret (.cst (.bl false))) .nil) .nil) (.cons (.ret (.cmp .Eq (.lc (.var 2) [("at", 2)] (.name 2 "at") (.rng1 (.blt .len (.cons (.var 1) .nil))) (.cons (.not (.call "_law_alike" none (.cons (.idx (.var 0) (.var 2)) (.cons (.idx (.var 1) (.var 2)) .nil)) [] .nil)) .nil)) (.lst .nil))) .nil)) .nil) (.cons (.ife (.ors (.cons (.cmp .Is (.var 1) (.cst .non)) (.cons (.isi (.var 1) "str") .nil))) (.cons (.ret (.ands (.cons (.cmp .Eq (.var 0) (.var 1)) (.cons (.cmp .Eq (.isi (.var 0) "str") (.isi (.var 1) "str")) .nil)))) .nil) .nil) (.cons (.ret (.ands (.cons (.isi (.var 0) "int") (.cons (.cmp .Eq (.isi (.var 0) "bool") (.isi (.var 1) "bool")) (.cons (.cmp .Eq (.var 0) (.var 1)) .nil))))) .nil)))
/-! ### reading what is wanted -/
theorem opt_get {α : Type} {o : Option α} {r : α} {Q : α → Prop} (h : o = some r) (q : Q r) : opt o Q := ⟨r, h, q⟩
@[simp] theorem valAt_nil {i : Nat} : valAt [] i = none := by unfold valAt; rfl
@[simp] theorem valAt_val {d : PyData} {r : Env1} : valAt (.val d :: r) 0 = some d := rfl
@[simp] theorem valAt_own {d : List PyData} {r : Env1} : valAt (.own d :: r) 0 = none := rfl
@[simp] theorem valAt_bad {r : Env1} : valAt (.bad :: r) 0 = none := rfl
@[simp] theorem valAt_row {r : Env1} : valAt (.row :: r) 0 = none := rfl
@[simp] theorem valAt_succ {b : B} {r : Env1} {i : Nat} : valAt (b :: r) (i + 1) = valAt r i := rfl
@[simp] theorem ownAt_own {d : List PyData} {r : Env1} : ownAt (.own d :: r) 0 = some d := rfl
@[simp] theorem ownAt_succ {b : B} {r : Env1} {i : Nat} : ownAt (b :: r) (i + 1) = ownAt r i := rfl
def sgPick : Sig where
  ps := ["row", "some"]
  row := true
  kws := []
  sp := fun ds Q X => ∃ xs, ds = [.list xs] ∧ 0 < xs.length ∧ xs.length ≤ 1000000 ∧ ∀ d ∈ xs, Q d
theorem mem_at {xs : List PyData} {r : Int} (h : 0 ≤ r) (h2 : r < xs.length) : ∃ d, atI xs r = some d ∧ d ∈ xs := by
  have h3 : r.toNat < xs.length := by omega
  refine ⟨xs[r.toNat], ?_, List.getElem_mem h3⟩
  unfold atI ixN
  rw [if_pos h, if_pos h2]
  exact List.getElem?_eq_getElem h3
theorem pick_wp {Γ : Gam} (ht : Γ.funs "_law_taken" = some sgTaken) (ds : List PyData) (Q : PyData → Prop) (X : Str → Prop) (h : sgPick.sp ds Q X) : wpSs Γ b__law_pick (rho0 2 true ds) (postOf Q X) := by
  obtain ⟨xs, rfl, h1, h2, h3⟩ := h
  refine ⟨_, rfl, sgTaken, ht, ⟨rfl, rfl⟩, _, rfl, _, rfl, _, rfl, by omega, by omega, fun r hr hr2 => ?_⟩
  obtain ⟨d, e, hd⟩ := mem_at hr hr2
  exact ⟨d, e, h3 d hd⟩
/-- a walk of which each turn gives what g tells -/
theorem wpL_map {f : PyData → (Option PyData → Prop) → Prop} {g : PyData → Option PyData} : ∀ {xs : List PyData} {Q : List PyData → Prop}, (∀ x ∈ xs, ∀ k, k (g x) → f x k) → Q (xs.filterMap g) → wpL f xs Q
  | [], Q, _, q => q
  | x :: xs, Q, h, q => by
    refine h x List.mem_cons_self _ (wpL_map (fun y hy => h y (List.mem_cons_of_mem _ hy)) ?_)
    rw [List.filterMap_cons] at q
    cases hg : g x with
    | none => rw [hg] at q; exact q
    | some y => rw [hg] at q; exact q
/-- a walk of which each turn gives something of a kind -/
theorem wpL_rel {f : PyData → (Option PyData → Prop) → Prop} {R : PyData → Prop} : ∀ {xs : List PyData} {Q : List PyData → Prop}, (∀ x ∈ xs, ∀ k, (∀ y, R y → k (some y)) → f x k) → (∀ ys, ys.length = xs.length → (∀ y ∈ ys, R y) → Q ys) → wpL f xs Q
  | [], Q, _, q => q [] rfl (fun y hy => by cases hy)
  | x :: xs, Q, h, q => by
    refine h x List.mem_cons_self _ fun y hy => wpL_rel (R := R) (fun z hz => h z (List.mem_cons_of_mem _ hz)) fun ys hl hr => q (y :: ys) (by simp [hl]) fun z hz => ?_
    rcases List.mem_cons.mp hz with rfl | hz
    · exact hy
    · exact hr z hz
/-! ### alike -/
mutual
def alike : PyData → PyData → Bool
  | f, .tuple es => match f with
    | .tuple fs => alikes fs es
    | _ => false
  | f, .none => match f with | .none => true | _ => false
  | f, .str s => match f with | .str t => t == s | _ => false
  | f, .bool b => match f with | .bool c => c == b | _ => false
  | f, .int i => match f with | .int j => j == i | _ => false
  | _, _ => false
def alikes : List PyData → List PyData → Bool
  | [], [] => true
  | f :: fs, e :: es => alike f e && alikes fs es
  | _, _ => false
end
mutual
/-- depth and widths within bounds -/
def okD : Nat → PyData → Bool
  | n, .tuple es => match n with
    | 0 => false
    | n + 1 => decide (es.length ≤ 1000000) && okDs n es
  | _, .none => true | _, .bool _ => true | _, .int _ => true | _, .str _ => true
  | _, _ => false
def okDs : Nat → List PyData → Bool
  | _, [] => true
  | n, e :: es => okD n e && okDs n es
end
theorem okDs_mem {n : Nat} : ∀ {es : List PyData}, okDs n es = true → ∀ e ∈ es, okD n e = true
  | [], _, e, he => by cases he
  | x :: r, h, e, he => by
    unfold okDs at h
    simp only [Bool.and_eq_true] at h
    rcases List.mem_cons.mp he with rfl | he
    · exact h.1
    · exact okDs_mem h.2 e he
def sgAlike (n : Nat) : Sig where
  ps := ["found", "due"]
  row := false
  kws := []
  sp := fun ds Q X => ∃ f d, ds = [f, d] ∧ okD n d = true ∧ Q (.bool (alike f d))
def gamAlike : Nat → Gam
  | 0 => { funs := fun _ => none, cons := fun _ => none }
  | n + 1 => { funs := fun x => if x = "_law_alike" then some (sgAlike n) else none, cons := fun _ => none }
theorem alikes_iff : ∀ {fs es : List PyData}, fs.length = es.length → (alikes fs es = true ↔ ∀ (i : Nat) f e, fs[i]? = some f → es[i]? = some e → alike f e = true)
  | [], [], _ => by simp [alikes]
  | f :: fs, e :: es, h => by
    unfold alikes
    rw [Bool.and_eq_true, alikes_iff (by simpa using h)]
    constructor
    · rintro ⟨h1, h2⟩ i a b ha hb
      cases i with
      | zero => simp at ha hb; subst ha hb; exact h1
      | succ i => exact h2 i a b (by simpa using ha) (by simpa using hb)
    · intro h3
      exact ⟨h3 0 f e rfl rfl, fun i a b ha hb => h3 (i + 1) a b (by simpa using ha) (by simpa using hb)⟩
  | [], _ :: _, h => by cases h
  | _ :: _, [], h => by cases h
theorem alikes_len : ∀ {fs es : List PyData}, alikes fs es = true → fs.length = es.length
  | [], [], _ => rfl
  | f :: fs, e :: es, h => by unfold alikes at h; rw [Bool.and_eq_true] at h; simp [alikes_len h.2]
  | [], _ :: _, h => by simp [alikes] at h
  | _ :: _, [], h => by simp [alikes] at h
theorem atI_nat {xs : List PyData} {i : Nat} : atI xs (i : Int) = xs[i]? := by
  unfold atI ixN
  rw [if_pos (by omega)]
  by_cases h : (i : Int) < xs.length
  · rw [if_pos h]; simp
  · rw [if_neg h]
    rw [List.getElem?_eq_none (by omega)]; rfl
@[simp] theorem eqv_nil {xs : List PyData} : PyData.eqv (.list xs) (.list []) = xs.isEmpty := by
  cases xs with
  | nil => rfl
  | cons a r => rfl
/-! ### evaluation -/
section
variable {Γ : Gam} {ρ : Env1} {X : Str → Prop} {P : Post}
@[simp] theorem w_var {i : Nat} {Q : PyData → Prop} : wpE Γ (.var i) ρ Q X = opt (valAt ρ i) Q := rfl
@[simp] theorem w_rd {i : Nat} {Q : PyData → Prop} : wpE Γ (.rd i) ρ Q X = opt (ownAt ρ i) fun xs => xs.length ≤ 16777216 → Q (.list xs) := rfl
@[simp] theorem w_cst {c : Cst} {Q : PyData → Prop} : wpE Γ (.cst c) ρ Q X = Q c.d := rfl
@[simp] theorem w_glob {x : Str} {Q : PyData → Prop} : wpE Γ (.glob x) ρ Q X = opt (Γ.cons x) Q := rfl
@[simp] theorem w_bin {op : Operator} {a b : E} {Q : PyData → Prop} : wpE Γ (.bin op a b) ρ Q X = wpE Γ a ρ (fun d => wpE Γ b ρ (fun e => opt (binSem op d e) Q) X) X := rfl
@[simp] theorem w_un {op : UnaryOp} {a : E} {Q : PyData → Prop} : wpE Γ (.un op a) ρ Q X = wpE Γ a ρ (fun d => opt (unSem op d) Q) X := rfl
@[simp] theorem w_cmp {op : CmpOp} {a b : E} {Q : PyData → Prop} : wpE Γ (.cmp op a b) ρ Q X = wpE Γ a ρ (fun d => wpE Γ b ρ (fun e => opt (cmpSem op d e) fun b => Q (.bool b)) X) X := rfl
@[simp] theorem w_chn {o p : CmpOp} {a b c : E} {Q : PyData → Prop} : wpE Γ (.chn o p a b c) ρ Q X = wpE Γ a ρ (fun d => wpE Γ b ρ (fun e => opt (cmpSem o d e) fun k => if k = true then wpE Γ c ρ (fun e' => opt (cmpSem p e e') fun b => Q (.bool b)) X else Q (.bool false)) X) X := rfl
@[simp] theorem w_ands {as : EL} {Q : PyData → Prop} : wpE Γ (.ands as) ρ Q X = wpAnds Γ as ρ Q X := rfl
@[simp] theorem w_ors {as : EL} {Q : PyData → Prop} : wpE Γ (.ors as) ρ Q X = wpOrs Γ as ρ Q X := rfl
@[simp] theorem w_not {a : E} {Q : PyData → Prop} : wpE Γ (.not a) ρ Q X = wpE Γ a ρ (fun d => opt (truth d) fun b => Q (.bool (!b))) X := rfl
@[simp] theorem w_ite {c a b : E} {Q : PyData → Prop} : wpE Γ (.ite c a b) ρ Q X = wpT Γ c ρ (fun k => if k = true then wpE Γ a ρ Q X else wpE Γ b ρ Q X) X := rfl
@[simp] theorem w_isi {a : E} {T : String} {Q : PyData → Prop} : wpE Γ (.isi a T) ρ Q X = wpE Γ a ρ (fun d => Q (.bool (isInst d T))) X := rfl
@[simp] theorem w_call {f : Str} {r : Option Nat} {as : EL} {ks : List Str} {kws : EL} {Q : PyData → Prop} : wpE Γ (.call f r as ks kws) ρ Q X = opt (Γ.funs f) fun sg => (rowAt ρ r = true ∧ sgOk sg r ks = true) ∧ wpEs Γ as ρ (fun ds => wpEs Γ kws ρ (fun es => sg.sp (ds ++ es) Q X) X) X := rfl
@[simp] theorem w_blt {f : Blt} {as : EL} {Q : PyData → Prop} : wpE Γ (.blt f as) ρ Q X = wpEs Γ as ρ (fun ds => opt (bltSem f ds) Q) X := rfl
@[simp] theorem w_idx {a i : E} {Q : PyData → Prop} : wpE Γ (.idx a i) ρ Q X = wpE Γ a ρ (fun d => wpE Γ i ρ (fun e => opt (ixSem d e) Q) X) X := rfl
@[simp] theorem w_sp {k : SpF} {a : E} {Q : PyData → Prop} : wpE Γ (.sp k a) ρ Q X = wpE Γ a ρ (fun d => opt (spSem k d) Q) X := rfl
@[simp] theorem w_slc {a : E} {lo hi : EO} {Q : PyData → Prop} : wpE Γ (.slc a lo hi) ρ Q X = wpE Γ a ρ (fun d => wpO Γ lo ρ (fun l => wpO Γ hi ρ (fun h => opt (slSem l h d) Q) X) X) X := rfl
@[simp] theorem w_tup {as : EL} {Q : PyData → Prop} : wpE Γ (.tup as) ρ Q X = wpEs Γ as ρ (fun ds => Q (.tuple ds)) X := rfl
@[simp] theorem w_lst {as : EL} {Q : PyData → Prop} : wpE Γ (.lst as) ρ Q X = wpEs Γ as ρ (fun ds => Q (.list ds)) X := rfl
@[simp] theorem w_lc {elt : E} {own : List (Str × Nat)} {tg : Pat} {it : It1} {cs : EL} {Q : PyData → Prop} : wpE Γ (.lc elt own tg it cs) ρ Q X = wpI Γ it ρ (fun items => wpL (fun x k => opt (bindP tg x (wipeB ρ (own.map (·.2)))) fun ρ' =>
      wpTAnds Γ cs ρ' (fun b => if b = true then wpE Γ elt ρ' (fun y => k (some y)) (fun _ => False) else k none) (fun _ => False)) items fun ys => Q (.list ys)) X := rfl
@[simp] theorem w_lrg {tu : Bool} {a b : E} {Q : PyData → Prop} : wpE Γ (.lrg tu a b) ρ Q X = wpE Γ a ρ (fun d => wpE Γ b ρ (fun e => match d, e with
      | .int i, .int j => (-(2 ^ 60) ≤ i ∧ i ≤ 2 ^ 60 ∧ -(2 ^ 60) ≤ j ∧ j ≤ 2 ^ 60 ∧ j - i ≤ 16777216) ∧ Q (seqOf tu (rangeL i 1 (j - i).toNat)) | _, _ => False) X) X := rfl
@[simp] theorem w_lrg1 {tu : Bool} {a : E} {Q : PyData → Prop} : wpE Γ (.lrg1 tu a) ρ Q X = wpE Γ a ρ (fun d => match d with | .int j => (j ≤ 16777216 ∧ -(2 ^ 60) ≤ j) ∧ Q (seqOf tu (rangeL 0 1 j.toNat)) | _ => False) X := rfl
@[simp] theorem w_lrg3 {a b c : E} {Q : PyData → Prop} : wpE Γ (.lrg3 a b c) ρ Q X = wpE Γ a ρ (fun d => wpE Γ b ρ (fun e => wpE Γ c ρ (fun g => match d, e, g with
      | .int i, .int j, .int k => RgC i j k (rngN i j k) ∧ rngN i j k ≤ 16777216 ∧ Q (.list (rangeL i k (rngN i j k))) | _, _, _ => False) X) X) X := rfl
@[simp] theorem seqOf_t {xs : List PyData} : seqOf true xs = .tuple xs := rfl
@[simp] theorem seqOf_l {xs : List PyData} : seqOf false xs = .list xs := rfl
@[simp] theorem w_told {e : E} {Q : PyData → Prop} : wpE Γ (.told e) ρ Q X = wpE Γ e ρ (fun _ => Q (.str "")) fun n => Q (.str n) := rfl
@[simp] theorem w_nil {Q : List PyData → Prop} : wpEs Γ .nil ρ Q X = Q [] := rfl
@[simp] theorem w_cons {e : E} {r : EL} {Q : List PyData → Prop} : wpEs Γ (.cons e r) ρ Q X = wpE Γ e ρ (fun d => wpEs Γ r ρ (fun ds => Q (d :: ds)) X) X := rfl
@[simp] theorem w_and1 {e : E} {Q : PyData → Prop} : wpAnds Γ (.cons e .nil) ρ Q X = wpE Γ e ρ Q X := rfl
@[simp] theorem w_and2 {e e2 : E} {r : EL} {Q : PyData → Prop} : wpAnds Γ (.cons e (.cons e2 r)) ρ Q X = wpE Γ e ρ (fun d => opt (truth d) fun b => if b = true then wpAnds Γ (.cons e2 r) ρ Q X else Q d) X := rfl
@[simp] theorem w_or1 {e : E} {Q : PyData → Prop} : wpOrs Γ (.cons e .nil) ρ Q X = wpE Γ e ρ Q X := rfl
@[simp] theorem w_or2 {e e2 : E} {r : EL} {Q : PyData → Prop} : wpOrs Γ (.cons e (.cons e2 r)) ρ Q X = wpE Γ e ρ (fun d => opt (truth d) fun b => if b = true then Q d else wpOrs Γ (.cons e2 r) ρ Q X) X := rfl
@[simp] theorem w_onone {Q : Option Int → Prop} : wpO Γ .none ρ Q X = Q none := rfl
@[simp] theorem w_osome {e : E} {Q : Option Int → Prop} : wpO Γ (.some e) ρ Q X = wpE Γ e ρ (fun d => match d with | .int i => Q (some i) | _ => False) X := rfl
@[simp] theorem w_of {e : E} {Q : List PyData → Prop} : wpI Γ (.of e) ρ Q X = wpE Γ e ρ (fun d => opt (seqD d) fun xs => xs.length ≤ 16777216 → Q xs) X := rfl
@[simp] theorem w_rng1 {a : E} {Q : List PyData → Prop} : wpI Γ (.rng1 a) ρ Q X = wpE Γ a ρ (fun d => match d with | .int j => j ≤ 16777216 ∧ (-(2 ^ 60) ≤ j) ∧ Q (rangeL 0 1 j.toNat) | _ => False) X := rfl
@[simp] theorem w_rng2 {a b : E} {Q : List PyData → Prop} : wpI Γ (.rng2 a b) ρ Q X = wpE Γ a ρ (fun d => wpE Γ b ρ (fun e => match d, e with | .int i, .int j => (-(2 ^ 60) ≤ i ∧ i ≤ 2 ^ 60 ∧ -(2 ^ 60) ≤ j ∧ j ≤ 2 ^ 60 ∧ j - i ≤ 16777216) ∧ Q (rangeL i 1 (j - i).toNat) | _, _ => False) X) X := rfl
@[simp] theorem w_enum {a : E} {Q : List PyData → Prop} : wpI Γ (.enum a) ρ Q X = wpE Γ a ρ (fun d => opt (seqD d) fun xs => xs.length ≤ 16777216 → Q (enumL xs)) X := rfl
@[simp] theorem w_zip {a b : E} {Q : List PyData → Prop} : wpI Γ (.zip a b) ρ Q X = wpE Γ a ρ (fun d => wpE Γ b ρ (fun e => opt (zipD d e) fun p => p.1.length ≤ 16777216 → p.2.length ≤ 16777216 → Q (zipL p.1 p.2)) X) X := rfl
@[simp] theorem w_txt {e : E} {Q : List PyData → Prop} : wpI Γ (.txt e) ρ Q X = wpE Γ e ρ (fun d => match d with | .str x => x.length ≤ 16777216 ∧ Q (signsD x) | _ => False) X := rfl
@[simp] theorem t_ands {as : EL} {Q : Bool → Prop} : wpT Γ (.ands as) ρ Q X = wpTAnds Γ as ρ Q X := rfl
@[simp] theorem t_ors {as : EL} {Q : Bool → Prop} : wpT Γ (.ors as) ρ Q X = wpTOrs Γ as ρ Q X := rfl
@[simp] theorem t_not' {a : E} {Q : Bool → Prop} : wpT Γ (.not a) ρ Q X = wpT Γ a ρ (fun b => Q (!b)) X := rfl
@[simp] theorem t_cmp {op : CmpOp} {a b : E} {Q : Bool → Prop} : wpT Γ (.cmp op a b) ρ Q X = wpE Γ a ρ (fun d => wpE Γ b ρ (fun e => opt (cmpSem op d e) Q) X) X := rfl
@[simp] theorem t_chn {o p : CmpOp} {a b c : E} {Q : Bool → Prop} : wpT Γ (.chn o p a b c) ρ Q X = wpE Γ a ρ (fun d => wpE Γ b ρ (fun e => opt (cmpSem o d e) fun k => if k = true then wpE Γ c ρ (fun e' => opt (cmpSem p e e') Q) X else Q false) X) X := rfl
@[simp] theorem t_var {i : Nat} {Q : Bool → Prop} : wpT Γ (.var i) ρ Q X = opt (valAt ρ i) fun d => opt (truth d) Q := rfl
@[simp] theorem t_rd {i : Nat} {Q : Bool → Prop} : wpT Γ (.rd i) ρ Q X = opt (ownAt ρ i) fun xs => Q (!xs.isEmpty) := rfl
@[simp] theorem t_cst {c : Cst} {Q : Bool → Prop} : wpT Γ (.cst c) ρ Q X = opt (truth c.d) Q := rfl
@[simp] theorem t_isi {a : E} {T : String} {Q : Bool → Prop} : wpT Γ (.isi a T) ρ Q X = wpE Γ a ρ (fun d => Q (isInst d T)) X := rfl
@[simp] theorem t_call {f : Str} {r : Option Nat} {as : EL} {ks : List Str} {kws : EL} {Q : Bool → Prop} : wpT Γ (.call f r as ks kws) ρ Q X = opt (Γ.funs f) fun sg => (rowAt ρ r = true ∧ sgOk sg r ks = true) ∧ wpEs Γ as ρ (fun ds => wpEs Γ kws ρ (fun es => sg.sp (ds ++ es) (fun d => opt (truth d) Q) X) X) X := rfl
@[simp] theorem t_blt {f : Blt} {as : EL} {Q : Bool → Prop} : wpT Γ (.blt f as) ρ Q X = wpEs Γ as ρ (fun ds => opt (bltSem f ds) fun d => opt (truth d) Q) X := rfl
@[simp] theorem t_idx {a i : E} {Q : Bool → Prop} : wpT Γ (.idx a i) ρ Q X = wpE Γ a ρ (fun d => wpE Γ i ρ (fun e => opt (ixSem d e) fun d => opt (truth d) Q) X) X := rfl
@[simp] theorem t_nil {Q : Bool → Prop} : wpTAnds Γ .nil ρ Q X = Q true := rfl
@[simp] theorem t_cons {e : E} {r : EL} {Q : Bool → Prop} : wpTAnds Γ (.cons e r) ρ Q X = wpT Γ e ρ (fun b => if b = true then wpTAnds Γ r ρ Q X else Q false) X := rfl
@[simp] theorem t_onil {Q : Bool → Prop} : wpTOrs Γ .nil ρ Q X = Q false := rfl
@[simp] theorem t_ocons {e : E} {r : EL} {Q : Bool → Prop} : wpTOrs Γ (.cons e r) ρ Q X = wpT Γ e ρ (fun b => if b = true then Q true else wpTOrs Γ r ρ Q X) X := rfl
@[simp] theorem s_skip : wpS Γ .skip ρ P = P.nx ρ := rfl
@[simp] theorem s_ret {e : E} : wpS Γ (.ret e) ρ P = wpE Γ e ρ P.rt P.xc := rfl
@[simp] theorem s_retN : wpS Γ .retN ρ P = P.rt .none := rfl
@[simp] theorem s_brk : wpS Γ .brk ρ P = P.bk ρ := rfl
@[simp] theorem s_cnt : wpS Γ .cnt ρ P = P.ct ρ := rfl
@[simp] theorem s_setv {i : Nat} {e : E} : wpS Γ (.set false i e) ρ P = wpE Γ e ρ (fun d => P.nx (ρ.set i (.val d))) P.xc := rfl
@[simp] theorem s_seto {i : Nat} {e : E} : wpS Γ (.set true i e) ρ P = wpE Γ e ρ (fun d => ∃ xs, d = .list xs ∧ P.nx (ρ.set i (.own xs))) P.xc := rfl
@[simp] theorem s_asg {p : Pat} {e : E} : wpS Γ (.asg p e) ρ P = wpE Γ e ρ (fun d => opt (bindP p d ρ) P.nx) P.xc := rfl
@[simp] theorem m_v {e : E} {K : B → Prop} : wpM Γ false e ρ K X = wpE Γ e ρ (fun d => K (.val d)) X := rfl
@[simp] theorem m_o {e : E} {K : B → Prop} : wpM Γ true e ρ K X = wpE Γ e ρ (fun d => ∃ xs, d = .list xs ∧ K (.own xs)) X := rfl
@[simp] theorem s_par2 {o1 o2 : Bool} {i1 i2 : Nat} {e1 e2 : E} : wpS Γ (.par2 o1 i1 e1 o2 i2 e2) ρ P = wpM Γ o1 e1 ρ (fun b1 => wpM Γ o2 e2 ρ (fun b2 => P.nx ((ρ.set i1 b1).set i2 b2)) P.xc) P.xc := rfl
@[simp] theorem s_par3 {o1 o2 o3 : Bool} {i1 i2 i3 : Nat} {e1 e2 e3 : E} : wpS Γ (.par3 o1 i1 e1 o2 i2 e2 o3 i3 e3) ρ P = wpM Γ o1 e1 ρ (fun b1 => wpM Γ o2 e2 ρ (fun b2 => wpM Γ o3 e3 ρ (fun b3 => P.nx (((ρ.set i1 b1).set i2 b2).set i3 b3)) P.xc) P.xc) P.xc := rfl
@[simp] theorem s_aug {op : Operator} {i : Nat} {e : E} : wpS Γ (.aug op i e) ρ P = opt (valAt ρ i) fun d => wpE Γ e ρ (fun d' => opt (augSem op d d') fun r => P.nx (ρ.set i (.val r))) P.xc := rfl
@[simp] theorem s_augp {op : Operator} {i : Nat} {j e : E} : wpS Γ (.augp op i j e) ρ P = opt (ownAt ρ i) fun xs => wpE Γ j ρ (fun k => ∃ k' n d, k = .int k' ∧ ixN xs.length k' = some n ∧ xs[n]? = some d ∧ wpE Γ e ρ (fun d' => opt (augSem op d d') fun r => P.nx (ρ.set i (.own (xs.set n r)))) P.xc) P.xc := rfl
@[simp] theorem s_app {i : Nat} {e : E} : wpS Γ (.app i e) ρ P = opt (ownAt ρ i) fun xs => wpE Γ e ρ (fun d => xs.length < 16777216 ∧ P.nx (ρ.set i (.own (xs ++ [d])))) P.xc := rfl
@[simp] theorem s_ext {i : Nat} {e : E} : wpS Γ (.ext i e) ρ P = opt (ownAt ρ i) fun xs => wpE Γ e ρ (fun d => ∃ ys, d = .list ys ∧ xs.length + ys.length ≤ 16777216 ∧ P.nx (ρ.set i (.own (xs ++ ys)))) P.xc := rfl
@[simp] theorem s_put {i : Nat} {j e : E} : wpS Γ (.put i j e) ρ P = opt (ownAt ρ i) fun xs => wpE Γ e ρ (fun d => wpE Γ j ρ (fun k => ∃ k' n, k = .int k' ∧ ixN xs.length k' = some n ∧ P.nx (ρ.set i (.own (xs.set n d)))) P.xc) P.xc := rfl
@[simp] theorem s_dnew {i : Nat} : wpS Γ (.dnew i) ρ P = P.nx (ρ.set i (.dct [])) := rfl
@[simp] theorem s_popT {p : Pat} {i : Nat} : wpS Γ (.mut i (.popT p)) ρ P = opt (ownAt ρ i) fun xs => opt xs.getLast? fun d => opt (bindP p d (ρ.set i (.own xs.dropLast))) P.nx := rfl
@[simp] theorem s_popAt {i : Nat} {a : E} : wpS Γ (.mut i (.popAt a)) ρ P = opt (ownAt ρ i) fun xs => wpE Γ a ρ (fun k => ∃ k' n, k = .int k' ∧ ixN xs.length k' = some n ∧ P.nx (ρ.set i (.own (xs.eraseIdx n)))) P.xc := rfl
@[simp] theorem s_ins {i : Nat} {a e : E} : wpS Γ (.mut i (.ins a e)) ρ P = opt (ownAt ρ i) fun xs => wpE Γ a ρ (fun k => wpE Γ e ρ (fun d => ∃ n : Nat, k = .int (n : Nat) ∧ n ≤ xs.length ∧ xs.length < 16777216 ∧ P.nx (ρ.set i (.own (xs.take n ++ d :: xs.drop n)))) P.xc) P.xc := rfl
@[simp] theorem s_slcp {i : Nat} {a b e : E} : wpS Γ (.mut i (.slcp a b e)) ρ P = opt (ownAt ρ i) fun xs => wpE Γ e ρ (fun d => wpE Γ a ρ (fun ka => ∃ m : Nat, ka = .int (m : Nat) ∧ wpE Γ b ρ (fun kb => ∃ (ys : List PyData) (n : Nat), d = .list ys ∧ kb = .int (n : Nat) ∧ m ≤ n ∧ n ≤ xs.length ∧ xs.length + ys.length ≤ 16777216 ∧ P.nx (ρ.set i (.own (xs.take m ++ ys ++ xs.drop n)))) P.xc) P.xc) P.xc := rfl
@[simp] theorem s_popA {p : Pat} {i : Nat} {a : E} : wpS Γ (.mut i (.popA p a)) ρ P = opt (ownAt ρ i) fun xs => wpE Γ a ρ (fun k => ∃ k' n d, k = .int k' ∧ ixN xs.length k' = some n ∧ xs[n]? = some d ∧ opt (bindP p d (ρ.set i (.own (xs.eraseIdx n)))) P.nx) P.xc := rfl
@[simp] theorem s_put2 {i i2 : Nat} {j1 j2 e : E} : wpS Γ (.mut i (.put2 i2 j1 j2 e)) ρ P = opt (ownAt ρ i) fun xs => opt (ownAt ρ i2) fun ys => wpE Γ e ρ (fun d => ∃ d1 d2, d = .tuple [d1, d2] ∧ wpE Γ j1 ρ (fun k1 => ∃ k n, k1 = .int k ∧ ixN xs.length k = some n ∧ wpE Γ j2 (ρ.set i (.own (xs.set n d1))) (fun k2 => ∃ k' n', k2 = .int k' ∧ ixN ys.length k' = some n' ∧ P.nx ((ρ.set i (.own (xs.set n d1))).set i2 (.own (ys.set n' d2)))) P.xc) P.xc) P.xc := rfl
@[simp] theorem s_dput {i : Nat} {j e : E} : wpS Γ (.dput i j e) ρ P = opt (dctAt ρ i) fun kvs => wpE Γ e ρ (fun d => wpE Γ j ρ (fun k => ∃ k', k = .int k' ∧ kvs.length < 16777216 ∧ P.nx (ρ.set i (.dct (dPut kvs k' d)))) P.xc) P.xc := rfl
@[simp] theorem w_dsrt {i : Nat} {a : E} {Q : PyData → Prop} : wpE Γ (.dx .srt i a) ρ Q X = opt (dctAt ρ i) fun kvs => kvs.length < 64 ∧ Q (.list ((sortI (kvs.map (·.1))).map .int)) := rfl
@[simp] theorem w_kin {neg : Bool} {i : Nat} {a : E} {Q : PyData → Prop} : wpE Γ (.dx (.kin neg) i a) ρ Q X = wpE Γ a ρ (fun d => opt (ksAt ρ i) fun ds => kOk d = true ∧ Q (.bool (decide (kOf d ∈ ds.map kOf) != neg))) X := rfl
@[simp] theorem t_kin {neg : Bool} {i : Nat} {a : E} {Q : Bool → Prop} : wpT Γ (.dx (.kin neg) i a) ρ Q X = wpE Γ a ρ (fun d => opt (ksAt ρ i) fun ds => kOk d = true ∧ Q (decide (kOf d ∈ ds.map kOf) != neg)) X := rfl
@[simp] theorem w_dcon {x : Str} {kvs : List (Int × List Int)} {i : Nat} {a : E} {Q : PyData → Prop} : wpE Γ (.dx (.con x kvs) i a) ρ Q X = (Γ.dcons x = some kvs ∧ wpE Γ a ρ (fun d => match d with | .int j => opt (iAt kvs j) fun ns => Q (.tuple (ns.map .int)) | _ => False) X) := rfl
@[simp] theorem w_dpick {r i : Nat} {a : E} {Q : PyData → Prop} : wpE Γ (.dx (.pick r) i a) ρ Q X = opt (Γ.funs "_law_pick") fun sg => (rowAt ρ (some r) = true ∧ sgOk sg (some r) [] = true) ∧ opt (ownAt ρ i) fun xs => sg.sp [.list xs] (fun d => noLst d = true ∧ Q d) X := rfl
@[simp] theorem w_dlit {kvs : List (Int × List Int)} {i : Nat} {a : E} {Q : PyData → Prop} : wpE Γ (.dx (.lit kvs) i a) ρ Q X = wpE Γ a ρ (fun d => match d with | .int j => opt (iAt kvs j) fun ns => Q (.list (ns.map .int)) | _ => False) X := rfl
@[simp] theorem s_ksn {i : Nat} : wpS Γ (.mut i .ksn) ρ P = P.nx (ρ.set i (.ks [])) := rfl
@[simp] theorem s_ksn2 {i i2 : Nat} : wpS Γ (.mut i (.ksn2 i2)) ρ P = P.nx ((ρ.set i (.own [])).set i2 (.ks [])) := rfl
@[simp] theorem s_ksp {i : Nat} {e : E} : wpS Γ (.mut i (.ksp e)) ρ P = opt (ksAt ρ i) fun ds => wpE Γ e ρ (fun d => kOk d = true ∧ ds.length < 16777216 ∧ P.nx (ρ.set i (.ks (ksPut ds d)))) P.xc := rfl
@[simp] theorem w_din {neg : Bool} {i : Nat} {a : E} {Q : PyData → Prop} : wpE Γ (.dx (.isin neg) i a) ρ Q X = wpE Γ a ρ (fun d => match d with | .int j => opt (dctAt ρ i) fun kvs => Q (.bool ((dVal kvs j).isSome != neg)) | _ => False) X := rfl
@[simp] theorem t_din {neg : Bool} {i : Nat} {a : E} {Q : Bool → Prop} : wpT Γ (.dx (.isin neg) i a) ρ Q X = wpE Γ a ρ (fun d => match d with | .int j => opt (dctAt ρ i) fun kvs => Q ((dVal kvs j).isSome != neg) | _ => False) X := rfl
@[simp] theorem w_dget {i : Nat} {a : E} {Q : PyData → Prop} : wpE Γ (.dx .get i a) ρ Q X = opt (dctAt ρ i) fun kvs => wpE Γ a ρ (fun d => match d with | .int j => opt (dVal kvs j) Q | _ => False) X := rfl
@[simp] theorem s_ex {e : E} : wpS Γ (.ex e) ρ P = wpE Γ e ρ (fun _ => P.nx ρ) P.xc := rfl
@[simp] theorem s_ife {c : E} {a b : SL} : wpS Γ (.ife c a b) ρ P = wpT Γ c ρ (fun t => if t = true then wpSs Γ a ρ P else wpSs Γ b ρ P) P.xc := rfl
theorem s_for {tg : Pat} {it : It1} {b : SL} : wpS Γ (.for_ tg it b) ρ P = wpI Γ it ρ (fun items => forL (fun x ρ1 k => opt (bindP tg x ρ1) fun ρ2 => wpSs Γ b ρ2 { nx := k, ct := k, bk := P.nx, rt := P.rt, xc := P.xc }) items ρ P.nx) P.xc := rfl
@[simp] theorem ss_nil : wpSs Γ .nil ρ P = P.nx ρ := rfl
@[simp] theorem ss_cons {s : S} {r : SL} : wpSs Γ (.cons s r) ρ P = wpS Γ s ρ { nx := fun ρ' => wpSs Γ r ρ' P, ct := P.ct, bk := P.bk, rt := P.rt, xc := P.xc } := rfl
@[simp] theorem ss_frz {i : Nat} {r : SL} : wpSs Γ (.frz i r) ρ P = opt (ownAt ρ i) fun xs => wpSs Γ r (ρ.set i (.val (.list xs))) P := rfl
@[simp] theorem d_non : Cst.d .non = .none := rfl
@[simp] theorem d_bl {b : Bool} : Cst.d (.bl b) = .bool b := rfl
@[simp] theorem d_int {b : Int} : Cst.d (.int b) = .int b := rfl
@[simp] theorem d_str {b : Str} : Cst.d (.str b) = .str b := rfl
end
@[simp] theorem opt_ite {α : Type} {c : Prop} [Decidable c] {a : α} {Q : α → Prop} : opt (if c then some a else none) Q ↔ c ∧ Q a := by
  by_cases h : c <;> simp [h]
@[simp] theorem rho0_false {n : Nat} {ds : List PyData} : rho0 n false ds = ds.map B.val ++ List.replicate (n - ds.length) B.bad := by simp [rho0]
@[simp] theorem rho0_true {n : Nat} {ds : List PyData} : rho0 n true ds = B.row :: (ds.map B.val ++ List.replicate (n - (1 + ds.length)) B.bad) := by simp [rho0]
@[simp] theorem postOf_nx {Q : PyData → Prop} {X : Str → Prop} {ρ : Env1} : (postOf Q X).nx ρ = Q .none := rfl
@[simp] theorem postOf_rt {Q : PyData → Prop} {X : Str → Prop} : (postOf Q X).rt = Q := rfl
@[simp] theorem postOf_xc {Q : PyData → Prop} {X : Str → Prop} : (postOf Q X).xc = X := rfl
@[simp] theorem cmp_is_none {d : PyData} : cmpSem .Is d .none = some (isNone d) := by cases d <;> rfl
@[simp] theorem cmp_isnot_none {d : PyData} : cmpSem .IsNot d .none = some (!isNone d) := by cases d <;> rfl
@[simp] theorem cmp_is_bool {a b : Bool} : cmpSem .Is (.bool a) (.bool b) = some (decide (a = b)) := rfl
@[simp] theorem cmp_isnot_bool {a b : Bool} : cmpSem .IsNot (.bool a) (.bool b) = some (!decide (a = b)) := rfl
@[simp] theorem cmp_lt {a b : Int} : cmpSem .Lt (.int a) (.int b) = some (decide (a < b)) := rfl
@[simp] theorem cmp_le {a b : Int} : cmpSem .LtE (.int a) (.int b) = some (decide (a ≤ b)) := rfl
@[simp] theorem cmp_gt {a b : Int} : cmpSem .Gt (.int a) (.int b) = some (decide (b < a)) := rfl
@[simp] theorem cmp_ge {a b : Int} : cmpSem .GtE (.int a) (.int b) = some (decide (b ≤ a)) := rfl
theorem dep_min {d e : PyData} (h : e.depth ≤ 60) : min d.depth e.depth ≤ 60 := Nat.le_trans (Nat.min_le_right _ _) h
@[simp] theorem cmp_eq_int {d : PyData} {i : Int} : cmpSem .Eq d (.int i) = some (d.eqv (.int i)) := if_pos (dep_min (e := .int i) (Nat.zero_le _))
@[simp] theorem cmp_eq_bool {d : PyData} {i : Bool} : cmpSem .Eq d (.bool i) = some (d.eqv (.bool i)) := if_pos (dep_min (e := .bool i) (Nat.zero_le _))
@[simp] theorem cmp_eq_str {d : PyData} {i : Str} : cmpSem .Eq d (.str i) = some (d.eqv (.str i)) := if_pos (dep_min (e := .str i) (Nat.zero_le _))
@[simp] theorem cmp_eq_none {d : PyData} : cmpSem .Eq d .none = some (d.eqv .none) := if_pos (dep_min (e := .none) (Nat.zero_le _))
@[simp] theorem cmp_eq_nil {d : PyData} : cmpSem .Eq d (.list []) = some (d.eqv (.list [])) := if_pos (dep_min (e := .list []) (by decide))
@[simp] theorem cmp_eq_unit {d : PyData} : cmpSem .Eq d (.tuple []) = some (d.eqv (.tuple [])) := if_pos (dep_min (e := .tuple []) (by decide))
@[simp] theorem cmp_ne_int {d : PyData} {i : Int} : cmpSem .NotEq d (.int i) = some (!d.eqv (.int i)) := if_pos (dep_min (e := .int i) (Nat.zero_le _))
@[simp] theorem cmp_ne_bool {d : PyData} {i : Bool} : cmpSem .NotEq d (.bool i) = some (!d.eqv (.bool i)) := if_pos (dep_min (e := .bool i) (Nat.zero_le _))
@[simp] theorem cmp_ne_nil {d : PyData} : cmpSem .NotEq d (.list []) = some (!d.eqv (.list [])) := if_pos (dep_min (e := .list []) (by decide))
@[simp] theorem eqv_bool {a b : Bool} : PyData.eqv (.bool a) (.bool b) = (a == b) := by cases a <;> cases b <;> rfl
@[simp] theorem eqv_int {a b : Int} : PyData.eqv (.int a) (.int b) = (a == b) := rfl
@[simp] theorem eqv_str {a b : Str} : PyData.eqv (.str a) (.str b) = (a == b) := rfl
@[simp] theorem truth_bool {b : Bool} : truth (.bool b) = some b := rfl
@[simp] theorem truth_int {b : Int} : truth (.int b) = some (b != 0) := rfl
@[simp] theorem truth_none : truth .none = some false := rfl
@[simp] theorem truth_list {b : List PyData} : truth (.list b) = some (!b.isEmpty) := rfl
@[simp] theorem truth_tuple {b : List PyData} : truth (.tuple b) = some (!b.isEmpty) := rfl
@[simp] theorem isNone_none : isNone .none = true := rfl
@[simp] theorem isNone_int {i : Int} : isNone (.int i) = false := rfl
@[simp] theorem isNone_bool {i : Bool} : isNone (.bool i) = false := rfl
@[simp] theorem isNone_str {i : Str} : isNone (.str i) = false := rfl
@[simp] theorem isNone_tuple {i : List PyData} : isNone (.tuple i) = false := rfl
@[simp] theorem isNone_list {i : List PyData} : isNone (.list i) = false := rfl
@[simp] theorem isInst_int {i : Int} {T : String} : isInst (.int i) T = ("int" == T || ("int" == "bool" && T == "int")) := rfl
@[simp] theorem isInst_bool {i : Bool} {T : String} : isInst (.bool i) T = ("bool" == T || ("bool" == "bool" && T == "int")) := rfl
@[simp] theorem isInst_str {i : Str} {T : String} : isInst (.str i) T = ("str" == T || ("str" == "bool" && T == "int")) := rfl
@[simp] theorem isInst_none {T : String} : isInst .none T = ("NoneType" == T || ("NoneType" == "bool" && T == "int")) := rfl
@[simp] theorem isInst_tuple {i : List PyData} {T : String} : isInst (.tuple i) T = ("tuple" == T || ("tuple" == "bool" && T == "int")) := rfl
@[simp] theorem isInst_list {i : List PyData} {T : String} : isInst (.list i) T = ("list" == T || ("list" == "bool" && T == "int")) := rfl
@[simp] theorem isInst_dict {i : List (PyData × PyData)} {T : String} : isInst (.dict i) T = ("dict" == T || ("dict" == "bool" && T == "int")) := rfl
@[simp] theorem len_list {xs : List PyData} : bltSem .len [.list xs] = some (.int xs.length) := rfl
@[simp] theorem len_tuple {xs : List PyData} : bltSem .len [.tuple xs] = some (.int xs.length) := rfl
@[simp] theorem ix_tuple {xs : List PyData} {i : Int} : ixSem (.tuple xs) (.int i) = atI xs i := rfl
@[simp] theorem ix_list {xs : List PyData} {i : Int} : ixSem (.list xs) (.int i) = atI xs i := rfl
@[simp] theorem seqD_list {xs : List PyData} : seqD (.list xs) = some xs := rfl
@[simp] theorem seqD_tuple {xs : List PyData} : seqD (.tuple xs) = some xs := rfl
@[simp] theorem bind_name {i : Nat} {x : Str} {d : PyData} {ρ : Env1} : bindP (.name i x) d ρ = some (ρ.set i (.val d)) := rfl
@[simp] theorem bind_tup {ps : Pats} {ds : List PyData} {ρ : Env1} : bindP (.tup ps) (.tuple ds) ρ = bindPs ps ds ρ := rfl
@[simp] theorem bind_nil {ρ : Env1} : bindPs .nil [] ρ = some ρ := rfl
@[simp] theorem bind_cons {p : Pat} {r : Pats} {d : PyData} {ds : List PyData} {ρ : Env1} : bindPs (.cons p r) (d :: ds) ρ = (bindP p d ρ).bind fun ρ' => bindPs r ds ρ' := rfl
@[simp] theorem wipe_nil {ρ : Env1} : wipeB ρ [] = ρ := rfl
@[simp] theorem wipe_cons {ρ : Env1} {v : Nat} {vs : List Nat} : wipeB ρ (v :: vs) = (wipeB ρ vs).set v .bad := rfl
@[simp] theorem ksAt_ks {d : List PyData} {r : Env1} : ksAt (.ks d :: r) 0 = some d := rfl
@[simp] theorem ksAt_succ {b : B} {r : Env1} {i : Nat} : ksAt (b :: r) (i + 1) = ksAt r i := rfl
@[simp] theorem dctAt_dct {d : List (Int × PyData)} {r : Env1} : dctAt (.dct d :: r) 0 = some d := rfl
@[simp] theorem dctAt_succ {b : B} {r : Env1} {i : Nat} : dctAt (b :: r) (i + 1) = dctAt r i := rfl
@[simp] theorem rowAt_none {ρ : Env1} : rowAt ρ none = true := rfl
@[simp] theorem rowAt_row {r : Env1} : rowAt (.row :: r) (some 0) = true := rfl
@[simp] theorem sgOk_nil {sg : Sig} {r : Option Nat} : sgOk sg r [] = (sg.row == r.isSome) := by simp [sgOk]
@[simp] theorem atI_nat' {xs : List PyData} {i : Nat} : atI xs (i : Int) = xs[i]? := atI_nat
@[simp] theorem gamAlike_f {n : Nat} : (gamAlike (n + 1)).funs "_law_alike" = some (sgAlike n) := rfl
theorem range_mem {n : Nat} {x : PyData} (h : x ∈ rangeL 0 1 n) : ∃ i : Nat, i < n ∧ x = .int (i : Int) := by
  unfold rangeL at h
  obtain ⟨i, h1, rfl⟩ := List.mem_map.mp h
  exact ⟨i, List.mem_range.mp h1, by simp⟩
def notAlike (fs es : List PyData) (x : PyData) : Option PyData := match x with
  | .int i => (match fs[i.toNat]?, es[i.toNat]? with | some a, some b => if alike a b = true then none else some x | _, _ => none)
  | _ => none
theorem alike_wp (n : Nat) (ds : List PyData) (Q : PyData → Prop) (X : Str → Prop) (h : (sgAlike n).sp ds Q X) : wpSs (gamAlike n) b__law_alike (rho0 3 false ds) (postOf Q X) := by
  obtain ⟨f, d, rfl, hd, hq⟩ := h
  cases d with
  | tuple es =>
    cases n with
    | zero => unfold okD at hd; cases hd
    | succ n =>
      unfold okD at hd
      simp only [Bool.and_eq_true, decide_eq_true_eq] at hd
      cases f <;> try (simpa [b__law_alike, alike] using hq)
      rename_i fs
      simp [b__law_alike]
      by_cases hl : (fs.length : Int) = es.length
      · rw [if_pos hl]
        have hl : fs.length = es.length := by omega
        refine ⟨by omega, wpL_map (g := notAlike fs es) ?_ ?_⟩
        · intro x hx k hk
          obtain ⟨i, hi, rfl⟩ := range_mem hx
          obtain ⟨a, ha⟩ : ∃ a, fs[i]? = some a := ⟨_, List.getElem?_eq_getElem (by omega)⟩
          obtain ⟨b, hb⟩ : ∃ b, es[i]? = some b := ⟨_, List.getElem?_eq_getElem hi⟩
          have hbo : okD n b = true := okDs_mem hd.2 b (List.mem_of_getElem? hb)
          simp [ha, hb, notAlike] at hk ⊢
          refine ⟨rfl, a, b, rfl, hbo, ?_⟩
          by_cases h : alike a b = true
          · simpa [h] using hk
          · simpa [h] using hk
        · have key : ((rangeL 0 1 es.length).filterMap (notAlike fs es)).isEmpty = alike (.tuple fs) (.tuple es) := by
            rw [Bool.eq_iff_iff, List.isEmpty_iff, List.filterMap_eq_nil_iff]
            show _ ↔ alikes fs es = true
            rw [alikes_iff hl]
            constructor
            · intro h i a b ha hb
              have hi : i < es.length := (List.getElem?_eq_some_iff.mp hb).1
              have := h (.int (i : Int)) (by
                unfold rangeL
                exact List.mem_map.mpr ⟨i, List.mem_range.mpr hi, by simp⟩)
              simpa [ha, hb, notAlike] using this
            · intro h x hx
              obtain ⟨i, hi, rfl⟩ := range_mem hx
              obtain ⟨a, ha⟩ : ∃ a, fs[i]? = some a := ⟨_, List.getElem?_eq_getElem (by omega)⟩
              obtain ⟨b, hb⟩ : ∃ b, es[i]? = some b := ⟨_, List.getElem?_eq_getElem hi⟩
              simp [ha, hb, h i a b ha hb, notAlike]
          rw [key]; exact hq
      · rw [if_neg hl]
        have : alike (.tuple fs) (.tuple es) = false := by
          show alikes fs es = false
          cases h : alikes fs es with
          | false => rfl
          | true => exact absurd (by rw [alikes_len h]) hl
        rw [← this]; exact hq
  | none => cases f <;> simpa [b__law_alike, alike, PyData.eqv] using hq
  | bool b => cases f <;> simpa [b__law_alike, alike] using hq
  | int i => cases f <;> simpa [b__law_alike, alike] using hq
  | str s =>
    cases f <;> try (simpa [b__law_alike, alike, PyData.eqv] using hq)
    rename_i t
    by_cases h : t = s
    · simpa [b__law_alike, alike, PyData.eqv, h] using hq
    · simpa [b__law_alike, alike, PyData.eqv, h] using hq
  | list es => unfold okD at hd; cases hd
  | dict es => unfold okD at hd; cases hd
end Dl

set_option Elab.async false
set_option linter.all false
set_option maxRecDepth 100000
set_option maxHeartbeats 8000000
/-! the data layer, part 28: alike is kept; the law's loop; the end -/
namespace Dl
open PySem PySem.Spec PyProof.Rows L2
section
variable {P : Program} {w : World} {K : PySem.W.Frag} {mg : Str → Option Value} {base : Heap} {W : Wd} {Γ : Gam} {k : Nat}
/-- a def that is there under its name -/
theorem fnAt {x : Str} {f : Addr} {fd : FuncData} {sg : Sig} (F : FnOk P w K mg base (L2.CX P w) k f fd sg.ps (spV W sg)) (hm : mg x = some (.ref f)) (hk : PySem.W.keepIn K (.ref f) = true) (hb : Binds K fd sg.ps [])
    (hkw : ∀ ks ∈ sg.kws, KBinds K fd sg.ps ks (kwG ks.length) (kwG ks.length)) : FnAt P w K mg base k W x sg := ⟨f, fd, hm, hk, F, hb, hkw⟩
theorem gamAlike_at {n : Nat} {x : Str} {sg : Sig} (h : (gamAlike (n + 1)).funs x = some sg) : x = "_law_alike" ∧ sg = sgAlike n := by
  unfold gamAlike at h
  simp only at h
  split at h
  · cases h; exact ⟨by assumption, rfl⟩
  · cases h
theorem ok_alike {st : Stmt} {f : Addr} {fd : FuncData} (hK : K = W.K) (hmg : mg = W.mg) (blt : ∀ x ∈ bltNames, mg x = none) (F : Fun K "_law_alike" "_law_alike" st f fd) (S : FnScope ["found", "due", "at"] ["found", "due"] (defScope st))
    (hb : chkSs ["found", "due", "at"] (defScope st) false b__law_alike (defBody st) = true) (hm : mg "_law_alike" = some (.ref f)) (hk : PySem.W.keepIn K (.ref f) = true) (bd : Binds K fd ["found", "due"] []) : ∀ n, FnAt P w K mg base (n + 1) W "_law_alike" (sgAlike n)
  | 0 => fnAt (def_ok (Γ := gamAlike 0) (k := 0) ⟨hK, hmg, fun _ _ h => (by cases h), fun _ _ h => (by cases h), blt, fun _ _ h => (by cases h)⟩ F S hb (fun ds Q X ⟨a, b, h, _⟩ => (by rw [h]; rfl)) (alike_wp 0) (Nat.le_refl _) (fun z => (by cases z))) hm hk bd (fun ks h => (by cases h))
  | n + 1 => fnAt (def_ok (Γ := gamAlike (n + 1)) (k := n + 1) ⟨hK, hmg, fun x sg h => (by
      obtain ⟨rfl, rfl⟩ := gamAlike_at h
      exact ok_alike hK hmg blt F S hb hm hk bd n), fun _ _ h => (by cases h), blt, fun _ _ h => (by cases h)⟩ F S hb (fun ds Q X ⟨a, b, h, _⟩ => (by rw [h]; rfl)) (alike_wp (n + 1)) (Nat.le_refl _) (fun z => (by cases z))) hm hk bd (fun ks h => (by cases h))
/-! ### the law's loop -/
def sgCase : Sig where
  ps := ["row"]
  row := true
  kws := []
  sp := fun ds Q X => ds = [] ∧ Q (.bool true)
def b_law (n : Int) : SL := .cons (.for_ (.name 2 "turn") (.rng1 (.cst (.int n))) (.cons (.ife (.not (.call "_law_case" (some 1) .nil [] .nil)) (.cons (.ret (.cst (.bl false))) .nil) .nil) .nil)) (.cons (.ret (.cst (.bl true))) .nil)
/-- the script: a list of few numbers, none of them too great; the tables are empty -/
def spLaw (K : PySem.W.Frag) (T : List (Addr × Str)) : Sp := fun vs H Q _ => ∃ (a : Addr) (ns : List Int), vs = [.ref a] ∧ ns.length ≤ 63 ∧ (∀ z ∈ ns, Builtin.Int.intBits z ≤ 1048576) ∧ SqL K H a (ns.map V.int) ∧ LamX.Tabs T H ∧ ∀ H', Q (.bl true) H'
def gamLaw : Gam := { funs := fun x => if x = "_law_case" then some sgCase else none, cons := fun _ => none }
theorem gamLaw_at {x : Str} {sg : Sig} (h : gamLaw.funs x = some sg) : x = "_law_case" ∧ sg = sgCase := by
  unfold gamLaw at h
  simp only at h
  split at h
  · cases h; exact ⟨by assumption, rfl⟩
  · cases h
theorem PSs.ofW {X : Cx} {b : List Stmt} {Z : Type} {t : Z → TS} {G : Z → Prop} (h : ∀ z, G z → PSs X b (t z)) : PSs X b (fun D σ H => ∃ z, G z ∧ t z D σ H) := ⟨fun pins s σ H D I ⟨z, g, q⟩ => (h z g).run pins s σ H D I q⟩
theorem forL_all {f : PyData → Env1 → (Env1 → Prop) → Prop} {I : Env1 → Prop} : ∀ {xs : List PyData} {ρ : Env1} {Q : Env1 → Prop}, I ρ → (∀ x ∈ xs, ∀ ρ k, I ρ → (∀ ρ', I ρ' → k ρ') → f x ρ k) → (∀ ρ, I ρ → Q ρ) → forL f xs ρ Q
  | [], ρ, Q, i, _, q => q ρ i
  | x :: xs, ρ, Q, i, h, q => h x List.mem_cons_self ρ _ i fun ρ' i' => forL_all i' (fun y hy => h y (List.mem_cons_of_mem _ hy)) q
theorem law_wp (n : Int) (h0 : 0 ≤ n) (h1 : n ≤ 100) (Q : PyData → Prop) (h : Q (.bool true)) : wpSs gamLaw (b_law n) [.bad, .row, .bad] (postOf Q fun _ => False) := by
  show wpS _ _ _ _
  rw [s_for]
  simp
  refine ⟨by omega, by omega, forL_all (I := fun ρ => ∃ b, ρ = [.bad, .row, b]) ⟨_, rfl⟩ ?_ ?_⟩
  · rintro x hx ρ k ⟨b, rfl⟩ hk
    simp
    refine ⟨sgCase, rfl, ⟨rfl, rfl⟩, rfl, ?_⟩
    simp
    exact hk _ ⟨_, rfl⟩
  · rintro ρ ⟨b, rfl⟩
    simpa using h
theorem ok_law {st : Stmt} {f : Addr} {fd : FuncData} {T : List (Addr × Str)} {m : Nat} {n c : Int} {b : List Stmt} {p1 p2 p3 p4 p5 p6 p7 : Pos} (h0 : 0 ≤ n) (h1 : n ≤ 100) (blt : ∀ x ∈ bltNames, mg x = none) (F : Fun K "law" "law" st f fd) (S : FnScope ["script", "row", "turn"] ["script"] (defScope st))
    (lr : (defScope st).names.lookup ("row" : Str) = some .local) (hd : defBody st = .Assign [.Name "row" p1] (.List [.Name "script" p2, .Constant (.int 0) 0 p3, .Constant (.int c) 0 p4, .Constant (.int 0) 0 p5] p6) p7 :: b) (hb : chkSs ["script", "row", "turn"] (defScope st) false (b_law n) b = true)
    (hc0 : 0 ≤ c) (hc1 : c < 2147483647) (hcase : ∀ W : Wd, W.K = K → W.mg = mg → W.T = T → FnAt P w K mg base k W "_law_case" sgCase) (hm : k ≤ m) : FnOk P w K mg base (L2.CX P w) (m + 1) f fd ["script"] (spLaw K T) := by
  refine F.okX S (fun vs H Q E h => by obtain ⟨a, ns, rfl, _⟩ := h; rfl) fun cdv A outer s H vs Q E hr h => ?_
  rw [hd]
  have vs0 : Vis (defScope st) "script" := (S.par _ List.mem_cons_self).elim .inl fun z => .inr (.inl z)
  have hrest : ∀ W : Wd, (W.K = K ∧ W.mg = mg ∧ W.T = T) → PSs (cxOf (L2.CX P w) P w K mg base ["script", "row", "turn"] "law" (defScope st) f cdv A outer s H E) b (tBs W gamLaw E (b_law n)) := fun W hW => by
    have G : Glb P w K mg base W gamLaw k := ⟨hW.1.symm, hW.2.1.symm, fun x sg h => (by
      obtain ⟨rfl, rfl⟩ := gamLaw_at h
      exact hcase W hW.1 hW.2.1 hW.2.2), fun _ _ h => (by cases h), blt, fun _ _ h => (by cases h)⟩
    exact sndSs _ (ctx_of G S hm hr) b hb
  refine ⟨_, pss_cons (ps_set (i := 1) S.nd rfl (.inl lr) (pe_lst (pa_cons (pe_var (i := 0) rfl vs0 (by decide) (by decide)) (pa_cons pe_int (pa_cons pe_int (pa_cons pe_int pa_nil)))))) (PSs.ofW (Z := Wd) (G := fun W => W.K = K ∧ W.mg = mg ∧ W.T = T) hrest), ?_⟩
  obtain ⟨a, ns, rfl, hl, hbits, hs, ht, hq⟩ := h
  refine ⟨_, rfl, by show 4 ≤ sizeLine; decide, fun p hp => ?_⟩
  have hsS : SqS K (upd H p (.lst [.ref a, .int 0, .int c, .int 0])) a p (ns.map V.int) := by
    rcases hs with hs | hs
    · have ne : a ≠ p := fun z => by
        subst z
        rcases hs with z | ⟨o, z⟩ <;> (rw [hp] at z; cases z)
      refine .inl ⟨?_, ne⟩
      rcases hs with z | ⟨o, z⟩
      · exact .inl (by rw [upd_ne ne]; exact z)
      · exact .inr ⟨o, by rw [upd_ne ne]; exact z⟩
    · exact .inr hs
  have gd : Good ⟨K, mg, p, a, T⟩ (upd H p (.lst [.ref a, .int 0, .int c, .int 0])) :=
    ⟨⟨⟨0, c, 0, upd_same, by decide, hc0, hc1, by decide, by decide⟩, ns, hsS, hl, hbits⟩, ht.ext (same_new hp)⟩
  have f0 : FOk ⟨K, mg, p, a, T⟩ (fun _ => none) (upd H p (.lst [.ref a, .int 0, .int c, .int 0])) := ⟨fun _ _ z => (by cases z), fun _ _ z => (by cases z), rfl⟩
  refine ⟨⟨K, mg, p, a, T⟩, ⟨rfl, rfl, rfl⟩, fun _ => none, _, fun _ => none, fun _ => none, [.bad, .row, .bad], postOf (fun d => d = .bool true) (fun _ => False), ⟨⟨f0, gd, rfl, fun i b v q1 q2 => ?_, fun i j a xs ys q1 _ lv _ _ _ => ?_⟩, gd, .refl _, .refl f0 gd, fun i xs a q1 lv _ => ?_⟩, law_wp n h0 h1 _ rfl, ?_⟩
  · match i with
    | 0 => cases q1; trivial
    | 1 => cases q1; cases q2; rfl
    | 2 => cases q1; trivial
    | i + 3 => cases q1
  · match i with
    | 0 => cases q1; cases lv
    | 1 => cases q1; cases lv
    | 2 => cases q1; cases lv
    | i + 3 => cases q1
  · match i with
    | 0 => cases q1; cases lv
    | 1 => cases q1; cases lv
    | 2 => cases q1; cases lv
    | i + 3 => cases q1
  · exact ⟨fun _ _ _ _ _ q => (by cases q), fun F' d v H' e r q => by subst q; cases r; exact hq H', fun _ _ _ _ _ z => z.elim, fun _ _ _ _ _ z => z.elim, fun _ _ _ _ _ _ _ z => z.elim⟩
end
end Dl

set_option Elab.async false
set_option linter.all false
set_option maxRecDepth 100000
set_option maxHeartbeats 8000000
/-! the data layer, part 29: what a law's own text uses to put its defs together -/
namespace Dl
open PySem PySem.Spec PyProof.Rows L2
def gm (l : List (Str × Sig)) (c : List (Str × PyData)) : Gam := ⟨fun x => l.lookup x, fun x => c.lookup x, fun _ => none⟩
/-- .. with dicts of the module -/
def gmD (l : List (Str × Sig)) (c : List (Str × PyData)) (dc : List (Str × List (Int × List Int))) : Gam := ⟨fun x => l.lookup x, fun x => c.lookup x, fun x => dc.lookup x⟩
section
variable (P : Program) (w : World) (K : PySem.W.Frag) (mg : Str → Option Value) (base : Heap) (W : Wd)
def AllFn (k : Nat) : List (Str × Sig) → Prop
  | [] => True
  | p :: r => FnAt P w K mg base k W p.1 p.2 ∧ AllFn k r
def ConAt (mg : Str → Option Value) (W : Wd) (x : Str) (d : PyData) : Prop := ∃ u v, mg x = some u ∧ RelV v u ∧ ∀ F, Dat W.K F v d
def AllCon (mg : Str → Option Value) (W : Wd) : List (Str × PyData) → Prop
  | [] => True
  | p :: r => ConAt mg W p.1 p.2 ∧ AllCon mg W r
structure Bas : Prop where
  hK : K = W.K
  hmg : mg = W.mg
  blt : ∀ x ∈ bltNames, mg x = none
end
section
variable {P : Program} {w : World} {K : PySem.W.Frag} {mg : Str → Option Value} {base : Heap} {W : Wd} {k : Nat}
theorem con_int {x : Str} {n : Int} {t : Tok} (h : mg x = some (.int n t)) : ConAt mg W x (.int n) := ⟨_, .int n, h, ⟨t, rfl⟩, fun _ => .int n⟩
theorem AllFn.at : ∀ {l : List (Str × Sig)}, AllFn P w K mg base W k l → ∀ f sg, l.lookup f = some sg → FnAt P w K mg base k W f sg
  | [], _, _, _, h => by cases h
  | (x, s) :: r, h, f, sg, e => by
    cases hx : f == x with
    | true =>
      simp only [List.lookup_cons, hx] at e
      cases e
      rw [eq_of_beq hx]
      exact h.1
    | false =>
      simp only [List.lookup_cons, hx] at e
      exact AllFn.at h.2 f sg e
theorem AllCon.at : ∀ {l : List (Str × PyData)}, AllCon mg W l → ∀ f d, l.lookup f = some d → ConAt mg W f d
  | [], _, _, _, h => by cases h
  | (x, s) :: r, h, f, sg, e => by
    cases hx : f == x with
    | true =>
      simp only [List.lookup_cons, hx] at e
      cases e
      rw [eq_of_beq hx]
      exact h.1
    | false =>
      simp only [List.lookup_cons, hx] at e
      exact AllCon.at h.2 f sg e
theorem Bas.glb (B : Bas K mg W) {l : List (Str × Sig)} {c : List (Str × PyData)} (h : AllFn P w K mg base W k l) (hc : AllCon mg W c) : Glb P w K mg base W (gm l c) k := ⟨B.hK, B.hmg, h.at, hc.at, B.blt, fun _ _ z => (by cases z)⟩
theorem tup_K {K : PySem.W.Frag} {a : Addr} {dd : Option Addr} {n : Nat} {sl : Array (Option Value)} {its : Array Value} {ns : List Int} (l : K.lookup a = some ⟨.type "tuple", dd, .seq its n, sl⟩) (hz : its.size ≤ 1000) (hv : Vals (ns.map V.int) its.toList) (F : Hp) : Dat K F (.ref a) (.tuple (ns.map .int)) := by
  have hl : (ns.map V.int).length = its.size := by rw [hv.length]; simp
  rw [List.length_map] at hl
  exact .tup (.inr ⟨_, its, n, l, rfl, rfl, by rw [sizeLine_eq]; omega, hv⟩) (Dats.ofInts _) (by rw [List.length_map]; omega)
/-- what a dict's entries are -/
def DEnt (K : PySem.W.Frag) : List DictEntry → List (Int × List Int) → Prop
  | [], [] => True
  | e :: es, kv :: r => ((∃ t, e.key = .int kv.1 t) ∧ e.hash = hashInt kv.1 ∧ ∃ p, e.val = .ref p ∧ ∀ F, Dat K F (.ref p) (.tuple (kv.2.map .int))) ∧ DEnt K es r
  | _, _ => False
theorem dEnt_all {K : PySem.W.Frag} : ∀ {es : List DictEntry} {kvs : List (Int × List Int)}, DEnt K es kvs → ∀ e ∈ es, ∃ j : Int, Value.isInt j e.key = true ∧ e.hash = hashInt j
  | [], _, _, e, he => by cases he
  | _ :: _, [], h, _, _ => h.elim
  | x :: es, kv :: r, h, e, he => by
    obtain ⟨⟨⟨t, h1⟩, h2, _⟩, h3⟩ := h
    rcases List.mem_cons.mp he with rfl | he
    · exact ⟨kv.1, by rw [h1]; simp [Value.isInt], h2⟩
    · exact dEnt_all h3 e he
theorem dEnt_find {K : PySem.W.Frag} {j : Int} {ns : List Int} : ∀ {es : List DictEntry} {kvs : List (Int × List Int)}, DEnt K es kvs → iAt kvs j = some ns → ∃ p, (es.find? fun e => Value.isInt j e.key).map (·.val) = some (.ref p) ∧ ∀ F, Dat K F (.ref p) (.tuple (ns.map .int))
  | [], [], _, h => by cases h
  | [], _ :: _, h, _ => h.elim
  | _ :: _, [], h, _ => h.elim
  | x :: es, kv :: r, h, hj => by
    obtain ⟨⟨⟨t, h1⟩, h2, p, h4, h5⟩, h3⟩ := h
    unfold iAt at hj
    rw [List.find?_cons] at hj ⊢
    rw [h1]
    by_cases hk : kv.1 = j
    · have e1 : Value.isInt j (.int kv.1 t) = true := by simp [Value.isInt, hk]
      rw [e1]
      simp only [decide_eq_true hk, Option.map_some, Option.some.injEq] at hj
      subst hj
      exact ⟨p, by simp [h4], h5⟩
    · have e1 : Value.isInt j (.int kv.1 t) = false := by simp [Value.isInt]; first | exact hk | exact fun z => hk z.symm
      rw [e1]
      simp only [decide_eq_false hk] at hj
      exact dEnt_find h3 hj
theorem dcon_of {K : PySem.W.Frag} {mg : Str → Option Value} {x : Str} {a : Addr} {es : Array DictEntry} {n : Nat} {kvs : List (Int × List Int)} (h : mg x = some (.ref a)) (l : K.lookup a = some ⟨.type "dict", none, .dict es n, #[]⟩) (d : DEnt K es.toList kvs) : DConAt K mg x kvs := by
  refine ⟨a, es, n, h, l, fun e he => dEnt_all d e (by simpa using he), fun j ns hj => ?_⟩
  obtain ⟨p, h1, h2⟩ := dEnt_find d hj
  refine ⟨p, ?_, h2⟩
  unfold findBy
  rw [← Array.find?_toList]
  exact h1
def AllDC (K : PySem.W.Frag) (mg : Str → Option Value) : List (Str × List (Int × List Int)) → Prop
  | [] => True
  | p :: r => DConAt K mg p.1 p.2 ∧ AllDC K mg r
theorem AllDC.at : ∀ {l : List (Str × List (Int × List Int))}, AllDC K mg l → ∀ f d, l.lookup f = some d → DConAt K mg f d
  | [], _, _, _, h => by cases h
  | (x, s) :: r, h, f, sg, e => by
    cases hx : f == x with
    | true =>
      simp only [List.lookup_cons, hx] at e
      cases e
      rw [eq_of_beq hx]
      exact h.1
    | false =>
      simp only [List.lookup_cons, hx] at e
      exact AllDC.at h.2 f sg e
theorem Bas.glbD (B : Bas K mg W) {l : List (Str × Sig)} {c : List (Str × PyData)} {dc : List (Str × List (Int × List Int))} (h : AllFn P w K mg base W k l) (hc : AllCon mg W c) (hd : AllDC K mg dc) : Glb P w K mg base W (gmD l c dc) k := ⟨B.hK, B.hmg, h.at, hc.at, B.blt, hd.at⟩
/-- a def with lambdas: its code object is known -/
theorem def_okL {x qual : Str} {st : Stmt} {f c : Addr} {N : List Str} {sg : Sig} {b : SL} {m : Nat} {Γ : Gam} {oc kV doc pm ct : Value} {od an : Option Addr} {osl : Array (Option Value)} (G : Glb P w K mg base W Γ k)
    (lk : K.lookup f = some ⟨oc, od, .func (PySem.W.fnOf x qual (defArgs st) (defBody st) (defScope st) .none kV doc pm an (.ref c) ct), osl⟩) (hcd : PySem.W.codeIn K (.ref c) qual = true) (S : FnScope N sg.ps (defScope st)) (hb : chkSs N (defScope st) true b (defBody st) = true)
    (hlen : ∀ ds Q X, sg.sp ds Q X → (if sg.row then 1 else 0) + ds.length = sg.ps.length) (hsp : ∀ ds Q X, sg.sp ds Q X → wpSs Γ b (rho0 N.length sg.row ds) (postOf Q X))
    (hm : k + 2 ≤ m) (hl : ∀ (A : Around) (outer : List Env) (s : Shared) (H : Hp) (E : XK), LamAt W (cxOf (L2.CX P w) P w K mg base N qual (defScope st) f (.ref c) A outer s H E)) :
    FnOk P w K mg base (L2.CX P w) (m + 1) f (PySem.W.fnOf x qual (defArgs st) (defBody st) (defScope st) .none kV doc pm an (.ref c) ct) sg.ps (spV W sg) := by
  refine fn_of lk hcd S (fun vs H Q E h => ?_) fun A outer s H vs Q E hr h => ⟨tBs W Γ E b, ?_, ?_⟩
  · obtain ⟨F0, ds, ws, Qd, Xd, f1, g1, rfl, d1, h1, _⟩ := h
    rw [← hlen ds Qd Xd h1, List.length_append, d1.length]
    cases sg.row <;> rfl
  · have C : CtxS W Γ k E N (defScope st) true (cxOf (L2.CX P w) P w K mg base N qual (defScope st) f (.ref c) A outer s H E) := by
      refine ⟨⟨G.hK, G.hmg, rfl, S.nd, rfl, rfl, hr.mono (by omega), fun z => hr.mono hm, passes_call (W := fun cls d _ H => E cls d H) (takes_of rfl rfl rfl rfl) (fun _ _ _ _ h => h), G.funs, G.cons, G.blt, fun z => hl A outer s H E, G.dcons⟩, fun _ => rfl, S.kind, passes_of rfl⟩
    exact sndSs b C _ hb
  · obtain ⟨F0, ds, ws, Qd, Xd, f1, g1, rfl, d1, h1, h2, h3⟩ := h
    exact ⟨F0, H, F0, F0, _, _, ⟨St.start f1 g1 d1, g1, .refl _, .refl f1 g1, fun i b a q1 lv q2 => (rho0_no lv q1).elim⟩, hsp ds Qd Xd h1, ⟨fun F' ρ σ H' s' q => h2 .none .non F' H' s'.ex .non q, fun F' d v H' e r q => h2 d v F' H' e r q, fun _ _ _ _ _ z => z.elim, fun _ _ _ _ _ z => z.elim, fun n cls dd F' H' e i q => h3 n cls dd F' H' e i q⟩⟩
end
theorem len0 {α : Type} {l : List α} (h : l.length = 0) : l = [] := List.length_eq_zero_iff.mp h
theorem len1 {α : Type} {l : List α} (h : l.length = 1) : ∃ a, l = [a] := by
  match l, h with
  | [a], _ => exact ⟨a, rfl⟩
theorem len2 {α : Type} {l : List α} (h : l.length = 2) : ∃ a b, l = [a, b] := by
  match l, h with
  | [a, b], _ => exact ⟨a, b, rfl⟩
theorem len3 {α : Type} {l : List α} (h : l.length = 3) : ∃ a b c, l = [a, b, c] := by
  match l, h with
  | [a, b, c], _ => exact ⟨a, b, c, rfl⟩
theorem len4 {α : Type} {l : List α} (h : l.length = 4) : ∃ a b c d, l = [a, b, c, d] := by
  match l, h with
  | [a, b, c, d], _ => exact ⟨a, b, c, d, rfl⟩
theorem kb_of {K : PySem.W.Frag} {fd : FuncData} {ps ks : List Str} {n m : Nat} (hp : ps.length = m + n) (hn : 0 < m + n) (h : ∀ (us ws : List Value), us.length = m → ws.length = n → bindArgs fd ⟨us, ks.zip ws⟩ = pure (ps.zip (us ++ ws))) : KBinds K fd ps ks (kwG n) (kwG n) := by
  refine ⟨fun s us ws _ hl => ?_, fun {vs us zs ws} r r' => ?_⟩
  · unfold kwG at hl ⊢
    by_cases hw : ws.length = n
    · rw [if_pos hw] at hl ⊢
      exact .of_eq (h us ws (by rw [List.length_append] at hl; omega) hw)
    · rw [if_neg hw] at hl
      simp at hl; omega
  · unfold kwG
    have e : zs.length = ws.length := r'.length
    by_cases hw : zs.length = n
    · rw [if_pos hw, if_pos (by omega)]; exact r.append r'
    · rw [if_neg hw, if_neg (by omega)]; exact .nil
theorem no_exc {P : Program} {w : World} {H : Hp} {s : Shared} {e : Value} {s' : Shared} (h : L2.CX P w [] H s (fun _ _ _ => False) e s') : False := by
  obtain ⟨_, _, _, _, _, _, _, _, _, _, _, _, z⟩ := h
  exact z.elim
/-- an error of the class at S is what its except clause takes -/
theorem exm_own {K : PySem.W.Frag} {S : Addr} (h1 : PySem.W.subIn K (.ref S) (.type "BaseException") = some true) (h2 : PySem.W.isClsIn K S = true) (h3 : PySem.W.typeIn K (.ref S) = some (.type "type")) (h4 : PySem.W.subIn K (.ref S) (.ref S) = some true) :
    PySem.W.exmOne K (.ref S) (.ref S) = some true := by
  have h2' : (PySem.W.clsIn K S).isSome = true := h2
  unfold PySem.W.exmOne
  simp [h1, h2', h3]
  show PySem.W.kitCls K (.ref S) (.ref S) = some true
  unfold PySem.W.kitCls
  simp [h1, h2', h3, h4]
end Dl

set_option Elab.async false
set_option linter.all false
set_option maxRecDepth 100000
set_option maxHeartbeats 8000000
/-! the data layer, part 30: plain facts that laws share -/
namespace Dl
open PySem PySem.Spec PyProof.Rows L2
@[simp] theorem rw_taken : sgTaken.row = true := rfl
@[simp] theorem rw_pick : sgPick.row = true := rfl
@[simp] theorem rw_demand : sgDemand.row = false := rfl
@[simp] theorem rw_alike {n : Nat} : (sgAlike n).row = false := rfl
@[simp] theorem rw_case : sgCase.row = true := rfl
theorem wpL_mapS {f : PyData → (Option PyData → Prop) → Prop} {h : PyData → PyData} {xs : List PyData} {Q : List PyData → Prop} (hf : ∀ x ∈ xs, ∀ k, k (some (h x)) → f x k) (q : Q (xs.map h)) : wpL f xs Q := by
  refine wpL_map (g := fun x => some (h x)) hf ?_
  rw [List.filterMap_eq_map']
  exact q
/-- over ints, to bools, ints, .. -/
theorem wpL_of {α : Type} {f : PyData → (Option PyData → Prop) → Prop} {c : α → PyData} {g : α → Option PyData} {ns : List α} {Q : List PyData → Prop} (hf : ∀ n ∈ ns, ∀ k, k (g n) → f (c n) k) (q : Q (ns.filterMap g)) : wpL f (ns.map c) Q := by
  induction ns generalizing Q with
  | nil => exact q
  | cons n r ih =>
    refine hf n List.mem_cons_self _ (ih (fun m hm => hf m (List.mem_cons_of_mem _ hm)) ?_)
    rw [List.filterMap_cons] at q
    cases hg : g n with
    | none => rw [hg] at q; exact q
    | some y => rw [hg] at q; exact q
theorem wpL_ofS {α : Type} {f : PyData → (Option PyData → Prop) → Prop} {c : α → PyData} {h : α → PyData} {ns : List α} {Q : List PyData → Prop} (hf : ∀ n ∈ ns, ∀ k, k (some (h n)) → f (c n) k) (q : Q (ns.map h)) : wpL f (ns.map c) Q := by
  refine wpL_of (g := fun x => some (h x)) hf ?_
  rw [List.filterMap_eq_map']
  exact q
theorem rangeL_eq {lo : Int} {n : Nat} : rangeL lo 1 n = (List.range n).map fun (i : Nat) => PyData.int (lo + i) := by unfold rangeL; simp
theorem rangeL0 {n : Nat} : rangeL 0 1 n = (List.range n).map fun (i : Nat) => PyData.int (i : Int) := by unfold rangeL; simp
@[simp] theorem ints_map {ns : List Int} : intsOf (ns.map .int) = some ns := intsOf_map ns
@[simp] theorem bools_map {ns : List Bool} : boolsOf (ns.map .bool) = some ns := boolsOf_map ns
@[simp] theorem all_bools {bs : List Bool} : bltSem .all [.list (bs.map .bool)] = some (.bool (bs.all id)) := by simp [bltSem]
theorem all_map {α : Type} {p : α → Bool} {xs : List α} : bltSem .all [.list (xs.map fun x => .bool (p x))] = some (.bool (xs.all p)) := by
  have : (xs.map fun x => PyData.bool (p x)) = (xs.map p).map .bool := by simp
  rw [this, all_bools]; simp
theorem any_map {α : Type} {p : α → Bool} {xs : List α} : bltSem .any [.list (xs.map fun x => .bool (p x))] = some (.bool (xs.any p)) := by
  have : (xs.map fun x => PyData.bool (p x)) = (xs.map p).map .bool := by simp
  rw [this]
  show (boolsOf (List.map PyData.bool (List.map p xs))).map _ = _
  rw [boolsOf_map]; simp
@[simp] theorem sum_list {ns : List Int} : bltSem .sum [.list (ns.map .int)] = some (.int ns.sum) := by simp [bltSem]
@[simp] theorem sum_tuple {ns : List Int} : bltSem .sum [.tuple (ns.map .int)] = some (.int ns.sum) := by simp [bltSem]
theorem sum_map {α : Type} {p : α → Int} {xs : List α} : bltSem .sum [.list (xs.map fun x => .int (p x))] = some (.int (xs.map p).sum) := by
  have : (xs.map fun x => PyData.int (p x)) = (xs.map p).map .int := by simp
  rw [this, sum_list]
@[simp] theorem min_list {n : Int} {r : List Int} : bltSem .min [.list (.int n :: r.map .int)] = some (.int (minI n r)) := by
  have e : intsOf (PyData.int n :: r.map .int) = some (n :: r) := intsOf_map (n :: r)
  simp only [bltSem, bestSem, seqD, Option.bind_some, e]
@[simp] theorem max_list {n : Int} {r : List Int} : bltSem .max [.list (.int n :: r.map .int)] = some (.int (maxI n r)) := by
  have e : intsOf (PyData.int n :: r.map .int) = some (n :: r) := intsOf_map (n :: r)
  simp only [bltSem, bestSem, seqD, Option.bind_some, e]
@[simp] theorem min2 {a b : Int} : bltSem .min [.int a, .int b] = some (.int (min a b)) := by
  show some (PyData.int (if b < a then b else a)) = _
  congr 2
  by_cases h : b < a
  · rw [if_pos h]; omega
  · rw [if_neg h]; omega
@[simp] theorem max2 {a b : Int} : bltSem .max [.int a, .int b] = some (.int (max a b)) := by
  show some (PyData.int (if b > a then b else a)) = _
  congr 2
  by_cases h : b > a
  · rw [if_pos h]; omega
  · rw [if_neg h]; omega
@[simp] theorem tup_list {ns : List PyData} : bltSem .tuple [.list ns] = some (.tuple ns) := rfl
@[simp] theorem ite_bool {a : Prop} [Decidable a] {b : Bool} {Q : PyData → Prop} : (if a then Q (.bool b) else Q (.bool false)) ↔ Q (.bool (decide a && b)) := by
  by_cases h : a <;> simp [h]
@[simp] theorem bin_add {a b : Int} : binSem .Add (.int a) (.int b) = some (.int (a + b)) := rfl
@[simp] theorem bin_sub {a b : Int} : binSem .Sub (.int a) (.int b) = some (.int (a - b)) := rfl
theorem bin_mul {a b : Int} (h : mulOk a b) : binSem .Mult (.int a) (.int b) = some (.int (a * b)) := by unfold binSem; simp [h]
theorem bin_div {a b : Int} (h : divOk b) : binSem .FloorDiv (.int a) (.int b) = some (.int (a / b)) := by unfold binSem; simp [h]
@[simp] theorem bin_cat {a b : List PyData} : binSem .Add (.list a) (.list b) = if a.length + b.length ≤ 16777216 then some (.list (a ++ b)) else none := rfl
@[simp] theorem bin_catT {a b : List PyData} : binSem .Add (.tuple a) (.tuple b) = if a.length + b.length ≤ 16777216 then some (.tuple (a ++ b)) else none := rfl
theorem bin_mod {a b : Int} (h : 0 < b) : binSem .Mod (.int a) (.int b) = some (.int (a % b)) := by unfold binSem; simp [h]
theorem at_ints {ns : List Int} {i : Nat} (h : i < ns.length) : atI (ns.map PyData.int) (i : Int) = some (.int (ns.getD i 0)) := by
  rw [atI_nat, List.getElem?_map, List.getElem?_eq_getElem h]
  simp [List.getD, h]
theorem at_map {α : Type} {c : α → PyData} {ns : List α} {i : Nat} {a : α} (h : ns[i]? = some a) : atI (ns.map c) (i : Int) = some (c a) := by
  rw [atI_nat, List.getElem?_map, h]; rfl
theorem demand_b {b : Bool} {n : Str} {Q : PyData → Prop} {X : Str → Prop} (h : b = true → Q .none) (h' : b = false → X n) : sgDemand.sp [.bool b, .str n] Q X := ⟨_, _, b, rfl, rfl, h, h'⟩
theorem flat_ints {fs : List Int} : (fs.map PyData.int).all flatD = true := by simp [flatD]
theorem any_ints {fs : List Int} {i : Int} : ((fs.map PyData.int).any fun z => PyData.eqv z (.int i)) = decide (i ∈ fs) := by
  rw [Bool.eq_iff_iff]
  simp only [List.any_map, List.any_eq_true, decide_eq_true_eq]
  constructor
  · rintro ⟨x, hx, e⟩
    have : x = i := by simpa using e
    exact this ▸ hx
  · intro h
    exact ⟨i, h, by simp⟩
theorem inSem_tuple {d : PyData} {es : List PyData} (h : d.depth ≤ 60) : inSem d (.tuple es) = some (es.any fun z => PyData.eqv z d) := if_pos (Nat.le_trans (Nat.min_le_right _ _) h)
theorem inSem_list {d : PyData} {es : List PyData} (h : d.depth ≤ 60) : inSem d (.list es) = some (es.any fun z => PyData.eqv z d) := if_pos (Nat.le_trans (Nat.min_le_right _ _) h)
theorem in_tuple {d : PyData} {es : List PyData} (h : d.depth ≤ 60) : cmpSem .In d (.tuple es) = some (es.any fun z => PyData.eqv z d) := inSem_tuple h
theorem in_list {d : PyData} {es : List PyData} (h : d.depth ≤ 60) : cmpSem .In d (.list es) = some (es.any fun z => PyData.eqv z d) := inSem_list h
theorem notin_tuple {d : PyData} {es : List PyData} (h : d.depth ≤ 60) : cmpSem .NotIn d (.tuple es) = some (!es.any fun z => PyData.eqv z d) := by
  show (inSem d (.tuple es)).map (!·) = _
  rw [inSem_tuple h]; rfl
theorem notin_list {d : PyData} {es : List PyData} (h : d.depth ≤ 60) : cmpSem .NotIn d (.list es) = some (!es.any fun z => PyData.eqv z d) := by
  show (inSem d (.list es)).map (!·) = _
  rw [inSem_list h]; rfl
theorem in_ints {fs : List Int} {i : Int} : cmpSem .In (.int i) (.tuple (fs.map .int)) = some (decide (i ∈ fs)) := by
  rw [in_tuple (Nat.zero_le _), any_ints]
theorem notin_ints {fs : List Int} {i : Int} : cmpSem .NotIn (.int i) (.tuple (fs.map .int)) = some (!decide (i ∈ fs)) := by
  rw [notin_tuple (Nat.zero_le _), any_ints]
theorem filterMap_if {α β : Type} {p : α → Prop} [DecidablePred p] {h : α → β} {xs : List α} : (xs.filterMap fun x => if p x then some (h x) else none) = (xs.filter fun x => decide (p x)).map h := by
  induction xs with
  | nil => rfl
  | cons x r ih =>
    rw [List.filterMap_cons, List.filter_cons, ih]
    by_cases hx : p x <;> simp [hx]
theorem enum_ints {ns : List Int} {d : Int} : enumL (ns.map .int) = (List.range ns.length).map fun (i : Nat) => PyData.tuple [.int (i : Int), .int (ns.getD i d)] := by
  apply List.ext_getElem?
  intro i
  by_cases h : i < ns.length
  · rw [enumL_get (d := .int ns[i]) (by rw [List.getElem?_map, List.getElem?_eq_getElem h]; rfl), List.getElem?_map, List.getElem?_range h]
    simp [List.getD, h]
  · rw [List.getElem?_eq_none (by rw [enumL_len, List.length_map]; omega), List.getElem?_eq_none (by simp; omega)]
theorem div_ok {b : Int} (h : 0 < b) (h2 : b < 1000000000000) : divOk b := ⟨h, Big.of64 (by omega)⟩
theorem mul_ok {a b : Int} (h : -1000000000000 < a ∧ a < 1000000000000) (h2 : -1000000000000 < b ∧ b < 1000000000000) : mulOk a b := ⟨Big.of64 (by omega), Big.of64 (by omega)⟩
theorem minI_eq {n : Int} {r : List Int} : minI n r = r.foldl min n := by
  unfold minI
  congr 1
  funext a b
  by_cases h : b < a
  · rw [if_pos h]; omega
  · rw [if_neg h]; omega
theorem maxI_eq {n : Int} {r : List Int} : maxI n r = r.foldl max n := by
  unfold maxI
  congr 1
  funext a b
  by_cases h : a < b
  · rw [if_pos h]; omega
  · rw [if_neg h]; omega
theorem foldl_min_le {n : Int} {r : List Int} : r.foldl min n ≤ n ∧ (∀ x ∈ r, r.foldl min n ≤ x) ∧ (r.foldl min n = n ∨ r.foldl min n ∈ r) := by
  induction r generalizing n with
  | nil => simp
  | cons a r ih =>
    obtain ⟨h1, h2, h3⟩ := ih (n := min n a)
    simp only [List.foldl_cons]
    refine ⟨by omega, fun x hx => ?_, ?_⟩
    · rcases List.mem_cons.mp hx with rfl | hx
      · omega
      · exact h2 x hx
    · rcases h3 with h3 | h3
      · rw [h3]
        by_cases h : n ≤ a
        · left; omega
        · right; rw [show min n a = a by omega]; exact List.mem_cons_self
      · exact .inr (List.mem_cons_of_mem _ h3)
/-- what stands at a place, or d -/
def at0 {α : Type} (l : List α) (i : Nat) (d : α) : α := (l[i]?).getD d
theorem at0_of {α : Type} {l : List α} {i : Nat} {d : α} (h : i < l.length) : at0 l i d = l[i] := by unfold at0; rw [List.getElem?_eq_getElem h]; rfl
theorem at0_mem {α : Type} {l : List α} {i : Nat} {d : α} (h : i < l.length) : at0 l i d ∈ l := by rw [at0_of h]; exact List.getElem_mem h
theorem at_int {ns : List Int} {i : Nat} {d : Int} (h : i < ns.length) : atI (ns.map PyData.int) (i : Int) = some (.int (at0 ns i d)) := by
  rw [atI_nat, List.getElem?_map, List.getElem?_eq_getElem h, at0_of h]; rfl
theorem enum_int {ns : List Int} {d : Int} : enumL (ns.map .int) = (List.range ns.length).map fun (i : Nat) => PyData.tuple [.int (i : Int), .int (at0 ns i d)] := enum_ints
/-! ### tuples and lists of ints -/
def tI (ns : List Int) : PyData := .tuple (ns.map .int)
def tII (ss : List (List Int)) : PyData := .tuple (ss.map tI)
def lI (ns : List Int) : PyData := .list (ns.map .int)
@[simp] theorem len_tI {ns : List Int} : bltSem .len [tI ns] = some (.int ns.length) := by simp [tI]
@[simp] theorem len_tII {ns : List (List Int)} : bltSem .len [tII ns] = some (.int ns.length) := by simp [tII]
@[simp] theorem len_lI {ns : List Int} : bltSem .len [lI ns] = some (.int ns.length) := by simp [lI]
@[simp] theorem seqD_tI {ns : List Int} : seqD (tI ns) = some (ns.map .int) := rfl
@[simp] theorem seqD_tII {ns : List (List Int)} : seqD (tII ns) = some (ns.map tI) := rfl
@[simp] theorem seqD_lI {ns : List Int} : seqD (lI ns) = some (ns.map .int) := rfl
@[simp] theorem sum_tI {ns : List Int} : bltSem .sum [tI ns] = some (.int ns.sum) := sum_tuple
@[simp] theorem sum_lI {ns : List Int} : bltSem .sum [lI ns] = some (.int ns.sum) := sum_list
theorem ix_tI {ns : List Int} {i : Nat} {d : Int} (h : i < ns.length) : ixSem (tI ns) (.int (i : Int)) = some (.int (at0 ns i d)) := at_int h
theorem ix_lI {ns : List Int} {i : Nat} {d : Int} (h : i < ns.length) : ixSem (lI ns) (.int (i : Int)) = some (.int (at0 ns i d)) := at_int h
theorem ix_tII {ns : List (List Int)} {i : Nat} (h : i < ns.length) : ixSem (tII ns) (.int (i : Int)) = some (tI (at0 ns i [])) := by
  show atI (ns.map tI) (i : Int) = _
  rw [atI_nat, List.getElem?_map, List.getElem?_eq_getElem h, at0_of h]; rfl
@[simp] theorem in_tI {fs : List Int} {i : Int} : cmpSem .In (.int i) (tI fs) = some (decide (i ∈ fs)) := in_ints
@[simp] theorem notin_tI {fs : List Int} {i : Int} : cmpSem .NotIn (.int i) (tI fs) = some (!decide (i ∈ fs)) := notin_ints
@[simp] theorem inst_tI {ns : List Int} {T : String} : isInst (tI ns) T = ("tuple" == T || ("tuple" == "bool" && T == "int")) := rfl
@[simp] theorem tuple_lI {ns : List Int} : bltSem .tuple [lI ns] = some (tI ns) := rfl
theorem list_ints {ns : List Int} : PyData.list (ns.map .int) = lI ns := rfl
theorem tuple_ints {ns : List Int} : PyData.tuple (ns.map .int) = tI ns := rfl
/-- a for over things, by what has been walked -/
theorem forL_pre {α : Type} {c : α → PyData} {f : PyData → Env1 → (Env1 → Prop) → Prop} {xs : List α} {ρ0 : Env1} {Q : Env1 → Prop} (I : List α → Env1 → Prop) (h0 : I [] ρ0)
    (hs : ∀ pre a post, xs = pre ++ a :: post → ∀ ρ k, I pre ρ → (∀ ρ', I (pre ++ [a]) ρ' → k ρ') → f (c a) ρ k) (hd : ∀ ρ, I xs ρ → Q ρ) : forL f (xs.map c) ρ0 Q := by
  have key : ∀ (post pre : List α) ρ, xs = pre ++ post → I pre ρ → forL f (post.map c) ρ Q := by
    intro post
    induction post with
    | nil => intro pre ρ e i; rw [List.append_nil] at e; exact hd ρ (e ▸ i)
    | cons a post ih => intro pre ρ e i; exact hs pre a post e ρ _ i fun ρ' i' => ih (pre ++ [a]) ρ' (by rw [e]; simp) i'
  exact key xs [] ρ0 rfl h0
@[simp] theorem un_sub {a : Int} : unSem .USub (.int a) = some (.int (-a)) := rfl
@[simp] theorem aug_sub {a b : Int} : augSem .Sub (.int a) (.int b) = some (.int (a - b)) := rfl
@[simp] theorem aug_add {a b : Int} : augSem .Add (.int a) (.int b) = some (.int (a + b)) := rfl
@[simp] theorem ix_last {xs : List PyData} {d : PyData} : atI (xs ++ [d]) (-1) = some d := by
  unfold atI ixN
  rw [if_neg (by decide), List.length_append, List.length_singleton, if_pos (by omega)]
  show (xs ++ [d])[((-1 : Int) + ((xs.length + 1 : Nat) : Int)).toNat]? = some d
  rw [show ((-1 : Int) + ((xs.length + 1 : Nat) : Int)).toNat = xs.length by omega]
  simp
@[simp] theorem zipD_tt {a b : List PyData} : zipD (.tuple a) (.tuple b) = some (a, b) := rfl
@[simp] theorem zipD_ll {a b : List PyData} : zipD (.list a) (.list b) = some (a, b) := rfl
@[simp] theorem zipD_III {a : List (List Int)} {b : List Int} : zipD (tII a) (tI b) = some (a.map tI, b.map .int) := rfl
@[simp] theorem zipD_II {a : List Int} {b : List Int} : zipD (tI a) (tI b) = some (a.map .int, b.map .int) := rfl
theorem zipL_map {α β : Type} {c : α → PyData} {d : β → PyData} {xs : List α} {ys : List β} : zipL (xs.map c) (ys.map d) = (xs.zip ys).map fun p => .tuple [c p.1, d p.2] := by
  unfold zipL
  rw [List.zipWith_map, ← List.map_uncurry_zip_eq_zipWith]
  rfl
theorem s_whl {Γ : Gam} {c : E} {b : SL} {ρ : Env1} {P : Post} : wpS Γ (.whl c b) ρ P = ∃ I : Nat → Env1 → Prop, (∃ n, I n ρ) ∧ ∀ n ρ1, I n ρ1 → wpT Γ c ρ1 (fun t => if t = true then wpSs Γ b ρ1 { nx := fun ρ2 => ∃ m, m < n ∧ I m ρ2, ct := fun ρ2 => ∃ m, m < n ∧ I m ρ2, bk := P.nx, rt := P.rt, xc := P.xc } else P.nx ρ1) P.xc := rfl
theorem cut_to {xs : List PyData} {i : Nat} : slSem none (some (i : Int)) (.list xs) = some (.list (xs.take i)) := by
  show some (PyData.list (cutD xs none (some (i : Int)))) = _
  unfold cutD
  rw [HT.sIx_none, HT.sIx_nat, List.drop_zero, Nat.sub_zero]
  congr 2
  by_cases h : i ≤ xs.length
  · rw [Nat.min_eq_left h]
  · rw [Nat.min_eq_right (by omega), List.take_of_length_le (Nat.le_refl _), List.take_of_length_le (by omega)]
theorem cut_from {xs : List PyData} {i : Nat} : slSem (some (i : Int)) none (.list xs) = some (.list (xs.drop i)) := by
  show some (PyData.list (cutD xs (some (i : Int)) none)) = _
  unfold cutD
  rw [HT.sIx_none, HT.sIx_nat]
  congr 2
  by_cases h : i ≤ xs.length
  · rw [Nat.min_eq_left h, List.take_of_length_le (by rw [List.length_drop]; exact Nat.le_refl _)]
  · rw [Nat.min_eq_right (by omega), List.drop_eq_nil_of_le (Nat.le_refl _), List.drop_eq_nil_of_le (by omega)]
    simp
theorem rep_list {d : PyData} {n : Nat} (h : n ≤ 10000) : binSem .Mult (.list [d]) (.int (n : Int)) = some (.list (List.replicate n d)) := by
  show (if _ then _ else _) = _
  rw [if_pos ⟨by simp, by omega, by omega⟩]
  congr 2
  rw [Int.toNat_natCast]
  induction n with
  | zero => rfl
  | succ n ih => rw [List.replicate_succ, List.flatten_cons, ih (by omega), List.replicate_succ]; rfl
theorem range_pre {n : Nat} {pre post : List Nat} {a : Nat} (h : List.range n = pre ++ a :: post) : a = pre.length ∧ pre.length < n := by
  have h1 : (List.range n)[pre.length]? = some a := by rw [h]; simp
  have h2 : pre.length < n := by
    have := congrArg List.length h
    simp at this; omega
  rw [List.getElem?_range h2] at h1
  exact ⟨(Option.some.inj h1).symm, h2⟩
end Dl

set_option Elab.async false
set_option linter.all false
set_option maxRecDepth 100000
set_option maxHeartbeats 8000000
/-! the data layer, part 31: the defs of values.py that all laws share; draws; more plain facts -/
namespace Dl
open PySem PySem.Spec PyProof.Rows L2
def b_is_integer : SL := (.cons (.ret (.ands (.cons (.isi (.var 0) "int") (.cons (.not (.isi (.var 0) "bool")) (.cons (.chn .LtE .LtE (.var 1) (.var 0) (.var 2)) .nil))))) .nil)
def b_is_integers : SL := (.cons (.ife (.ors (.cons (.not (.isi (.var 0) "tuple")) (.cons (.cmp .NotEq (.blt .len (.cons (.var 0) .nil)) (.var 1)) .nil))) (.cons (.ret (.cst (.bl false))) .nil) .nil) (.cons (.ret (.blt .all (.cons (.lc (.call "is_integer" none (.cons (.var 4) (.cons (.var 2) (.cons (.var 3) .nil))) [] .nil) [("one", 4)] (.name 4 "one") (.of (.var 0)) .nil) .nil))) .nil))
def b_is_tuple : SL := (.cons (.ret (.ands (.cons (.isi (.var 0) "tuple") (.cons (.chn .LtE .LtE (.var 1) (.blt .len (.cons (.var 0) .nil)) (.var 2)) .nil)))) .nil)
def b_is_rising : SL := (.cons (.ret (.blt .all (.cons (.lc (.cmp .Lt (.idx (.var 0) (.bin .Sub (.var 1) (.cst (.int 1)))) (.idx (.var 0) (.var 1))) [("at", 1)] (.name 1 "at") (.rng2 (.cst (.int 1)) (.blt .len (.cons (.var 0) .nil))) .nil) .nil))) .nil)
def b_common : SL := (.cons (.whl (.cmp .Gt (.var 1) (.cst (.int 0))) (.cons (.par2 false 0 (.var 1) false 1 (.bin .Mod (.var 0) (.var 1))) .nil)) (.cons (.ret (.var 0)) .nil))
def b_fraction : SL := (.cons (.set false 2 (.call "common" none (.cons (.blt .abs (.cons (.var 0) .nil)) (.cons (.var 1) .nil)) [] .nil)) (.cons (.ret (.tup (.cons (.bin .FloorDiv (.var 0) (.var 2)) (.cons (.bin .FloorDiv (.var 1) (.var 2)) .nil)))) .nil))
def b_power : SL := (.cons (.set false 2 (.cst (.int 1))) (.cons (.for_ (.name 3 "turn") (.rng1 (.var 1)) (.cons (.set false 2 (.bin .Mult (.var 2) (.var 0))) .nil)) (.cons (.ret (.var 2)) .nil)))
def b_is_fraction : SL := (.cons (.ife (.ors (.cons (.not (.call "is_integers" none (.cons (.var 0) (.cons (.cst (.int 2)) (.cons (.un .USub (.bin .Pow (.cst (.int 10)) (.cst (.int 12)))) (.cons (.bin .Pow (.cst (.int 10)) (.cst (.int 12))) .nil)))) [] .nil)) (.cons (.cmp .Lt (.idx (.var 0) (.cst (.int 1))) (.cst (.int 1))) .nil))) (.cons (.ret (.cst (.bl false))) .nil) .nil) (.cons (.ret (.cmp .Eq (.call "common" none (.cons (.blt .abs (.cons (.idx (.var 0) (.cst (.int 0))) .nil)) (.cons (.idx (.var 0) (.cst (.int 1))) .nil)) [] .nil) (.cst (.int 1)))) .nil))
def b_plus : SL := (.cons (.ret (.call "fraction" none (.cons (.bin .Add (.bin .Mult (.idx (.var 0) (.cst (.int 0))) (.idx (.var 1) (.cst (.int 1)))) (.bin .Mult (.idx (.var 1) (.cst (.int 0))) (.idx (.var 0) (.cst (.int 1))))) (.cons (.bin .Mult (.idx (.var 0) (.cst (.int 1))) (.idx (.var 1) (.cst (.int 1)))) .nil)) [] .nil)) .nil)
def b_times : SL := (.cons (.ret (.call "fraction" none (.cons (.bin .Mult (.idx (.var 0) (.cst (.int 0))) (.idx (.var 1) (.cst (.int 0)))) (.cons (.bin .Mult (.idx (.var 0) (.cst (.int 1))) (.idx (.var 1) (.cst (.int 1)))) .nil)) [] .nil)) .nil)
def b_minus : SL := (.cons (.ret (.call "fraction" none (.cons (.bin .Sub (.bin .Mult (.idx (.var 0) (.cst (.int 0))) (.idx (.var 1) (.cst (.int 1)))) (.bin .Mult (.idx (.var 1) (.cst (.int 0))) (.idx (.var 0) (.cst (.int 1))))) (.cons (.bin .Mult (.idx (.var 0) (.cst (.int 1))) (.idx (.var 1) (.cst (.int 1)))) .nil)) [] .nil)) .nil)
def b_is_less : SL := (.cons (.ret (.cmp .Lt (.bin .Mult (.idx (.var 0) (.cst (.int 0))) (.idx (.var 1) (.cst (.int 1)))) (.bin .Mult (.idx (.var 1) (.cst (.int 0))) (.idx (.var 0) (.cst (.int 1)))))) .nil)
/-! ### what they promise -/
def isIntB (v : PyData) (a b : Int) : Bool := match v with
  | .int i => decide (a ≤ i) && decide (i ≤ b)
  | _ => false
def isIntsB (v : PyData) (n a b : Int) : Bool := match v with
  | .tuple es => decide ((es.length : Int) = n) && es.all fun e => isIntB e a b
  | _ => false
def isTupB (v : PyData) (a b : Int) : Bool := match v with
  | .tuple es => decide (a ≤ (es.length : Int)) && decide ((es.length : Int) ≤ b)
  | _ => false
def intD : PyData → Int
  | .int i => i
  | _ => 0
def lenD : PyData → Int
  | .tuple es => es.length
  | .list es => es.length
  | _ => 0
def intsD (v : PyData) : List Int := match v with
  | .tuple es => (intsOf es).getD []
  | .list es => (intsOf es).getD []
  | _ => []
def risingB : List Int → Bool
  | a :: b :: r => decide (a < b) && risingB (b :: r)
  | _ => true
/-- whether each thing is less than the next, by a reading of less -/
def risingBy {α : Type} (c : α → α → Bool) : List α → Bool
  | a :: b :: r => c a b && risingBy c (b :: r)
  | _ => true
def sg_is_integer : Sig where
  ps := ["value", "least", "most"]
  row := false
  kws := []
  sp := fun ds Q X => ∃ v a b, ds = [v, .int a, .int b] ∧ Q (.bool (isIntB v a b))
def sg_is_integers : Sig where
  ps := ["value", "many", "least", "most"]
  row := false
  kws := []
  sp := fun ds Q X => ∃ v n a b, ds = [v, .int n, .int a, .int b] ∧ Q (.bool (isIntsB v n a b))
def sg_is_tuple : Sig where
  ps := ["value", "least", "most"]
  row := false
  kws := []
  sp := fun ds Q X => ∃ v a b, ds = [v, .int a, .int b] ∧ Q (.bool (isTupB v a b))
def sg_is_rising : Sig where
  ps := ["things"]
  row := false
  kws := []
  sp := fun ds Q X => ∃ (xs : List PyData) (c : PyData → PyData → Bool), (ds = [.tuple xs] ∨ ds = [.list xs]) ∧ xs.length ≤ 1000000 ∧ (∀ x ∈ xs, ∀ y ∈ xs, cmpSem .Lt x y = some (c x y)) ∧ Q (.bool (risingBy c xs))
def sg_common : Sig where
  ps := ["one", "other"]
  row := false
  kws := []
  sp := fun ds Q X => ∃ a b : Nat, ds = [.int a, .int b] ∧ Q (.int (Nat.gcd a b))
/-- a fraction in lowest terms -/
def lowP (a b : Int) : Int := a / (Nat.gcd a.natAbs b.natAbs : Nat)
def lowW (a b : Int) : Int := b / (Nat.gcd a.natAbs b.natAbs : Nat)
def fr (a b : Int) : PyData := tI [a, b]
def low (a b : Int) : PyData := fr (lowP a b) (lowW a b)
def sg_fraction : Sig where
  ps := ["part", "whole"]
  row := false
  kws := []
  sp := fun ds Q X => ∃ a b : Int, ds = [.int a, .int b] ∧ 0 < b ∧ b.natAbs < Big ∧ Q (low a b)
def sg_power : Sig where
  ps := ["number", "many"]
  row := false
  kws := []
  sp := fun ds Q X => ∃ a : Int, ∃ k : Nat, ds = [.int a, .int k] ∧ a.natAbs ≤ 1000000 ∧ k ≤ 100 ∧ Q (.int (a ^ k))
def isFracB (v : PyData) : Bool := match v with
  | .tuple [.int a, .int b] => decide (-(10 ^ 12) ≤ a) && decide (a ≤ 10 ^ 12) && decide (1 ≤ b) && decide (b ≤ 10 ^ 12) && decide (Nat.gcd a.natAbs b.natAbs = 1)
  | _ => false
def sg_is_fraction : Sig where
  ps := ["value"]
  row := false
  kws := []
  sp := fun ds Q X => ∃ v, ds = [v] ∧ Q (.bool (isFracB v))
/-- numbers that may be multiplied, divided -/
def Sm (a : Int) : Prop := a.natAbs < 2 ^ 1900
def sg_plus : Sig where
  ps := ["one", "other"]
  row := false
  kws := []
  sp := fun ds Q X => ∃ a b c d : Int, ds = [fr a b, fr c d] ∧ 0 < b ∧ 0 < d ∧ Sm a ∧ Sm b ∧ Sm c ∧ Sm d ∧ Q (low (a * d + c * b) (b * d))
def sg_times : Sig where
  ps := ["one", "other"]
  row := false
  kws := []
  sp := fun ds Q X => ∃ a b c d : Int, ds = [fr a b, fr c d] ∧ 0 < b ∧ 0 < d ∧ Sm a ∧ Sm b ∧ Sm c ∧ Sm d ∧ Q (low (a * c) (b * d))
def sg_minus : Sig where
  ps := ["one", "other"]
  row := false
  kws := []
  sp := fun ds Q X => ∃ a b c d : Int, ds = [fr a b, fr c d] ∧ 0 < b ∧ 0 < d ∧ Sm a ∧ Sm b ∧ Sm c ∧ Sm d ∧ Q (low (a * d - c * b) (b * d))
def sg_is_less : Sig where
  ps := ["one", "other"]
  row := false
  kws := []
  sp := fun ds Q X => ∃ a b c d : Int, ds = [fr a b, fr c d] ∧ Sm a ∧ Sm b ∧ Sm c ∧ Sm d ∧ Q (.bool (decide (a * d < c * b)))
def gam__law_pick : Gam := gm [("_law_taken", sgTaken)] []
@[simp] theorem gf__law_pick__law_taken : gam__law_pick.funs "_law_taken" = some sgTaken := rfl
def gam_is_integer : Gam := gm [] []
def gam_is_integers : Gam := gm [("is_integer", sg_is_integer)] []
@[simp] theorem gf_is_integers_is_integer : gam_is_integers.funs "is_integer" = some sg_is_integer := rfl
def gam_is_tuple : Gam := gm [] []
def gam_is_rising : Gam := gm [] []
def gam_common : Gam := gm [] []
def gam_fraction : Gam := gm [("common", sg_common)] []
@[simp] theorem gf_fraction_common : gam_fraction.funs "common" = some sg_common := rfl
def gam_power : Gam := gm [] []
def gam_is_fraction : Gam := gm [("is_integers", sg_is_integers), ("common", sg_common)] []
@[simp] theorem gf_is_fraction_is_integers : gam_is_fraction.funs "is_integers" = some sg_is_integers := rfl
@[simp] theorem gf_is_fraction_common : gam_is_fraction.funs "common" = some sg_common := rfl
def gam_plus : Gam := gm [("fraction", sg_fraction)] []
@[simp] theorem gf_plus_fraction : gam_plus.funs "fraction" = some sg_fraction := rfl
def gam_times : Gam := gm [("fraction", sg_fraction)] []
@[simp] theorem gf_times_fraction : gam_times.funs "fraction" = some sg_fraction := rfl
def gam_minus : Gam := gm [("fraction", sg_fraction)] []
@[simp] theorem gf_minus_fraction : gam_minus.funs "fraction" = some sg_fraction := rfl
def gam_is_less : Gam := gm [] []
@[simp] theorem rw_is_integer : sg_is_integer.row = false := rfl
@[simp] theorem rw_is_integers : sg_is_integers.row = false := rfl
@[simp] theorem rw_is_tuple : sg_is_tuple.row = false := rfl
@[simp] theorem rw_is_rising : sg_is_rising.row = false := rfl
@[simp] theorem rw_common : sg_common.row = false := rfl
@[simp] theorem rw_fraction : sg_fraction.row = false := rfl
@[simp] theorem rw_power : sg_power.row = false := rfl
@[simp] theorem rw_is_fraction : sg_is_fraction.row = false := rfl
@[simp] theorem rw_plus : sg_plus.row = false := rfl
@[simp] theorem rw_times : sg_times.row = false := rfl
@[simp] theorem rw_minus : sg_minus.row = false := rfl
@[simp] theorem rw_is_less : sg_is_less.row = false := rfl
/-! ### they keep it -/
theorem ln__law_pick : ∀ ds Q X, sgPick.sp ds Q X → (if sgPick.row then 1 else 0) + ds.length = sgPick.ps.length := by
  rintro ds Q X ⟨xs, rfl, _⟩; rfl
theorem wp__law_pick : ∀ ds Q X, sgPick.sp ds Q X → wpSs gam__law_pick b__law_pick (rho0 2 sgPick.row ds) (postOf Q X) := fun ds Q X h => pick_wp rfl ds Q X h
theorem ln_is_integer : ∀ ds Q X, sg_is_integer.sp ds Q X → (if sg_is_integer.row then 1 else 0) + ds.length = sg_is_integer.ps.length := by
  rintro ds Q X ⟨v, a, b, rfl, _⟩; rfl
theorem wp_is_integer : ∀ ds Q X, sg_is_integer.sp ds Q X → wpSs gam_is_integer b_is_integer (rho0 3 sg_is_integer.row ds) (postOf Q X) := by
  rintro ds Q X ⟨v, a, b, rfl, hq⟩
  cases v <;> simpa [b_is_integer, isIntB] using hq
theorem ln_is_integers : ∀ ds Q X, sg_is_integers.sp ds Q X → (if sg_is_integers.row then 1 else 0) + ds.length = sg_is_integers.ps.length := by
  rintro ds Q X ⟨v, n, a, b, rfl, _⟩; rfl
theorem wp_is_integers : ∀ ds Q X, sg_is_integers.sp ds Q X → wpSs gam_is_integers b_is_integers (rho0 5 sg_is_integers.row ds) (postOf Q X) := by
  rintro ds Q X ⟨v, n, a, b, rfl, hq⟩
  cases v <;> try (simpa [b_is_integers, isIntsB] using hq)
  rename_i es
  simp [b_is_integers, isIntsB] at hq ⊢
  by_cases h : (es.length : Int) = n
  · rw [if_pos h]
    intro _
    refine wpL_mapS (h := fun e => .bool (isIntB e a b)) (fun e _ k hk => ⟨_, _, _, rfl, hk⟩) ?_
    rw [all_map]
    simpa [h] using hq
  · rw [if_neg h]
    simpa [h] using hq
theorem ln_is_tuple : ∀ ds Q X, sg_is_tuple.sp ds Q X → (if sg_is_tuple.row then 1 else 0) + ds.length = sg_is_tuple.ps.length := by
  rintro ds Q X ⟨v, a, b, rfl, _⟩; rfl
theorem wp_is_tuple : ∀ ds Q X, sg_is_tuple.sp ds Q X → wpSs gam_is_tuple b_is_tuple (rho0 3 sg_is_tuple.row ds) (postOf Q X) := by
  rintro ds Q X ⟨v, a, b, rfl, hq⟩
  cases v <;> simpa [b_is_tuple, isTupB] using hq
theorem risingBy_iff {α : Type} {c : α → α → Bool} (d : α) : ∀ {ns : List α}, risingBy c ns = (List.range (ns.length - 1)).all fun i => c (at0 ns i d) (at0 ns (i + 1) d)
  | [] => rfl
  | [_] => rfl
  | a :: b :: r => by
    unfold risingBy
    rw [risingBy_iff d (ns := b :: r)]
    have e1 : (a :: b :: r).length - 1 = (b :: r).length - 1 + 1 := by simp
    rw [e1, List.range_succ_eq_map, List.all_cons, List.all_map]
    rfl
theorem rising_by : ∀ {ns : List Int}, risingB ns = risingBy (fun a b => decide (a < b)) ns
  | [] => rfl
  | [_] => rfl
  | a :: b :: r => by unfold risingB risingBy; rw [rising_by]
theorem rising_iff {ns : List Int} : risingB ns = (List.range (ns.length - 1)).all fun i => decide (at0 ns i 0 < at0 ns (i + 1) 0) := by rw [rising_by, risingBy_iff 0]
theorem ln_is_rising : ∀ ds Q X, sg_is_rising.sp ds Q X → (if sg_is_rising.row then 1 else 0) + ds.length = sg_is_rising.ps.length := by
  rintro ds Q X ⟨v, c, rfl | rfl, _⟩ <;> rfl
theorem at_D {xs : List PyData} {i : Nat} (h : i < xs.length) : atI xs (i : Int) = some (at0 xs i .none) := by
  rw [atI_nat, List.getElem?_eq_getElem h, at0_of h]
theorem wp_is_rising : ∀ ds Q X, sg_is_rising.sp ds Q X → wpSs gam_is_rising b_is_rising (rho0 2 sg_is_rising.row ds) (postOf Q X) := by
  rintro ds Q X ⟨xs, c, hd, hl, hc, hq⟩
  have key : ∀ v : PyData, (v = .tuple xs ∨ v = .list xs) → wpSs gam_is_rising b_is_rising (rho0 2 false [v]) (postOf Q X) := by
    intro v hv
    have e0 : bltSem .len [v] = some (.int xs.length) := by rcases hv with rfl | rfl <;> rfl
    have e9 : ∀ i : Int, ixSem v (.int i) = atI xs i := by intro i; rcases hv with rfl | rfl <;> rfl
    simp [b_is_rising, e0]
    refine ⟨by omega, ?_⟩
    rw [rangeL_eq]
    refine wpL_ofS (h := fun i => .bool (c (at0 xs i .none) (at0 xs (i + 1) .none))) (fun i hi k hk => ?_) ?_
    · have hi := List.mem_range.mp hi
      have e1 : (1 + (i : Int) - 1) = (i : Nat) := by omega
      have e2 : (1 + (i : Int)) = ((i + 1 : Nat) : Int) := by omega
      simp only [bin_sub, opt_some, e1]
      rw [e9, at_D (by omega), opt_some, e9, e2, at_D (by omega), opt_some, hc _ (at0_mem (by omega)) _ (at0_mem (by omega)), opt_some]
      exact hk
    · rw [all_map, ← risingBy_iff]
      simpa using hq
  rcases hd with rfl | rfl
  · exact key _ (.inl rfl)
  · exact key _ (.inr rfl)
theorem rising_ints {ns : List Int} (hl : ns.length ≤ 1000000) {Q : PyData → Prop} {X : Str → Prop} (hq : Q (.bool (risingB ns))) : sg_is_rising.sp [tI ns] Q X ∧ sg_is_rising.sp [lI ns] Q X := by
  have key : risingB ns = risingBy (fun x y => decide (intD x < intD y)) (ns.map PyData.int) := by
    rw [rising_by]
    clear hl hq
    induction ns with
    | nil => rfl
    | cons a r ih =>
      cases r with
      | nil => rfl
      | cons b r =>
        simp only [List.map_cons, risingBy, intD] at ih ⊢
        rw [ih]; rfl
  have hc : ∀ x ∈ ns.map PyData.int, ∀ y ∈ ns.map PyData.int, cmpSem .Lt x y = some (decide (intD x < intD y)) := by
    intro x hx y hy
    obtain ⟨i, _, rfl⟩ := List.mem_map.mp hx
    obtain ⟨j, _, rfl⟩ := List.mem_map.mp hy
    rfl
  rw [key] at hq
  exact ⟨⟨_, _, .inl rfl, by simpa using hl, hc, hq⟩, ⟨_, _, .inr rfl, by simpa using hl, hc, hq⟩⟩
theorem ln_common : ∀ ds Q X, sg_common.sp ds Q X → (if sg_common.row then 1 else 0) + ds.length = sg_common.ps.length := by
  rintro ds Q X ⟨a, b, rfl, _⟩; rfl
theorem wp_common : ∀ ds Q X, sg_common.sp ds Q X → wpSs gam_common b_common (rho0 2 sg_common.row ds) (postOf Q X) := by
  rintro ds Q X ⟨a, b, rfl, hq⟩
  unfold b_common
  rw [ss_cons, s_whl]
  refine ⟨fun n ρ => ∃ c : Nat, ρ = [.val (.int c), .val (.int n)] ∧ Nat.gcd c n = Nat.gcd a b, ⟨b, a, by simp, rfl⟩, ?_⟩
  rintro n ρ ⟨c, rfl, hg⟩
  simp
  by_cases h : 0 < n
  · rw [if_pos (by omega)]
    rw [bin_mod (by omega), opt_some]
    refine ⟨c % n, Nat.mod_lt _ h, n, by simp, ?_⟩
    rw [← hg, Nat.gcd_comm c n, Nat.gcd_rec n c, Nat.gcd_comm]
  · rw [if_neg (by omega)]
    have : n = 0 := by omega
    subst this
    rw [Nat.gcd_zero_right] at hg
    rw [hg]; exact hq
theorem ln_fraction : ∀ ds Q X, sg_fraction.sp ds Q X → (if sg_fraction.row then 1 else 0) + ds.length = sg_fraction.ps.length := by
  rintro ds Q X ⟨a, b, rfl, _⟩; rfl
@[simp] theorem abs_int {a : Int} : bltSem .abs [.int a] = some (.int a.natAbs) := by
  simp [bltSem]; omega
theorem gcd_pos' {a b : Int} (h : 0 < b) : 0 < Nat.gcd a.natAbs b.natAbs := Nat.gcd_pos_of_pos_right _ (by omega)
theorem gcd_le' {a b : Int} (h : 0 < b) : Nat.gcd a.natAbs b.natAbs ≤ b.natAbs := Nat.gcd_le_right _ (by omega)
theorem wp_fraction : ∀ ds Q X, sg_fraction.sp ds Q X → wpSs gam_fraction b_fraction (rho0 3 sg_fraction.row ds) (postOf Q X) := by
  rintro ds Q X ⟨a, b, rfl, h0, hb, hq⟩
  simp [b_fraction]
  refine ⟨a.natAbs, b.natAbs, by simp; omega, ?_⟩
  have hd : divOk (Nat.gcd a.natAbs b.natAbs : Nat) := by
    have h1 := gcd_pos' (a := a) h0
    have h2 := gcd_le' (a := a) h0
    exact ⟨by omega, by omega⟩
  dsimp only
  rw [bin_div hd, opt_some, bin_div hd, opt_some]
  exact hq
theorem ln_power : ∀ ds Q X, sg_power.sp ds Q X → (if sg_power.row then 1 else 0) + ds.length = sg_power.ps.length := by
  rintro ds Q X ⟨a, b, rfl, _⟩; rfl
theorem pow_big {a : Int} {k : Nat} (h : a.natAbs ≤ 1000000) (hk : k ≤ 100) : (a ^ k).natAbs < Big := by
  rw [Int.natAbs_pow]
  have h1 : a.natAbs ^ k ≤ 1000000 ^ k := Nat.pow_le_pow_left h k
  have h2 : 1000000 ^ k ≤ 1000000 ^ 100 := Nat.pow_le_pow_right (by decide) hk
  have h3 : 1000000 ^ 100 < Big := by unfold Big; decide +kernel
  omega
theorem wp_power : ∀ ds Q X, sg_power.sp ds Q X → wpSs gam_power b_power (rho0 4 sg_power.row ds) (postOf Q X) := by
  rintro ds Q X ⟨a, k, rfl, ha, hk, hq⟩
  simp [b_power]
  rw [s_for]
  simp
  refine ⟨by omega, ?_⟩
  rw [rangeL0]
  refine forL_pre (fun pre ρ => ∃ x, ρ = [.val (.int a), .val (.int k), .val (.int (a ^ pre.length)), x]) ⟨.bad, by simp⟩ ?_ ?_
  · rintro pre i post he ρ kk ⟨x, rfl⟩ hkk
    obtain ⟨rfl, hi⟩ := range_pre he
    simp
    rw [bin_mul ⟨pow_big ha (by omega), by have := Big.of64 (a := a) (by omega); exact this⟩, opt_some]
    exact hkk _ ⟨.val (.int pre.length), by simp [Int.pow_succ]⟩
  · rintro ρ ⟨x, rfl⟩
    simpa using hq
theorem ln_is_fraction : ∀ ds Q X, sg_is_fraction.sp ds Q X → (if sg_is_fraction.row then 1 else 0) + ds.length = sg_is_fraction.ps.length := by
  rintro ds Q X ⟨a, rfl, _⟩; rfl
theorem isIntB_int {v : PyData} {a b : Int} (h : isIntB v a b = true) : ∃ i, v = .int i ∧ a ≤ i ∧ i ≤ b := by
  unfold isIntB at h
  split at h
  · simp at h; exact ⟨_, rfl, h⟩
  · cases h
theorem ints_of_all {a b : Int} : ∀ {es : List PyData}, (es.all fun e => isIntB e a b) = true → ∃ ns : List Int, es = ns.map .int ∧ ∀ n ∈ ns, a ≤ n ∧ n ≤ b
  | [], _ => ⟨[], rfl, fun n h => by cases h⟩
  | e :: r, h => by
    simp only [List.all_cons, Bool.and_eq_true] at h
    obtain ⟨i, rfl, hi⟩ := isIntB_int h.1
    obtain ⟨ns, rfl, hn⟩ := ints_of_all h.2
    exact ⟨i :: ns, rfl, fun n hm => by rcases List.mem_cons.mp hm with rfl | hm; exact hi; exact hn n hm⟩
theorem isIntsB_ints {v : PyData} {n a b : Int} (h : isIntsB v n a b = true) : ∃ ns : List Int, v = tI ns ∧ (ns.length : Int) = n ∧ ∀ m ∈ ns, a ≤ m ∧ m ≤ b := by
  unfold isIntsB at h
  split at h
  · simp only [Bool.and_eq_true, decide_eq_true_eq] at h
    obtain ⟨ns, rfl, hn⟩ := ints_of_all h.2
    exact ⟨ns, rfl, by simpa using h.1, hn⟩
  · cases h
theorem isIntsB_tI {ns : List Int} {n a b : Int} : isIntsB (tI ns) n a b = true ↔ (ns.length : Int) = n ∧ ∀ m ∈ ns, a ≤ m ∧ m ≤ b := by
  simp [isIntsB, tI, isIntB]
@[simp] theorem isTupB_tI {ns : List Int} {a b : Int} : isTupB (tI ns) a b = (decide (a ≤ (ns.length : Int)) && decide ((ns.length : Int) ≤ b)) := by simp [isTupB, tI]
@[simp] theorem lenD_tI {ns : List Int} : lenD (tI ns) = ns.length := by simp [lenD, tI]
@[simp] theorem intsD_tI {ns : List Int} : intsD (tI ns) = ns := by simp [intsD, tI]
@[simp] theorem intsD_lI {ns : List Int} : intsD (lI ns) = ns := by simp [intsD, lI]
theorem isTupB_tup {v : PyData} {a b : Int} (h : isTupB v a b = true) : ∃ es, v = .tuple es ∧ a ≤ (es.length : Int) ∧ (es.length : Int) ≤ b := by
  unfold isTupB at h
  split at h
  · simp at h; exact ⟨_, rfl, h⟩
  · cases h
theorem bin_pow {a : Int} {k : Nat} (h : a.natAbs < 2 ^ 64) (hk : k ≤ 1000000) : binSem .Pow (.int a) (.int k) = some (.int (a ^ k)) := by
  show (if _ then _ else _) = _
  rw [if_pos ⟨h, by omega, by omega⟩, Int.toNat_natCast]
@[simp] theorem pow10_12 : binSem .Pow (.int 10) (.int 12) = some (.int 1000000000000) := bin_pow (a := 10) (k := 12) (by decide) (by decide)
theorem isFracB_iff {v : PyData} : isFracB v = true ↔ ∃ a b : Int, v = fr a b ∧ -(10 ^ 12) ≤ a ∧ a ≤ 10 ^ 12 ∧ 1 ≤ b ∧ b ≤ 10 ^ 12 ∧ Nat.gcd a.natAbs b.natAbs = 1 := by
  constructor
  · intro h
    unfold isFracB at h
    split at h
    · simp at h
      exact ⟨_, _, rfl, h.1.1.1.1, h.1.1.1.2, h.1.1.2, h.1.2, h.2⟩
    · cases h
  · rintro ⟨a, b, rfl, h1, h2, h3, h4, h5⟩
    simp [isFracB, fr, tI]
    exact ⟨⟨⟨⟨h1, h2⟩, h3⟩, h4⟩, h5⟩
theorem wp_is_fraction : ∀ ds Q X, sg_is_fraction.sp ds Q X → wpSs gam_is_fraction b_is_fraction (rho0 1 sg_is_fraction.row ds) (postOf Q X) := by
  rintro ds Q X ⟨v, rfl, hq⟩
  simp [b_is_fraction]
  refine ⟨_, _, _, _, rfl, ?_⟩
  cases h : isIntsB v 2 (-1000000000000) 1000000000000 with
  | false =>
    have : isFracB v = false := by
      cases h2 : isFracB v with
      | false => rfl
      | true =>
        obtain ⟨a, b, rfl, h1, h2, h3, h4, h5⟩ := isFracB_iff.mp h2
        exact absurd ((isIntsB_tI (ns := [a, b]) (n := 2) (a := -1000000000000) (b := 1000000000000)).mpr ⟨rfl, by simp; omega⟩) (by show ¬ isIntsB (fr a b) _ _ _ = true; rw [h]; decide)
    rw [this] at hq
    simpa using hq
  | true =>
    obtain ⟨ns, rfl, hl, hn⟩ := isIntsB_ints h
    obtain ⟨a, b, rfl⟩ := len2 (by omega : ns.length = 2)
    have e0 : ixSem (tI [a, b]) (.int 0) = some (.int a) := rfl
    have e1 : ixSem (tI [a, b]) (.int 1) = some (.int b) := rfl
    simp [e0, e1] at hn ⊢
    by_cases hb : b < 1
    · rw [if_pos hb]
      have : isFracB (tI [a, b]) = false := by
        cases h2 : isFracB (tI [a, b]) with
        | false => rfl
        | true =>
          obtain ⟨a', b', e, h1, h2, h3, h4, h5⟩ := isFracB_iff.mp h2
          have : [a, b] = [a', b'] := by
            have := congrArg intsD e
            simpa [fr] using this
          simp at this
          omega
      rw [this] at hq
      exact hq
    · rw [if_neg hb]
      refine ⟨a.natAbs, b.natAbs, by simp; omega, ?_⟩
      have : isFracB (tI [a, b]) = decide (Nat.gcd a.natAbs b.natAbs = 1) := by
        simp [isFracB, tI]
        intro _
        omega
      rw [this] at hq
      have e : (((Nat.gcd a.natAbs b.natAbs : Nat) : Int) == 1) = decide (Nat.gcd a.natAbs b.natAbs = 1) := by
        rw [Bool.eq_iff_iff]; simp; omega
      simp [e]
      exact hq
theorem Sm.mul {a b : Int} (h : Sm a) (k : Sm b) : mulOk a b := by
  have e : (2 : Nat) ^ 1900 ≤ Big := Nat.pow_le_pow_right (by decide) (by decide)
  exact ⟨Nat.lt_of_lt_of_le h e, Nat.lt_of_lt_of_le k e⟩
theorem Sm.big {a b : Int} (h : Sm a) (k : Sm b) : (a * b).natAbs < Big := by
  rw [Int.natAbs_mul]
  have h1 : a.natAbs * b.natAbs ≤ 2 ^ 1900 * 2 ^ 1900 := Nat.mul_le_mul (Nat.le_of_lt h) (Nat.le_of_lt k)
  have h2 : 2 ^ 1900 * 2 ^ 1900 < Big := by
    rw [← Nat.pow_add]; exact Nat.pow_lt_pow_right (by decide) (by decide)
  omega
theorem bin_mulS {a b : Int} (h : Sm a) (k : Sm b) : binSem .Mult (.int a) (.int b) = some (.int (a * b)) := bin_mul (h.mul k)
@[simp] theorem fr0 {a b : Int} : ixSem (fr a b) (.int 0) = some (.int a) := rfl
@[simp] theorem fr1 {a b : Int} : ixSem (fr a b) (.int 1) = some (.int b) := rfl
theorem ln_plus : ∀ ds Q X, sg_plus.sp ds Q X → (if sg_plus.row then 1 else 0) + ds.length = sg_plus.ps.length := by
  rintro ds Q X ⟨_, _, _, _, rfl, _⟩; rfl
theorem ln_times : ∀ ds Q X, sg_times.sp ds Q X → (if sg_times.row then 1 else 0) + ds.length = sg_times.ps.length := by
  rintro ds Q X ⟨_, _, _, _, rfl, _⟩; rfl
theorem ln_minus : ∀ ds Q X, sg_minus.sp ds Q X → (if sg_minus.row then 1 else 0) + ds.length = sg_minus.ps.length := by
  rintro ds Q X ⟨_, _, _, _, rfl, _⟩; rfl
theorem ln_is_less : ∀ ds Q X, sg_is_less.sp ds Q X → (if sg_is_less.row then 1 else 0) + ds.length = sg_is_less.ps.length := by
  rintro ds Q X ⟨_, _, _, _, rfl, _⟩; rfl
theorem wp_plus : ∀ ds Q X, sg_plus.sp ds Q X → wpSs gam_plus b_plus (rho0 2 sg_plus.row ds) (postOf Q X) := by
  rintro ds Q X ⟨a, b, c, d, rfl, h1, h2, h3, h4, h5, h6, hq⟩
  simp [b_plus]
  rw [bin_mulS h3 h6, opt_some, bin_mulS h5 h4, opt_some, bin_add, opt_some, bin_mulS h4 h6, opt_some]
  exact ⟨_, _, rfl, Int.mul_pos h1 h2, h4.big h6, hq⟩
theorem wp_times : ∀ ds Q X, sg_times.sp ds Q X → wpSs gam_times b_times (rho0 2 sg_times.row ds) (postOf Q X) := by
  rintro ds Q X ⟨a, b, c, d, rfl, h1, h2, h3, h4, h5, h6, hq⟩
  simp [b_times]
  rw [bin_mulS h3 h5, opt_some, bin_mulS h4 h6, opt_some]
  exact ⟨_, _, rfl, Int.mul_pos h1 h2, h4.big h6, hq⟩
theorem wp_minus : ∀ ds Q X, sg_minus.sp ds Q X → wpSs gam_minus b_minus (rho0 2 sg_minus.row ds) (postOf Q X) := by
  rintro ds Q X ⟨a, b, c, d, rfl, h1, h2, h3, h4, h5, h6, hq⟩
  simp [b_minus]
  rw [bin_mulS h3 h6, opt_some, bin_mulS h5 h4, opt_some, bin_sub, opt_some, bin_mulS h4 h6, opt_some]
  exact ⟨_, _, rfl, Int.mul_pos h1 h2, h4.big h6, hq⟩
theorem wp_is_less : ∀ ds Q X, sg_is_less.sp ds Q X → wpSs gam_is_less b_is_less (rho0 2 sg_is_less.row ds) (postOf Q X) := by
  rintro ds Q X ⟨a, b, c, d, rfl, h3, h4, h5, h6, hq⟩
  simp [b_is_less]
  rw [bin_mulS h3 h6, opt_some, bin_mulS h5 h4, opt_some, cmp_lt, opt_some]
  exact hq
theorem len5 {α : Type} {l : List α} (h : l.length = 5) : ∃ a b c d e, l = [a, b, c, d, e] := by
  match l, h with
  | [a, b, c, d, e], _ => exact ⟨a, b, c, d, e, rfl⟩
theorem len6 {α : Type} {l : List α} (h : l.length = 6) : ∃ a b c d e f, l = [a, b, c, d, e, f] := by
  match l, h with
  | [a, b, c, d, e, f], _ => exact ⟨a, b, c, d, e, f, rfl⟩
theorem len7 {α : Type} {l : List α} (h : l.length = 7) : ∃ a b c d e f g, l = [a, b, c, d, e, f, g] := by
  match l, h with
  | [a, b, c, d, e, f, g], _ => exact ⟨a, b, c, d, e, f, g, rfl⟩
theorem len8 {α : Type} {l : List α} (h : l.length = 8) : ∃ a b c d e f g h, l = [a, b, c, d, e, f, g, h] := by
  match l, h with
  | [a, b, c, d, e, f, g, h], _ => exact ⟨a, b, c, d, e, f, g, h, rfl⟩
/-! ### draws -/
theorem taken_all {m : Int} {Q : PyData → Prop} {X : Str → Prop} (h0 : 0 < m) (h1 : m ≤ 10000000) (h : ∀ r : Int, 0 ≤ r → r < m → Q (.int r)) : sgTaken.sp [.int m] Q X := ⟨m, rfl, h0, by omega, h⟩
theorem pick_all {xs : List PyData} {Q : PyData → Prop} {X : Str → Prop} (h0 : 0 < xs.length) (h1 : xs.length ≤ 1000) (h : ∀ d ∈ xs, Q d) : sgPick.sp [.list xs] Q X := ⟨xs, rfl, h0, by omega, h⟩
theorem rel_of {α : Type} {c : α → PyData} {R : α → Prop} : ∀ {ys : List PyData}, (∀ y ∈ ys, ∃ a : α, y = c a ∧ R a) → ∃ as : List α, ys = as.map c ∧ ∀ a ∈ as, R a
  | [], _ => ⟨[], rfl, fun n h => by cases h⟩
  | y :: ys, h => by
    obtain ⟨n, rfl, hn⟩ := h y List.mem_cons_self
    obtain ⟨ns, rfl, hs⟩ := rel_of (ys := ys) fun z hz => h z (List.mem_cons_of_mem _ hz)
    exact ⟨n :: ns, rfl, fun k hk => by rcases List.mem_cons.mp hk with rfl | hk; exact hn; exact hs k hk⟩
theorem rel_ints {a b : Int} {ys : List PyData} (h : ∀ y ∈ ys, ∃ n : Int, y = .int n ∧ a ≤ n ∧ n ≤ b) : ∃ ns : List Int, ys = ns.map .int ∧ ∀ n ∈ ns, a ≤ n ∧ n ≤ b := rel_of h
theorem wpL_sub {f : PyData → (Option PyData → Prop) → Prop} : ∀ {xs : List PyData} {Q : List PyData → Prop}, (∀ x ∈ xs, ∀ k, k (some x) → k none → f x k) → (∀ ys, ys.Sublist xs → Q ys) → wpL f xs Q
  | [], Q, _, q => q [] (.refl _)
  | x :: xs, Q, h, q => by
    refine h x List.mem_cons_self _ ?_ ?_
    · exact wpL_sub (fun y hy => h y (List.mem_cons_of_mem _ hy)) fun ys hs => q _ (hs.cons₂ x)
    · exact wpL_sub (fun y hy => h y (List.mem_cons_of_mem _ hy)) fun ys hs => q _ (hs.cons x)
/-! ### alike -/
@[simp] theorem alike_int {a b : Int} : alike (.int a) (.int b) = (a == b) := rfl
@[simp] theorem alike_bool {a b : Bool} : alike (.bool a) (.bool b) = (a == b) := rfl
@[simp] theorem alike_none {a : PyData} : alike a .none = (match a with | .none => true | _ => false) := by cases a <;> rfl
theorem alikes_ints : ∀ {ns : List Int}, alikes (ns.map .int) (ns.map .int) = true
  | [] => rfl
  | n :: r => by
    simp only [List.map_cons, alikes, alike_int, beq_self_eq_true, Bool.true_and]
    exact alikes_ints
@[simp] theorem alike_tI {ns : List Int} : alike (tI ns) (tI ns) = true := alikes_ints
theorem okDs_ints {n : Nat} : ∀ {ns : List Int}, okDs n (ns.map .int) = true
  | [] => rfl
  | a :: r => by simp only [List.map_cons, okDs, okDs_ints, Bool.and_true]; cases n <;> rfl
theorem okD_tI {n : Nat} {ns : List Int} (h : ns.length ≤ 1000000) : okD (n + 1) (tI ns) = true := by
  simp [tI, okD, h, okDs_ints]
@[simp] theorem okD_int {n : Nat} {i : Int} : okD n (.int i) = true := by cases n <;> rfl
@[simp] theorem okD_bool {n : Nat} {i : Bool} : okD n (.bool i) = true := by cases n <;> rfl
@[simp] theorem okD_none {n : Nat} : okD n .none = true := by cases n <;> rfl
theorem alike_t {n : Nat} {f d : PyData} {Q : PyData → Prop} {X : Str → Prop} (ho : okD n d = true) (ha : alike f d = true) (h : Q (.bool true)) : (sgAlike n).sp [f, d] Q X := ⟨f, d, rfl, ho, by rw [ha]; exact h⟩
/-- what is within bounds is like itself -/
theorem alike_self_all : (∀ n d, okD n d = true → alike d d = true) := by
  have key : ∀ (k : Nat) (d : PyData), sizeOf d < k → ∀ n, okD n d = true → alike d d = true := by
    intro k
    induction k with
    | zero => intro d h; omega
    | succ k ih =>
      intro d h n ho
      cases d with
      | none => rfl
      | bool b => simp
      | int i => simp
      | str s => simp [alike]
      | list es => cases n <;> (unfold okD at ho; cases ho)
      | dict es => cases n <;> (unfold okD at ho; cases ho)
      | tuple es =>
        cases n with
        | zero => unfold okD at ho; cases ho
        | succ n =>
          unfold okD at ho
          simp only [Bool.and_eq_true] at ho
          show alikes es es = true
          have : ∀ l : List PyData, sizeOf l < k → okDs n l = true → alikes l l = true := by
            intro l
            induction l with
            | nil => intro _ _; rfl
            | cons a r ih2 =>
              intro hl hr
              unfold okDs at hr
              simp only [Bool.and_eq_true] at hr
              unfold alikes
              simp at hl
              rw [ih a (by omega) n hr.1, ih2 (by omega) hr.2]; rfl
          exact this es (by simp at h; omega) ho.2
  intro n d h
  exact key _ d (Nat.lt_succ_self _) n h
theorem alike_same {n : Nat} {d : PyData} {Q : PyData → Prop} {X : Str → Prop} (ho : okD n d = true) (h : Q (.bool true)) : (sgAlike n).sp [d, d] Q X := alike_t ho (alike_self_all n d ho) h
theorem alike_eq {n : Nat} {f d : PyData} {Q : PyData → Prop} {X : Str → Prop} (e : f = d) (ho : okD n d = true) (h : Q (.bool true)) : (sgAlike n).sp [f, d] Q X := by subst e; exact alike_same ho h
/-! ### more of tuples and lists -/
theorem rep_flat {d : PyData} : ∀ {n : Nat}, (List.replicate n [d]).flatten = List.replicate n d
  | 0 => rfl
  | n + 1 => by rw [List.replicate_succ, List.flatten_cons, rep_flat, List.replicate_succ]; rfl
theorem rep_tup {d : PyData} {n : Nat} (h1 : 1 ≤ n) (h : n ≤ 1000) : binSem .Mult (.tuple [d]) (.int (n : Int)) = some (.tuple (List.replicate n d)) := by
  show (if _ then _ else _) = _
  rw [if_pos ⟨by simp, by simp, by omega, by omega⟩, Int.toNat_natCast, rep_flat]
theorem ints_no {x : PyData} {n : Nat} {m a b : Int} (h1 : 1 ≤ n) (h : isIntB x a b = false) : isIntsB (.tuple (List.replicate n x)) m a b = false := by
  cases n with
  | zero => omega
  | succ n => rw [List.replicate_succ]; simp [isIntsB, h]
theorem ints_long {es : List PyData} {m a b : Int} (h : (es.length : Int) ≠ m) : isIntsB (.tuple es) m a b = false := by simp [isIntsB, h]
@[simp] theorem truth_lI {ns : List Int} : truth (lI ns) = some (!ns.isEmpty) := by
  cases ns <;> simp [truth, lI]
@[simp] theorem truth_tI {ns : List Int} : truth (tI ns) = some (!ns.isEmpty) := by
  cases ns <;> simp [truth, tI]
@[simp] theorem lI_nil {ns : List Int} : (lI ns).eqv (.list []) = ns.isEmpty := by
  cases ns <;> rfl
theorem tI_inj {a b : List Int} (h : tI a = tI b) : a = b := by
  have := congrArg intsD h
  simpa [intsD, tI] using this
theorem range_ints {n : Nat} : rangeL 0 1 n = ((List.range n).map fun i : Nat => (i : Int)).map .int := by rw [rangeL0]; simp
theorem eqv_ints : ∀ {a b : List Int}, PyData.eqv (tI a) (tI b) = decide (a = b) ∧ PyData.eqv (lI a) (lI b) = decide (a = b) := by
  have key : ∀ a b : List Int, PyData.eqvAll (a.map .int) (b.map .int) = decide (a = b) := by
    intro a
    induction a with
    | nil => intro b; cases b <;> simp [PyData.eqvAll]
    | cons x a ih =>
      intro b
      cases b with
      | nil => simp [PyData.eqvAll]
      | cons y b =>
        simp only [List.map_cons, PyData.eqvAll, eqv_int, ih]
        by_cases h1 : x = y <;> by_cases h2 : a = b <;> simp [h1, h2]
  intro a b
  exact ⟨key a b, key a b⟩
end Dl

set_option Elab.async false
set_option linter.all false
set_option maxRecDepth 100000
set_option maxHeartbeats 8000000
namespace Dl
open PySem PySem.Spec PyProof.Rows L2
/-! the data layer, part 32: fractions in lowest terms -/
theorem gcd_dvdP {a b : Int} : ((Nat.gcd a.natAbs b.natAbs : Nat) : Int) ∣ a := Int.ofNat_dvd_left.mpr (Nat.gcd_dvd_left _ _)
theorem gcd_dvdW {a b : Int} : ((Nat.gcd a.natAbs b.natAbs : Nat) : Int) ∣ b := Int.ofNat_dvd_left.mpr (Nat.gcd_dvd_right _ _)
theorem lowP_mul {a b : Int} : lowP a b * (Nat.gcd a.natAbs b.natAbs : Nat) = a := Int.ediv_mul_cancel gcd_dvdP
theorem lowW_mul {a b : Int} : lowW a b * (Nat.gcd a.natAbs b.natAbs : Nat) = b := Int.ediv_mul_cancel gcd_dvdW
theorem low_pos {a b : Int} (h : 0 < b) : 0 < lowW a b := by
  have h1 := lowW_mul (a := a) (b := b)
  have h2 := gcd_pos' (a := a) h
  refine Decidable.byContradiction fun z => ?_
  have : lowW a b * (Nat.gcd a.natAbs b.natAbs : Nat) ≤ 0 := Int.mul_nonpos_of_nonpos_of_nonneg (by omega) (by omega)
  omega
theorem low_cross {a b : Int} : lowP a b * b = a * lowW a b := by
  have h1 := lowP_mul (a := a) (b := b)
  have h2 := lowW_mul (a := a) (b := b)
  generalize ((Nat.gcd a.natAbs b.natAbs : Nat) : Int) = g at h1 h2
  generalize lowP a b = p at *
  generalize lowW a b = q at *
  rw [← h1, ← h2, Int.mul_comm q g, Int.mul_assoc]
theorem low_coprime {a b : Int} (h : 0 < b) : Nat.gcd (lowP a b).natAbs (lowW a b).natAbs = 1 := by
  have h1 := congrArg Int.natAbs (lowP_mul (a := a) (b := b))
  have h2 := congrArg Int.natAbs (lowW_mul (a := a) (b := b))
  have h3 := gcd_pos' (a := a) h
  rw [Int.natAbs_mul, Int.natAbs_natCast] at h1 h2
  have : Nat.gcd ((lowP a b).natAbs * Nat.gcd a.natAbs b.natAbs) ((lowW a b).natAbs * Nat.gcd a.natAbs b.natAbs) = Nat.gcd a.natAbs b.natAbs := by rw [h1, h2]
  rw [Nat.gcd_mul_right] at this
  exact Nat.eq_of_mul_eq_mul_right h3 (by omega)
/-- fractions in lowest terms are one if they have one value -/
theorem frac_eq {a b c d : Int} (hb : 0 < b) (hd : 0 < d) (h1 : Nat.gcd a.natAbs b.natAbs = 1) (h2 : Nat.gcd c.natAbs d.natAbs = 1) (h : a * d = c * b) : a = c ∧ b = d := by
  have e := congrArg Int.natAbs h
  rw [Int.natAbs_mul, Int.natAbs_mul] at e
  have d1 : b.natAbs ∣ d.natAbs := by
    have : b.natAbs ∣ a.natAbs * d.natAbs := ⟨c.natAbs, by rw [e, Nat.mul_comm]⟩
    exact Nat.Coprime.dvd_of_dvd_mul_left (Nat.Coprime.symm h1) this
  have d2 : d.natAbs ∣ b.natAbs := by
    have : d.natAbs ∣ c.natAbs * b.natAbs := ⟨a.natAbs, by rw [← e, Nat.mul_comm]⟩
    exact Nat.Coprime.dvd_of_dvd_mul_left (Nat.Coprime.symm h2) this
  have e2 : b = d := by have := Nat.dvd_antisymm d1 d2; omega
  subst e2
  exact ⟨Int.eq_of_mul_eq_mul_right (by omega) h, rfl⟩
/-- .. and a lowest form is found by its value -/
theorem low_eq {a b c d : Int} (hb : 0 < b) (hd : 0 < d) (h2 : Nat.gcd c.natAbs d.natAbs = 1) (h : a * d = c * b) : low a b = fr c d := by
  have hp := low_pos (a := a) hb
  have hc := low_cross (a := a) (b := b)
  have key : lowP a b * d = c * lowW a b := by
    apply Int.eq_of_mul_eq_mul_right (show b ≠ 0 by omega)
    rw [Int.mul_right_comm, hc, Int.mul_right_comm, h, Int.mul_right_comm]
  obtain ⟨e1, e2⟩ := frac_eq hp hd (low_coprime hb) h2 key
  unfold low
  rw [e1, e2]
theorem low_same {a b c d : Int} (hb : 0 < b) (hd : 0 < d) (h : a * d = c * b) : low a b = low c d := by
  refine low_eq hb (low_pos hd) (low_coprime hd) ?_
  have hc := low_cross (a := c) (b := d)
  apply Int.eq_of_mul_eq_mul_right (show d ≠ 0 by omega)
  rw [Int.mul_right_comm a, h, Int.mul_right_comm (lowP c d), hc, Int.mul_right_comm c, Int.mul_right_comm c]
end Dl

set_option Elab.async false
set_option linter.all false
set_option maxRecDepth 100000
set_option maxHeartbeats 8000000
/-! the data layer, part 36: cloths: rows that come again -/
namespace Dl
open PySem PySem.Spec PyProof.Rows L2
/-- what stands at a place of the cloth of a repeat -/
def col (ns : List Int) (z : Int) : Int := at0 ns (z % (ns.length : Int)).toNat 0
def Per (f : Int → Int) (p : Int) : Prop := ∀ z, f (z + p) = f z
/-- a piece of a cloth -/
def cl (f : Int → Int) (n : Nat) (s : Int) : List Int := (List.range n).map fun i : Nat => f (s + (i : Int))
theorem cl_len {f : Int → Int} {n : Nat} {s : Int} : (cl f n s).length = n := by simp [cl]
theorem cl_get {f : Int → Int} {n i : Nat} {s : Int} (h : i < n) : (cl f n s)[i]? = some (f (s + i)) := by
  unfold cl; rw [List.getElem?_map, List.getElem?_range h]; rfl
theorem cl_at {f : Int → Int} {n i : Nat} {s d : Int} (h : i < n) : at0 (cl f n s) i d = f (s + i) := by
  unfold at0; rw [cl_get h]; rfl
theorem cl_eq {f g : Int → Int} {n m : Nat} {s t : Int} : cl f n s = cl g m t ↔ n = m ∧ ∀ i : Nat, i < n → f (s + i) = g (t + i) := by
  constructor
  · intro h
    have hl : n = m := by have := congrArg List.length h; rwa [cl_len, cl_len] at this
    refine ⟨hl, fun i hi => ?_⟩
    have : (cl f n s)[i]? = (cl g m t)[i]? := by rw [h]
    rw [cl_get hi, cl_get (by omega)] at this
    exact Option.some.inj this
  · rintro ⟨rfl, h⟩
    unfold cl
    exact List.map_congr_left fun i hi => h i (List.mem_range.mp hi)
theorem cl_take {f : Int → Int} {n k : Nat} {s : Int} (h : k ≤ n) : (cl f n s).take k = cl f k s := by
  apply List.ext_getElem?
  intro i
  by_cases hi : i < k
  · rw [List.getElem?_take_of_lt hi, cl_get (by omega), cl_get hi]
  · rw [List.getElem?_eq_none (by rw [List.length_take, cl_len]; omega), List.getElem?_eq_none (by rw [cl_len]; omega)]
theorem cl_drop {f : Int → Int} {n k : Nat} {s : Int} : (cl f n s).drop k = cl f (n - k) (s + k) := by
  apply List.ext_getElem?
  intro i
  rw [List.getElem?_drop]
  by_cases hi : i < n - k
  · rw [cl_get (by omega), cl_get hi]
    congr 2
    omega
  · rw [List.getElem?_eq_none (by rw [cl_len]; omega), List.getElem?_eq_none (by rw [cl_len]; omega)]
theorem cl_app {f : Int → Int} {a b : Nat} {s : Int} : cl f a s ++ cl f b (s + a) = cl f (a + b) s := by
  apply List.ext_getElem?
  intro i
  rw [List.getElem?_append, cl_len]
  by_cases hi : i < a
  · rw [if_pos hi, cl_get hi, cl_get (by omega)]
  · rw [if_neg hi]
    by_cases hb : i - a < b
    · rw [cl_get hb, cl_get (by omega)]
      congr 2
      omega
    · rw [List.getElem?_eq_none (by rw [cl_len]; omega), List.getElem?_eq_none (by rw [cl_len]; omega)]
theorem cl_self {ns : List Int} : cl (col ns) ns.length 0 = ns := by
  apply List.ext_getElem?
  intro i
  by_cases hi : i < ns.length
  · rw [cl_get hi]
    unfold col
    have e : ((0 + (i : Int)) % (ns.length : Int)).toNat = i := by rw [Int.zero_add, Int.emod_eq_of_lt (by omega) (by omega)]; omega
    rw [e, at0_of hi, List.getElem?_eq_getElem hi]
  · rw [List.getElem?_eq_none (by rw [cl_len]; omega), List.getElem?_eq_none (by omega)]
theorem col_per {ns : List Int} : Per (col ns) ns.length := by
  intro z
  unfold col
  rw [Int.add_emod_right]
theorem Per.mulN {f : Int → Int} {p : Int} (h : Per f p) : ∀ (k : Nat) z, f (z + p * k) = f z
  | 0, z => by simp
  | k + 1, z => by
    have e : z + p * ((k + 1 : Nat) : Int) = (z + p * k) + p := by
      rw [show ((k + 1 : Nat) : Int) = (k : Int) + 1 by omega, Int.mul_add]; omega
    rw [e, h, h.mulN k z]
theorem Per.mul {f : Int → Int} {p : Int} (h : Per f p) (k z : Int) : f (z + p * k) = f z := by
  rcases Int.le_total 0 k with hk | hk
  · have := h.mulN k.toNat z
    rwa [Int.toNat_of_nonneg hk] at this
  · have := h.mulN (-k).toNat (z + p * k)
    rw [Int.toNat_of_nonneg (by omega)] at this
    rw [← this]
    congr 1
    rw [Int.mul_neg]
    omega
theorem Per.mod {f : Int → Int} {p : Int} (h : Per f p) (z : Int) : f (z % p) = f z := by
  have := h.mul (z / p) (z % p)
  rw [← this]
  congr 1
  have := Int.emod_add_mul_ediv z p
  omega
theorem Per.add {f : Int → Int} {p q : Int} (h : Per f p) (k : Per f q) : Per f (p + q) := fun z => by rw [← Int.add_assoc, k, h]
/-- equal on a period's length, equal everywhere -/
theorem per_eq {f g : Int → Int} {p : Int} (hp : 0 < p) (hf : Per f p) (hg : Per g p) (h : ∀ i : Nat, (i : Int) < p → f i = g i) (z : Int) : f z = g z := by
  rw [← hf.mod z, ← hg.mod z]
  have h1 := Int.emod_nonneg z (show p ≠ 0 by omega)
  have h2 := Int.emod_lt_of_pos z hp
  have := h (z % p).toNat (by omega)
  rwa [show (((z % p).toNat : Nat) : Int) = z % p by omega] at this
/-- a period from what is so on a period's length -/
theorem per_of {f : Int → Int} {p m : Int} (hp : 0 < p) (hf : Per f p) (h : ∀ i : Nat, (i : Int) < p → f (m + i) = f i) : Per f m := by
  intro z
  have := per_eq (f := fun z => f (m + z)) (g := f) hp (fun z => by show f (m + (z + p)) = f (m + z); rw [← Int.add_assoc]; exact hf _) hf h z
  rw [Int.add_comm]; exact this
/-- two rows that come again are one if they are so on both periods' length -/
theorem two_per {f g : Int → Int} {p q : Nat} (hp : 0 < p) (hq : 0 < q) (hf : Per f p) (hg : Per g q) (h : ∀ i : Nat, i < p + q → f i = g i) : ∀ z, f z = g z := by
  have hfq : Per f q := by
    refine per_of (p := p) (by omega) hf fun i hi => ?_
    have e1 := h (q + i) (by omega)
    have e2 := h i (by omega)
    rw [show (((q + i : Nat)) : Int) = (q : Int) + i by omega] at e1
    rw [e1, e2, Int.add_comm]
    exact hg _
  exact per_eq (by omega) hfq hg fun i hi => h i (by omega)
/-- whether a number is a period of the cloth -/
def isPerB (ns : List Int) (m : Nat) : Bool := (List.range ns.length).all fun i => decide (col ns ((m : Int) + i) = col ns i)
theorem isPerB_iff {ns : List Int} {m : Nat} (h : 0 < ns.length) : isPerB ns m = true ↔ Per (col ns) m := by
  unfold isPerB
  rw [List.all_eq_true]
  constructor
  · intro k
    exact per_of (p := ns.length) (by omega) col_per fun i hi => by simpa using k i (List.mem_range.mpr (by omega))
  · intro k i _
    rw [decide_eq_true_eq, Int.add_comm]
    exact k _
/-- the least period -/
def perN (ns : List Int) : Nat := ((List.range ns.length).find? fun i => isPerB ns (i + 1)).getD 0 + 1
theorem find_first {p : Nat → Bool} {n i : Nat} (h : i < n) (hi : p i = true) (hb : ∀ j, j < i → p j = false) : (List.range n).find? p = some i := by
  rw [List.find?_eq_some_iff_getElem]
  refine ⟨hi, i, by simpa using h, by simp, fun j hj => ?_⟩
  simp [hb j hj]
theorem least_of {P : Nat → Prop} [DecidablePred P] : ∀ n, P n → ∃ m, m ≤ n ∧ P m ∧ ∀ j, j < m → ¬ P j
  | 0, h => ⟨0, Nat.le_refl _, h, fun j hj => by omega⟩
  | n + 1, h => by
    by_cases hz : ∃ m, m ≤ n ∧ P m
    · obtain ⟨m, hm, pm⟩ := hz
      obtain ⟨k, h1, h2, h3⟩ := least_of m pm
      exact ⟨k, by omega, h2, h3⟩
    · exact ⟨n + 1, Nat.le_refl _, h, fun j hj pj => hz ⟨j, by omega, pj⟩⟩
theorem perN_spec {ns : List Int} (h : 0 < ns.length) : 1 ≤ perN ns ∧ perN ns ≤ ns.length ∧ Per (col ns) (perN ns) ∧ ∀ q : Nat, 1 ≤ q → Per (col ns) q → perN ns ≤ q := by
  obtain ⟨i, h1, h2, h3⟩ := least_of (P := fun i => isPerB ns (i + 1) = true) (ns.length - 1) ((isPerB_iff h).mpr (by rw [show ns.length - 1 + 1 = ns.length by omega]; exact col_per))
  have e : perN ns = i + 1 := by
    unfold perN
    rw [find_first (p := fun i => isPerB ns (i + 1)) (i := i) (by omega) h2 fun j hj => by simpa using h3 j hj]; rfl
  rw [e]
  refine ⟨by omega, by omega, (isPerB_iff h).mp h2, fun q hq pq => ?_⟩
  refine Decidable.byContradiction fun z => h3 (q - 1) (by omega) ?_
  rw [isPerB_iff h, show q - 1 + 1 = q by omega]
  exact pq
/-- the least period divides every other one -/
theorem perN_dvd {ns : List Int} (h : 0 < ns.length) {q : Nat} (hq : Per (col ns) q) : perN ns ∣ q := by
  obtain ⟨h1, h2, h3, h4⟩ := perN_spec h
  have hr : Per (col ns) ((q % perN ns : Nat) : Int) := by
    intro z
    have e := h3.mul ((q / perN ns : Nat) : Int) (z + ((q % perN ns : Nat) : Int))
    rw [← e]
    have e2 := Nat.mod_add_div q (perN ns)
    rw [show z + ((q % perN ns : Nat) : Int) + (perN ns : Int) * ((q / perN ns : Nat) : Int) = z + q by
      have : ((q % perN ns + perN ns * (q / perN ns) : Nat) : Int) = (q : Int) := by rw [e2]
      rw [Int.natCast_add, Int.natCast_mul] at this
      omega]
    exact hq z
  have lt := Nat.mod_lt q (show 0 < perN ns by omega)
  by_cases hz : q % perN ns = 0
  · exact Nat.dvd_of_mod_eq_zero hz
  · have := h4 _ (by omega) hr
    omega
/-- the least repeat -/
def rootL (ns : List Int) : List Int := ns.take (perN ns)
theorem root_cl {ns : List Int} (h : 0 < ns.length) : rootL ns = cl (col ns) (perN ns) 0 := by
  unfold rootL
  have e := cl_take (f := col ns) (s := 0) (perN_spec h).2.1
  rw [cl_self] at e
  exact e
theorem root_len {ns : List Int} (h : 0 < ns.length) : (rootL ns).length = perN ns := by rw [root_cl h, cl_len]
/-- a piece of a period's length makes the same cloth -/
theorem col_cl {f : Int → Int} {p : Nat} (hp : 0 < p) (h : Per f p) (z : Int) : col (cl f p 0) z = f z := by
  unfold col
  rw [cl_len]
  have h1 := Int.emod_nonneg z (show (p : Int) ≠ 0 by omega)
  have h2 := Int.emod_lt_of_pos z (show (0 : Int) < p by omega)
  rw [cl_at (by omega), show (0 : Int) + (((z % (p : Int)).toNat : Nat) : Int) = z % p by omega]
  exact h.mod z
theorem col_root {ns : List Int} (h : 0 < ns.length) (z : Int) : col (rootL ns) z = col ns z := by
  rw [root_cl h]
  exact col_cl (perN_spec h).1 (perN_spec h).2.2.1 z
/-- a row taken again and again -/
theorem rep_cl {f : Int → Int} {p : Nat} (h : Per f p) : ∀ k : Nat, (List.replicate k (cl f p 0)).flatten = cl f (k * p) 0
  | 0 => by simp [cl]
  | k + 1 => by
    rw [List.replicate_succ, List.flatten_cons, rep_cl h k]
    have e : cl f (k * p) 0 = cl f (k * p) (0 + (p : Int)) := cl_eq.mpr ⟨rfl, fun i _ => by
      rw [show 0 + (p : Int) + (i : Int) = (0 + (i : Int)) + p by omega]
      exact (h _).symm⟩
    rw [e, cl_app]
    congr 1
    rw [Nat.succ_mul, Nat.add_comm]
/-- the first places, taken so often, make the row exactly if their number is a period -/
theorem rep_iff {ns : List Int} {m k : Nat} (hm : 0 < m) (hk : m * k = ns.length) (h : 0 < ns.length) : (List.replicate k (ns.take m)).flatten = ns ↔ Per (col ns) m := by
  have hle : m ≤ ns.length := by
    rw [← hk]; exact Nat.le_mul_of_pos_right _ (by
      rcases Nat.eq_zero_or_pos k with z | z
      · subst z; omega
      · exact z)
  have e0 : ns.take m = cl (col ns) m 0 := by
    have e := cl_take (f := col ns) (s := 0) hle
    rw [cl_self] at e; exact e
  have e1 : ns.take m = cl (col (ns.take m)) m 0 := by
    have e := cl_self (ns := ns.take m)
    rw [List.length_take, Nat.min_eq_left hle] at e
    exact e.symm
  have hp : Per (col (ns.take m)) m := by
    have := col_per (ns := ns.take m)
    rwa [List.length_take, Nat.min_eq_left hle] at this
  rw [e1, rep_cl hp, Nat.mul_comm k m, hk]
  constructor
  · intro e
    have e2 : cl (col (ns.take m)) ns.length 0 = cl (col ns) ns.length 0 := by rw [cl_self]; exact e
    have h2 := (cl_eq.mp e2).2
    have hd : (m : Int) ∣ (ns.length : Int) := ⟨k, by rw [← hk, Int.natCast_mul]⟩
    have hq : Per (col (ns.take m)) ns.length := by
      intro z
      obtain ⟨c, hc⟩ := hd
      rw [hc]
      exact hp.mul c z
    have all := per_eq (p := (ns.length : Int)) (by omega) hq col_per fun i hi => by
      have := h2 i (by omega)
      rwa [Int.zero_add] at this
    intro z
    rw [← all, ← all]
    exact hp z
  · intro hf
    have e2 : cl (col (ns.take m)) ns.length 0 = cl (col ns) ns.length 0 := cl_eq.mpr ⟨rfl, fun i _ => by
      rw [e0]
      exact col_cl hm hf _⟩
    rw [e2, cl_self]
/-- turned by some threads -/
theorem turn_cl {f : Int → Int} {p b : Nat} (h : Per f p) (hb : b ≤ p) : (cl f p 0).drop b ++ (cl f p 0).take b = cl f p b := by
  rw [cl_drop, cl_take hb]
  have e : cl f b 0 = cl f b (0 + (b : Int) + ((p - b : Nat) : Int)) := cl_eq.mpr ⟨rfl, fun i _ => by
    rw [show 0 + (b : Int) + ((p - b : Nat) : Int) + (i : Int) = (0 + (i : Int)) + p by omega]
    exact (h _).symm⟩
  rw [e, cl_app]
  rw [show p - b + b = p by omega, show (0 : Int) + (b : Int) = b by omega]
theorem perN_congr {a b : List Int} (ha : 0 < a.length) (hb : 0 < b.length) {s : Int} (h : ∀ z, col a (s + z) = col b z) : perN a = perN b := by
  obtain ⟨a1, a2, a3, a4⟩ := perN_spec ha
  obtain ⟨b1, b2, b3, b4⟩ := perN_spec hb
  have e1 : Per (col b) (perN a) := fun z => by rw [← h, ← h, ← Int.add_assoc]; exact a3 _
  have e2 : Per (col a) (perN b) := fun z => by
    have := b3 (z - s)
    rw [← h, ← h] at this
    rw [show s + (z - s + (perN b : Int)) = z + perN b by omega, show s + (z - s) = z by omega] at this
    exact this
  have := a4 _ b1 e2
  have := b4 _ a1 e1
  omega
end Dl

set_option Elab.async false
set_option linter.all false
set_option maxRecDepth 100000
set_option maxHeartbeats 8000000
/-! the data layer, part 37: more of tuples and lists of ints; loops that look for something -/
namespace Dl
open PySem PySem.Spec PyProof.Rows L2
theorem depth_tI {ns : List Int} : (tI ns).depth ≤ 60 := by
  show PyData.depthAll (ns.map .int) + 1 ≤ 60
  rw [depth_ints]; decide
theorem depth_lI' {ns : List Int} : (lI ns).depth ≤ 60 := by
  show PyData.depthAll (ns.map .int) + 1 ≤ 60
  rw [depth_ints]; decide
@[simp] theorem cmp_eq_tI {a b : List Int} : cmpSem .Eq (tI a) (tI b) = some (decide (a = b)) := by
  show (if _ then _ else _) = _
  rw [if_pos (dep_min depth_tI), eqv_ints.1]
@[simp] theorem cmp_ne_tI {a b : List Int} : cmpSem .NotEq (tI a) (tI b) = some (!decide (a = b)) := by
  show (if _ then _ else _) = _
  rw [if_pos (dep_min depth_tI), eqv_ints.1]
@[simp] theorem cmp_eq_lI {a b : List Int} : cmpSem .Eq (lI a) (lI b) = some (decide (a = b)) := by
  show (if _ then _ else _) = _
  rw [if_pos (dep_min depth_lI'), eqv_ints.2]
@[simp] theorem cmp_ne_lI {a b : List Int} : cmpSem .NotEq (lI a) (lI b) = some (!decide (a = b)) := by
  show (if _ then _ else _) = _
  rw [if_pos (dep_min depth_lI'), eqv_ints.2]
theorem cmp_eq_ii {a b : Int} : cmpSem .Eq (.int a) (.int b) = some (decide (a = b)) := by
  rw [cmp_eq_int]; rfl
theorem cmp_ne_ii {a b : Int} : cmpSem .NotEq (.int a) (.int b) = some (!decide (a = b)) := by
  rw [cmp_ne_int]; rfl
theorem cutD_to {xs : List PyData} {k : Nat} : cutD xs none (some (k : Int)) = xs.take k := by
  unfold cutD
  rw [HT.sIx_none, HT.sIx_nat, List.drop_zero, Nat.sub_zero]
  by_cases h : k ≤ xs.length
  · rw [Nat.min_eq_left h]
  · rw [Nat.min_eq_right (by omega), List.take_of_length_le (Nat.le_refl _), List.take_of_length_le (by omega)]
theorem cutD_from {xs : List PyData} {k : Nat} : cutD xs (some (k : Int)) none = xs.drop k := by
  unfold cutD
  rw [HT.sIx_none, HT.sIx_nat]
  by_cases h : k ≤ xs.length
  · rw [Nat.min_eq_left h, List.take_of_length_le (by rw [List.length_drop]; exact Nat.le_refl _)]
  · rw [Nat.min_eq_right (by omega), List.drop_eq_nil_of_le (Nat.le_refl _), List.drop_eq_nil_of_le (by omega)]
    simp
theorem cutD_mid {xs : List PyData} {i j : Nat} : cutD xs (some (i : Int)) (some (j : Int)) = (xs.drop i).take (j - i) := by
  unfold cutD
  rw [HT.sIx_nat, HT.sIx_nat]
  by_cases h : i ≤ xs.length
  · rw [Nat.min_eq_left h]
    by_cases h2 : j ≤ xs.length
    · rw [Nat.min_eq_left h2]
    · rw [Nat.min_eq_right (by omega), List.take_of_length_le (by rw [List.length_drop]; exact Nat.le_refl _), List.take_of_length_le (by rw [List.length_drop]; omega)]
  · rw [show min i xs.length = xs.length from Nat.min_eq_right (by omega), List.drop_length, List.drop_eq_nil_of_le (show xs.length ≤ i by omega)]
    simp
theorem slT_to {ns : List Int} {k : Nat} : slSem none (some (k : Int)) (tI ns) = some (tI (ns.take k)) := by
  show some (PyData.tuple (cutD _ _ _)) = _
  rw [cutD_to, ← List.map_take]; rfl
theorem slT_from {ns : List Int} {k : Nat} : slSem (some (k : Int)) none (tI ns) = some (tI (ns.drop k)) := by
  show some (PyData.tuple (cutD _ _ _)) = _
  rw [cutD_from, ← List.map_drop]; rfl
theorem slT_mid {ns : List Int} {i j : Nat} : slSem (some (i : Int)) (some (j : Int)) (tI ns) = some (tI ((ns.drop i).take (j - i))) := by
  show some (PyData.tuple (cutD _ _ _)) = _
  rw [cutD_mid, ← List.map_drop, ← List.map_take]; rfl
theorem slL_to {ns : List Int} {k : Nat} : slSem none (some (k : Int)) (lI ns) = some (lI (ns.take k)) := by
  show some (PyData.list (cutD _ _ _)) = _
  rw [cutD_to, ← List.map_take]; rfl
theorem slL_from {ns : List Int} {k : Nat} : slSem (some (k : Int)) none (lI ns) = some (lI (ns.drop k)) := by
  show some (PyData.list (cutD _ _ _)) = _
  rw [cutD_from, ← List.map_drop]; rfl
@[simp] theorem rev_tI {ns : List Int} : spSem .rev (tI ns) = some (tI ns.reverse) := by
  show some (PyData.tuple _) = _
  rw [← List.map_reverse]; rfl
@[simp] theorem rev_lI {ns : List Int} : spSem .rev (lI ns) = some (lI ns.reverse) := by
  show some (PyData.list _) = _
  rw [← List.map_reverse]; rfl
theorem cat_tI {a b : List Int} (h : a.length + b.length ≤ 16777216) : binSem .Add (tI a) (tI b) = some (tI (a ++ b)) := by
  show (if _ then _ else _) = _
  rw [if_pos (by simpa using h), ← List.map_append]; rfl
theorem cat_lI {a b : List Int} (h : a.length + b.length ≤ 16777216) : binSem .Add (lI a) (lI b) = some (lI (a ++ b)) := by
  show (if _ then _ else _) = _
  rw [if_pos (by simpa using h), ← List.map_append]; rfl
theorem rep_tI {a : List Int} {k : Nat} (h0 : 0 < a.length) (h1 : a.length ≤ 1000) (h2 : 1 ≤ k) (h3 : k ≤ 1000) : binSem .Mult (tI a) (.int (k : Int)) = some (tI (List.replicate k a).flatten) := by
  show (if _ then _ else _) = _
  rw [if_pos ⟨by cases a <;> simp at h0 ⊢, by simpa using h1, by omega, by omega⟩, Int.toNat_natCast]
  unfold tI
  rw [List.map_flatten, List.map_replicate]
theorem ix_tI_mod {ns : List Int} {z : Int} (h : 0 < ns.length) : ixSem (tI ns) (.int (z % (ns.length : Int))) = some (.int (col ns z)) := by
  have h1 := Int.emod_nonneg z (show (ns.length : Int) ≠ 0 by omega)
  have h2 := Int.emod_lt_of_pos z (show (0 : Int) < ns.length by omega)
  rw [show z % (ns.length : Int) = (((z % (ns.length : Int)).toNat : Nat) : Int) by omega, ix_tI (d := 0) (by omega)]
  rfl
@[simp] theorem isNone_tI' {ns : List Int} : isNone (tI ns) = false := rfl
@[simp] theorem isNone_lI {ns : List Int} : isNone (lI ns) = false := rfl
@[simp] theorem int_int {i : Int} : bltSem .int [.int i] = some (.int i) := rfl
@[simp] theorem tuple_tI {ns : List Int} : bltSem .tuple [tI ns] = some (tI ns) := rfl
@[simp] theorem list_tI {ns : List Int} : bltSem .list [tI ns] = some (lI ns) := rfl
@[simp] theorem list_lI {ns : List Int} : bltSem .list [lI ns] = some (lI ns) := rfl
theorem tuple_map {α : Type} {g : α → Int} {xs : List α} : PyData.tuple (xs.map fun x => PyData.int (g x)) = tI (xs.map g) := by unfold tI; rw [List.map_map]; rfl
theorem list_map {α : Type} {g : α → Int} {xs : List α} : PyData.list (xs.map fun x => PyData.int (g x)) = lI (xs.map g) := by unfold lI; rw [List.map_map]; rfl
/-- a for that looks for the first thing that is so -/
theorem forL_find {α : Type} {c : α → PyData} {f : PyData → Env1 → (Env1 → Prop) → Prop} {xs : List α} {ρ0 : Env1} {Q : Env1 → Prop} (I : Env1 → Prop) (p : α → Bool) (h0 : I ρ0)
    (hit : ∀ a, a ∈ xs → p a = true → xs.find? p = some a → ∀ ρ k, I ρ → f (c a) ρ k) (miss : ∀ a, a ∈ xs → p a = false → ∀ ρ k, I ρ → (∀ ρ', I ρ' → k ρ') → f (c a) ρ k)
    (hd : xs.find? p = none → ∀ ρ, I ρ → Q ρ) : forL f (xs.map c) ρ0 Q := by
  refine forL_pre (fun pre ρ => I ρ ∧ ∀ b ∈ pre, p b = false) ⟨h0, fun b hb => by cases hb⟩ ?_ ?_
  · rintro pre a post he ρ k ⟨hi, hp⟩ hk
    have ha : a ∈ xs := by rw [he]; simp
    cases hpa : p a with
    | true =>
      refine hit a ha hpa ?_ ρ k hi
      rw [he, List.find?_append, List.find?_eq_none.mpr (fun b hb => by simp [hp b hb])]
      simp [hpa]
    | false =>
      refine miss a ha hpa ρ k hi fun ρ' h' => hk ρ' ⟨h', fun b hb => ?_⟩
      rcases List.mem_append.mp hb with hb | hb
      · exact hp b hb
      · rw [List.mem_singleton.mp hb]; exact hpa
  · rintro ρ ⟨hi, hp⟩
    exact hd (List.find?_eq_none.mpr fun b hb => by simp [hp b hb]) ρ hi
/-- the least of a rising row is its first -/
def minL : List Int → Option Int
  | [] => none
  | n :: r => some (minI n r)
theorem minI_head {n : Int} {r : List Int} (h : (n :: r).Pairwise (· < ·)) : minI n r = n := by
  rw [minI_eq]
  obtain ⟨h1, h2, h3⟩ := foldl_min_le (n := n) (r := r)
  rcases h3 with h3 | h3
  · exact h3
  · have := (List.pairwise_cons.mp h).1 _ h3
    omega
/-- the first of the numbers below n that is so -/
theorem filter_head {p : Nat → Bool} {n : Nat} : ((List.range n).filter p).head? = (List.range n).find? p := by rw [List.head?_filter]
theorem filter_pair {p : Nat → Bool} {n : Nat} : ((List.range n).filter p).Pairwise (· < ·) := List.pairwise_lt_range.filter _
end Dl

set_option Elab.async false
set_option linter.all false
set_option maxRecDepth 100000
set_option maxHeartbeats 8000000
/-! the data layer, part 41: a def that refuses by itself: if c: raise BadArgument(constant) -/
namespace Dl
open PySem PySem.Spec PyProof.Rows L2
section
variable {P : Program} {w : World} {K : PySem.W.Frag} {mg : Str → Option Value} {base : Heap} {W : Wd} {Γ : Gam} {k : Nat} {C fI : Addr} {fdI : FuncData}
/-- refused by the name n just if c is so -/
def sgRefuse (Γ : Gam) (N : List Str) (c : E) (n : Str) : Sig where
  ps := N
  row := false
  kws := []
  sp := fun ds Q X => ds.length = N.length ∧ wpT Γ c (rho0 N.length false ds) (fun b => if b = true then X n else Q .none) (fun _ => False)
theorem ok_refuse {st : Stmt} {f : Addr} {fd : FuncData} {m j : Nat} {p3 p5 p6 p7 : Pos} {nm : Str} {N : List Str} {c : E} {n : Str} {cx : Expr} {jn : Nat} {p4 : Pos} (hW : mg = W.mg) (hK : K = W.K) (G : Glb P w K mg base W Γ k) (F : Fun K nm nm st f fd) (S : FnScope N N (defScope st)) (T : ErrTxt K mg C fI)
    (FI : FnOk P w K mg base (L2.CX P w) j fI fdI ["self", "name"] (spInit C)) (bI : Binds K fdI ["self", "name"] []) (hg : (defScope st).names.lookup ("BadArgument" : Str) = some .globalImplicit)
    (hb : defBody st = [.If cx [.Raise (some (.Call (.Name "BadArgument" p3) [.Constant (.str n) jn p4] [] p5)) none p6] [] p7]) (hc : chkT N (defScope st) false c cx = true) (hn : chkE N (defScope st) false (.cst (.str n)) (.Constant (.str n) jn p4) = true) (hsn : PyData.strOk n = true) (hm : k ≤ m) (hj : j + 1 ≤ m) :
    FnOk P w K mg base (L2.CX P w) (m + 1) f fd N (spV W (sgRefuse Γ N c n)) := by
  refine F.okX S (fun vs H Q E h => ?_) fun cdv A outer s H vs Q E hr h => ⟨tIfS (tT W Γ E c) (fun _ σ H => tMkO C (spInit C) [] (tCons (tE W Γ E (.cst (.str n))) tNil) σ H fun cls d H' => E cls d H') tNext, ?_, ?_⟩
  · obtain ⟨F0, ds, ws, Qd, Xd, f1, g1, rfl, d1, ⟨hl, _⟩, _⟩ := h
    have := d1.length
    show vs.length = N.length
    omega
  · rw [hb]
    have C1 : CtxS W Γ k E N (defScope st) false (cxOf (L2.CX P w) P w K mg base N nm (defScope st) f cdv A outer s H E) := ctx_of G S hm hr
    have ht := sndT (W := W) (Γ := Γ) (k := k) c C1.ok cx hc
    have hn' := (snd (W := W) (Γ := Γ) (k := k) (.cst (.str n)) C1.ok (.Constant (.str n) jn p4) hn).e rfl
    have hr2 : Room (j + 1) (cxOf (L2.CX P w) P w K mg base N nm (defScope st) f cdv A outer s H E).A := hr.mono hj
    exact pss_one (ps_if ht (pss_one (ps_raise rfl (takes_of (E := E) rfl rfl rfl rfl) (pmk_oex (X := cxOf (L2.CX P w) P w K mg base N nm (defScope st) f cdv A outer s H E) (dvs := []) (ds := []) T.oex T.iC T.tI FI hr2 bI .nil passNo hg T.gC (pa_cons hn' pa_nil rfl)))) pss_nil)
  · obtain ⟨F0, ds, ws, Qd, Xd, f1, g1, rfl, d1, ⟨hl, hw⟩, h4, h5⟩ := h
    have s0 : St W F0 (rho0 N.length false ds) (L2.start N vs) H := St.start (N := N) (row := false) f1 g1 d1
    refine ⟨F0, rho0 N.length false ds, (fun b => if b = true then Xd n else Qd .none), fun _ => False, s0, hw, fun t F' H' e ht => ?_, fun _ _ _ _ _ _ _ z => z.elim⟩
    cases t with
    | false =>
      rw [if_neg Bool.false_ne_true] at ht ⊢
      exact h4 .none .non F' H' e .non ht
    | true =>
      rw [if_pos rfl] at ht ⊢
      refine ⟨F', rho0 N.length false ds, fun d' => d' = .str n, fun _ => False, s0.ext e, rfl, fun d' v F2 H2 e2 r hd' => ?_, fun _ _ _ _ _ _ _ z => z.elim⟩
      subst hd'
      cases r
      refine ⟨by simp, fun a n1 => ⟨a, _, rfl, upd_same, fun dx n2 ne => ⟨rfl, dx, _, upd_same, by rw [upd_ne ne, upd_same], ?_, ?_⟩⟩⟩
      · rwa [upd_ne ne] at n2
      · rw [upd_ne ne] at n2
        rw [del_put' n1 ne]
        refine h5 n _ _ F2 _ ((e.trans e2).trans (Ext.new e2.ok e2.gd n2)) ⟨C, dx, ?_, rfl, rfl, upd_same, hsn⟩ ht
        rw [← hW]; exact T.gC
end
end Dl

set_option Elab.async false
set_option linter.all false
set_option maxRecDepth 100000
set_option maxHeartbeats 8000000
/-! the data layer, part 42: rows of things of a kind, compared; walks over rows of data -/
namespace Dl
open PySem PySem.Spec PyProof.Rows L2
theorem con_str {mg : Str → Option Value} {W : Wd} {x y : Str} {t : Tok} (h : mg x = some (.str y t)) (hk : PyData.strOk y = true) : ConAt mg W x (.str y) := ⟨_, .str y, h, ⟨t, rfl⟩, fun _ => .str y hk⟩
theorem eqvAll_map {α : Type} [DecidableEq α] {c : α → PyData} (hc : ∀ a b, PyData.eqv (c a) (c b) = decide (a = b)) : ∀ {xs ys : List α}, PyData.eqvAll (xs.map c) (ys.map c) = decide (xs = ys)
  | [], [] => by simp [PyData.eqvAll]
  | [], _ :: _ => by simp [PyData.eqvAll]
  | _ :: _, [] => by simp [PyData.eqvAll]
  | x :: r, y :: s => by
    simp only [List.map_cons, PyData.eqvAll, hc, eqvAll_map hc (xs := r) (ys := s), List.cons.injEq]
    by_cases h1 : x = y <;> by_cases h2 : r = s <;> simp [h1, h2]
theorem eqv_lmap {α : Type} [DecidableEq α] {c : α → PyData} (hc : ∀ a b, PyData.eqv (c a) (c b) = decide (a = b)) {xs ys : List α} : PyData.eqv (.list (xs.map c)) (.list (ys.map c)) = decide (xs = ys) := eqvAll_map hc
theorem eqv_tmap {α : Type} [DecidableEq α] {c : α → PyData} (hc : ∀ a b, PyData.eqv (c a) (c b) = decide (a = b)) {xs ys : List α} : PyData.eqv (.tuple (xs.map c)) (.tuple (ys.map c)) = decide (xs = ys) := eqvAll_map hc
theorem depthAll_map {α : Type} {c : α → PyData} {k : Nat} (h : ∀ a, (c a).depth ≤ k) : ∀ {xs : List α}, PyData.depthAll (xs.map c) ≤ k
  | [] => Nat.zero_le _
  | x :: r => by
    simp only [List.map_cons, PyData.depthAll]
    exact Nat.max_le.mpr ⟨h x, depthAll_map h⟩
theorem cmp_eq_lmap {α : Type} [DecidableEq α] {c : α → PyData} {k : Nat} (hc : ∀ a b, PyData.eqv (c a) (c b) = decide (a = b)) (hd : ∀ a, (c a).depth ≤ k) (hk : k < 60) {xs ys : List α} : cmpSem .Eq (.list (xs.map c)) (.list (ys.map c)) = some (decide (xs = ys)) := by
  show (if _ then _ else _) = _
  have hd' : (PyData.list (ys.map c)).depth ≤ 60 := Nat.le_trans (Nat.succ_le_succ (depthAll_map hd)) (by omega)
  rw [if_pos (dep_min hd'), eqv_lmap hc]
theorem cmp_eq_tmap {α : Type} [DecidableEq α] {c : α → PyData} {k : Nat} (hc : ∀ a b, PyData.eqv (c a) (c b) = decide (a = b)) (hd : ∀ a, (c a).depth ≤ k) (hk : k < 60) {xs ys : List α} : cmpSem .Eq (.tuple (xs.map c)) (.tuple (ys.map c)) = some (decide (xs = ys)) := by
  show (if _ then _ else _) = _
  have hd' : (PyData.tuple (ys.map c)).depth ≤ 60 := Nat.le_trans (Nat.succ_le_succ (depthAll_map hd)) (by omega)
  rw [if_pos (dep_min hd'), eqv_tmap hc]
theorem tI_depth {ns : List Int} : (tI ns).depth ≤ 1 := by
  show PyData.depthAll (ns.map .int) + 1 ≤ 1
  rw [depth_ints]; decide
/-- pairs, triples of ints as tuples -/
def pr2 (p : Int × Int) : PyData := tI [p.1, p.2]
theorem eqv_pr2 (a b : Int × Int) : PyData.eqv (pr2 a) (pr2 b) = decide (a = b) := by
  obtain ⟨a1, a2⟩ := a
  obtain ⟨b1, b2⟩ := b
  show PyData.eqv (tI [a1, a2]) (tI [b1, b2]) = _
  rw [eqv_ints.1]; simp
theorem eqv_tI (a b : List Int) : PyData.eqv (tI a) (tI b) = decide (a = b) := eqv_ints.1
/-- a for over a row of data -/
theorem forL_preD {f : PyData → Env1 → (Env1 → Prop) → Prop} {xs : List PyData} {ρ0 : Env1} {Q : Env1 → Prop} (I : List PyData → Env1 → Prop) (h0 : I [] ρ0)
    (hs : ∀ pre a post, xs = pre ++ a :: post → ∀ ρ k, I pre ρ → (∀ ρ', I (pre ++ [a]) ρ' → k ρ') → f a ρ k) (hd : ∀ ρ, I xs ρ → Q ρ) : forL f xs ρ0 Q := by
  have := forL_pre (c := id) (f := f) (xs := xs) (Q := Q) I h0 hs hd
  rwa [List.map_id] at this
theorem enum_tI {ns : List Int} : enumL (ns.map .int) = (List.range ns.length).map fun (i : Nat) => PyData.tuple [.int (i : Int), .int (at0 ns i 0)] := by
  rw [enum_ints (d := 0)]
  apply List.map_congr_left
  intro i hi
  rfl
theorem enum_map {α : Type} {c : α → PyData} {d : α} {xs : List α} : enumL (xs.map c) = (List.range xs.length).map fun (i : Nat) => PyData.tuple [.int (i : Int), c (at0 xs i d)] := by
  apply List.ext_getElem?
  intro i
  by_cases h : i < xs.length
  · rw [enumL_get (d := c xs[i]) (by rw [List.getElem?_map, List.getElem?_eq_getElem h]; rfl), List.getElem?_map, List.getElem?_range h]
    show some _ = some (PyData.tuple [.int (i : Int), c (at0 xs i d)])
    rw [at0_of h]
  · rw [List.getElem?_eq_none (by rw [enumL_len, List.length_map]; omega), List.getElem?_eq_none (by simp; omega)]
theorem take_snoc {α : Type} {ns : List α} {i : Nat} {d : α} (h : i < ns.length) : ns.take (i + 1) = ns.take i ++ [at0 ns i d] := by
  rw [List.take_succ, List.getElem?_eq_getElem h, at0_of h]; rfl
theorem filterMap_b {α β : Type} {p : α → Bool} {c : α → β} {l : List α} : (l.filterMap fun i => if p i = true then some (c i) else none) = (l.filter p).map c := by
  induction l with
  | nil => rfl
  | cons a l ih =>
    rw [List.filterMap_cons, List.filter_cons]
    cases h : p a with
    | true => simp [ih]
    | false => simpa using ih
theorem rep_t {d : PyData} {n : Nat} (h : n ≤ 1000) : binSem .Mult (.tuple [d]) (.int (n : Int)) = some (.tuple (List.replicate n d)) := by
  show (if _ then _ else _) = _
  rw [if_pos ⟨by simp, by simp, by omega, by omega⟩, Int.toNat_natCast, rep_flat]
theorem ixN_nat {n j : Nat} (h : j < n) : ixN n (j : Int) = some j := by
  unfold ixN
  rw [if_pos (by omega), if_pos (by omega)]
  simp
theorem min_ints {ns : List Int} (h : 0 < ns.length) : ∃ M, bltSem .min [lI ns] = some (.int M) ∧ bltSem .min [tI ns] = some (.int M) ∧ M ∈ ns ∧ ∀ x ∈ ns, M ≤ x := by
  cases ns with
  | nil => simp at h
  | cons a r =>
    have e : intsOf (PyData.int a :: r.map .int) = some (a :: r) := intsOf_map (a :: r)
    refine ⟨minI a r, by show bltSem .min [.list (PyData.int a :: r.map .int)] = _; simp only [bltSem, bestSem, seqD, Option.bind_some, e], by show bltSem .min [.tuple (PyData.int a :: r.map .int)] = _; simp only [bltSem, bestSem, seqD, Option.bind_some, e], ?_⟩
    rw [minI_eq]
    obtain ⟨h1, h2, h3⟩ := foldl_min_le (n := a) (r := r)
    refine ⟨?_, fun x hx => ?_⟩
    · rcases h3 with h3 | h3
      · rw [h3]; exact List.mem_cons_self
      · exact List.mem_cons_of_mem _ h3
    · rcases List.mem_cons.mp hx with rfl | hx
      · exact h1
      · exact h2 x hx
theorem foldl_max_le : ∀ {r : List Int} {n : Int}, n ≤ r.foldl max n ∧ (∀ x ∈ r, x ≤ r.foldl max n) ∧ (r.foldl max n = n ∨ r.foldl max n ∈ r)
  | [], n => ⟨Int.le_refl _, fun _ h => (by cases h), .inl rfl⟩
  | a :: r, n => by
    obtain ⟨h1, h2, h3⟩ := foldl_max_le (r := r) (n := max n a)
    refine ⟨by simp only [List.foldl_cons]; omega, fun x hx => ?_, ?_⟩
    · rcases List.mem_cons.mp hx with rfl | hx
      · simp only [List.foldl_cons]; omega
      · exact h2 x hx
    · rcases h3 with h3 | h3
      · simp only [List.foldl_cons]
        rcases Int.le_total n a with h | h
        · right; rw [h3, Int.max_eq_right h]; exact List.mem_cons_self
        · left; rw [h3, Int.max_eq_left h]
      · exact .inr (List.mem_cons_of_mem _ h3)
theorem max_ints {ns : List Int} (h : 0 < ns.length) : ∃ M, bltSem .max [lI ns] = some (.int M) ∧ bltSem .max [tI ns] = some (.int M) ∧ M ∈ ns ∧ ∀ x ∈ ns, x ≤ M := by
  cases ns with
  | nil => simp at h
  | cons a r =>
    have e : intsOf (PyData.int a :: r.map .int) = some (a :: r) := intsOf_map (a :: r)
    refine ⟨maxI a r, by show bltSem .max [.list (PyData.int a :: r.map .int)] = _; simp only [bltSem, bestSem, seqD, Option.bind_some, e], by show bltSem .max [.tuple (PyData.int a :: r.map .int)] = _; simp only [bltSem, bestSem, seqD, Option.bind_some, e], ?_⟩
    rw [maxI_eq]
    obtain ⟨h1, h2, h3⟩ := foldl_max_le (r := r) (n := a)
    refine ⟨?_, fun x hx => ?_⟩
    · rcases h3 with h3 | h3
      · rw [h3]; exact List.mem_cons_self
      · exact List.mem_cons_of_mem _ h3
    · rcases List.mem_cons.mp hx with rfl | hx
      · exact h1
      · exact h2 x hx
theorem setSort_ints {ns : List Int} (h : ns.length < 64) : spSem .setSort (lI ns) = some (lI (sortI (nub ns))) ∧ spSem .setSort (tI ns) = some (lI (sortI (nub ns))) := by
  have e : intsOf (ns.map PyData.int) = some ns := intsOf_map ns
  constructor
  · show setSortSem (.list (ns.map .int)) = _
    unfold setSortSem
    rw [seqD_list, Option.bind_some, e]
    exact if_pos h
  · show setSortSem (.tuple (ns.map .int)) = _
    unfold setSortSem
    rw [seqD_tuple, Option.bind_some, e]
    exact if_pos h
/-- sorted, sorted(set) of tuples of ints -/
theorem sorted_tups {ts : List (List Int)} (h : ts.length < 64) (ho : okT ts = true) : bltSem .sorted [.list (ts.map tI)] = some (.list ((sortT ts).map tI)) := by
  show sortedSem (ts.map tI) = _
  unfold sortedSem
  cases ts with
  | nil => rfl
  | cons t r =>
    have e1 : intsOf ((t :: r).map tI) = none := rfl
    have e2 : tupsOf ((t :: r).map tI) = some (t :: r) := tupsOf_map (t :: r)
    rw [e1]
    show (tupsOf _).bind _ = _
    rw [e2, Option.bind_some]
    exact if_pos ⟨h, ho⟩
theorem setSort_tups {ts : List (List Int)} (h : ts.length < 64) (ho : okT ts = true) : spSem .setSort (.list (ts.map tI)) = some (.list ((sortT (nub ts)).map tI)) := by
  show setSortSem (.list (ts.map tI)) = _
  unfold setSortSem
  rw [seqD_list, Option.bind_some]
  cases ts with
  | nil => rfl
  | cons t r =>
    have e1 : intsOf ((t :: r).map tI) = none := rfl
    have e2 : tupsOf ((t :: r).map tI) = some (t :: r) := tupsOf_map (t :: r)
    rw [e1]
    show (tupsOf _).bind _ = _
    rw [e2, Option.bind_some]
    exact if_pos ⟨h, ho⟩
/-- in, over rows of things of a kind -/
theorem any_lmap {α : Type} [DecidableEq α] {c : α → PyData} (hc : ∀ a b, PyData.eqv (c a) (c b) = decide (a = b)) {xs : List α} {a : α} : ((xs.map c).any fun z => PyData.eqv z (c a)) = decide (a ∈ xs) := by
  rw [Bool.eq_iff_iff, decide_eq_true_eq, List.any_eq_true]
  constructor
  · rintro ⟨z, hz, e⟩
    obtain ⟨b, hb, rfl⟩ := List.mem_map.mp hz
    rw [hc, decide_eq_true_eq] at e
    exact e ▸ hb
  · intro h
    exact ⟨c a, List.mem_map.mpr ⟨a, h, rfl⟩, by rw [hc]; simp⟩
theorem in_lmap {α : Type} [DecidableEq α] {c : α → PyData} {k : Nat} (hc : ∀ a b, PyData.eqv (c a) (c b) = decide (a = b)) (hd : ∀ a, (c a).depth ≤ k) (hk : k ≤ 60) {xs : List α} {a : α} : cmpSem .In (c a) (.list (xs.map c)) = some (decide (a ∈ xs)) := by
  rw [in_list (Nat.le_trans (hd a) hk), any_lmap hc]
theorem in_tmap {α : Type} [DecidableEq α] {c : α → PyData} {k : Nat} (hc : ∀ a b, PyData.eqv (c a) (c b) = decide (a = b)) (hd : ∀ a, (c a).depth ≤ k) (hk : k ≤ 60) {xs : List α} {a : α} : cmpSem .In (c a) (.tuple (xs.map c)) = some (decide (a ∈ xs)) := by
  rw [in_tuple (Nat.le_trans (hd a) hk), any_lmap hc]
theorem notin_lmap {α : Type} [DecidableEq α] {c : α → PyData} {k : Nat} (hc : ∀ a b, PyData.eqv (c a) (c b) = decide (a = b)) (hd : ∀ a, (c a).depth ≤ k) (hk : k ≤ 60) {xs : List α} {a : α} : cmpSem .NotIn (c a) (.list (xs.map c)) = some (!decide (a ∈ xs)) := by
  rw [notin_list (Nat.le_trans (hd a) hk), any_lmap hc]
theorem notin_tmap {α : Type} [DecidableEq α] {c : α → PyData} {k : Nat} (hc : ∀ a b, PyData.eqv (c a) (c b) = decide (a = b)) (hd : ∀ a, (c a).depth ≤ k) (hk : k ≤ 60) {xs : List α} {a : α} : cmpSem .NotIn (c a) (.tuple (xs.map c)) = some (!decide (a ∈ xs)) := by
  rw [notin_tuple (Nat.le_trans (hd a) hk), any_lmap hc]
theorem setLen_ints {ns : List Int} (h : ns.length < 4000) : spSem .setLen (lI ns) = some (.int (nub ns).length) ∧ spSem .setLen (tI ns) = some (.int (nub ns).length) := by
  have e : intsOf (ns.map PyData.int) = some ns := intsOf_map ns
  constructor
  · show lenSetSem (.list (ns.map .int)) = _
    unfold lenSetSem
    rw [seqD_list, Option.bind_some, e]
    exact if_pos h
  · show lenSetSem (.tuple (ns.map .int)) = _
    unfold lenSetSem
    rw [seqD_tuple, Option.bind_some, e]
    exact if_pos h
/-- all the same: without those that come again there is one at most -/
theorem nub_one {ns : List Int} : (nub ns).length ≤ 1 ↔ ∀ x ∈ ns, ∀ y ∈ ns, x = y := by
  constructor
  · intro h x hx y hy
    have hx := mem_nub.mpr hx
    have hy := mem_nub.mpr hy
    match e : nub ns with
    | [] => rw [e] at hx; cases hx
    | [a] => rw [e] at hx hy; rw [List.mem_singleton.mp hx, List.mem_singleton.mp hy]
    | a :: b :: r => rw [e] at h; simp at h
  · intro h
    match e : nub ns with
    | [] => simp
    | [a] => simp
    | a :: b :: r =>
      have hn := nub_nodup ns
      rw [e] at hn
      have ha : a ∈ ns := mem_nub.mp (by rw [e]; simp)
      have hb : b ∈ ns := mem_nub.mp (by rw [e]; simp)
      have := h a ha b hb
      subst this
      simp at hn
end Dl

set_option Elab.async false
set_option linter.all false
set_option maxRecDepth 100000
set_option maxHeartbeats 8000000
/-! the data layer, part 43: texts by their signs; numbers as texts of digits -/
namespace Dl
open PySem PySem.Spec PyProof.Rows L2
/-- a text by its signs -/
def Sx (cs : List Nat) : Str := ⟨cs.toArray⟩
def sD (cs : List Nat) : PyData := .str (Sx cs)
theorem Sx_list {cs : List Nat} : (Sx cs).cps.toList = cs := by simp [Sx]
theorem Sx_of (x : Str) : x = Sx x.cps.toList := by
  obtain ⟨⟨l⟩⟩ := x
  rfl
theorem Sx_inj {a b : List Nat} (h : Sx a = Sx b) : a = b := by
  have := congrArg (fun x : Str => x.cps.toList) h
  simpa [Sx] using this
theorem Sx_len {cs : List Nat} : (Sx cs).length = cs.length := by
  show (Sx cs).cps.size = _
  simp [Sx]
theorem Sx_app {a b : List Nat} : Sx a ++ Sx b = Sx (a ++ b) := by
  show (⟨(Sx a).cps ++ (Sx b).cps⟩ : Str) = _
  simp [Sx]
theorem Sx_ok {cs : List Nat} : PyData.strOk (Sx cs) = true ↔ ∀ c ∈ cs, c < 0x110000 := by rw [strOk_iff, Sx_list]
def okC (cs : List Nat) : Prop := ∀ c ∈ cs, c < 0x110000
@[simp] theorem eqv_sD {a b : List Nat} : PyData.eqv (sD a) (sD b) = decide (a = b) := by
  show ((Sx a) == (Sx b)) = _
  rw [Bool.eq_iff_iff, beq_iff_eq, decide_eq_true_eq]
  exact ⟨Sx_inj, fun h => by rw [h]⟩
theorem sD_depth {a : List Nat} : (sD a).depth ≤ 0 := Nat.le_refl _
@[simp] theorem cmp_eq_sD {a b : List Nat} : cmpSem .Eq (sD a) (sD b) = some (decide (a = b)) := by
  show (if min (sD a).depth (sD b).depth ≤ 60 then some (PyData.eqv (sD a) (sD b)) else none) = _
  rw [if_pos (dep_min (Nat.le_trans sD_depth (by decide))), eqv_sD]
@[simp] theorem cmp_ne_sD {a b : List Nat} : cmpSem .NotEq (sD a) (sD b) = some (!decide (a = b)) := by
  show (if min (sD a).depth (sD b).depth ≤ 60 then some (!PyData.eqv (sD a) (sD b)) else none) = _
  rw [if_pos (dep_min (Nat.le_trans sD_depth (by decide))), eqv_sD]
theorem cat_sD {a b : List Nat} (h : a.length + b.length ≤ 16777216) : binSem .Add (sD a) (sD b) = some (sD (a ++ b)) := by
  show (if _ then _ else _) = _
  rw [if_pos (by rw [Sx_len, Sx_len]; exact h), Sx_app]; rfl
theorem len_sD {a : List Nat} (h : a.length ≤ 16777216) : bltSem .len [sD a] = some (.int (a.length : Nat)) := by
  show (if _ then _ else _) = _
  rw [if_pos (by rw [Sx_len]; exact h), Sx_len]
theorem in_sign {c : Nat} {cs : List Nat} : cmpSem .In (sD [c]) (sD cs) = some (decide (c ∈ cs)) := by
  show (oneCh (Sx [c])).map (fun z => decide (z ∈ (Sx cs).cps.toList)) = _
  show some (decide (c ∈ (Sx cs).cps.toList)) = _
  rw [Sx_list]
theorem notin_sign {c : Nat} {cs : List Nat} : cmpSem .NotIn (sD [c]) (sD cs) = some (!decide (c ∈ cs)) := by
  show (inSem (sD [c]) (sD cs)).map (!·) = _
  have : inSem (sD [c]) (sD cs) = some (decide (c ∈ cs)) := in_sign
  rw [this]; rfl
theorem signs_sD {cs : List Nat} : signsD (Sx cs) = cs.map fun c => sD [c] := by
  unfold signsD
  rw [Sx_list]; rfl
theorem ix_sD {cs : List Nat} {i : Nat} {d : Nat} (h : i < cs.length) (hl : cs.length ≤ 16777216) (ho : okC cs) : ixSem (sD cs) (.int (i : Nat)) = some (sD [at0 cs i d]) := by
  show (if _ then _ else _) = _
  rw [if_pos ⟨by rw [Sx_len]; exact hl, Sx_ok.mpr ho⟩, Sx_list]
  have e : atI cs (i : Int) = some cs[i] := by
    unfold atI ixN
    rw [if_pos (by omega), if_pos (by omega)]
    exact List.getElem?_eq_getElem h
  rw [e, at0_of h]; rfl
theorem cutS_to {cs : List Nat} {k : Nat} : cutS (Sx cs) none (some (k : Int)) = Sx (cs.take k) := by
  unfold cutS
  rw [Sx_list, Sx_len, HT.sIx_none, HT.sIx_nat, List.drop_zero, Nat.sub_zero]
  congr 1
  by_cases h : k ≤ cs.length
  · rw [Nat.min_eq_left h]
  · rw [Nat.min_eq_right (by omega), List.take_of_length_le (Nat.le_refl _), List.take_of_length_le (by omega)]
theorem cutS_from {cs : List Nat} {k : Nat} : cutS (Sx cs) (some (k : Int)) none = Sx (cs.drop k) := by
  unfold cutS
  rw [Sx_list, Sx_len, HT.sIx_none, HT.sIx_nat]
  congr 1
  by_cases h : k ≤ cs.length
  · rw [Nat.min_eq_left h, List.take_of_length_le (by rw [List.length_drop]; exact Nat.le_refl _)]
  · rw [Nat.min_eq_right (by omega), List.drop_eq_nil_of_le (Nat.le_refl _), List.drop_eq_nil_of_le (by omega)]
    simp
theorem cutS_mid {cs : List Nat} {i j : Nat} : cutS (Sx cs) (some (i : Int)) (some (j : Int)) = Sx ((cs.drop i).take (j - i)) := by
  unfold cutS
  rw [Sx_list, Sx_len, HT.sIx_nat, HT.sIx_nat]
  congr 1
  by_cases h : i ≤ cs.length
  · rw [Nat.min_eq_left h]
    by_cases h2 : j ≤ cs.length
    · rw [Nat.min_eq_left h2]
    · rw [Nat.min_eq_right (by omega), List.take_of_length_le (by rw [List.length_drop]; exact Nat.le_refl _), List.take_of_length_le (by rw [List.length_drop]; omega)]
  · rw [show min i cs.length = cs.length from Nat.min_eq_right (by omega), List.drop_length, List.drop_eq_nil_of_le (show cs.length ≤ i by omega)]
    simp
section
variable {cs : List Nat} {i j k : Nat} (hl : cs.length ≤ 16777216) (ho : okC cs)
include hl ho
theorem sl_to : slSem none (some (k : Int)) (sD cs) = some (sD (cs.take k)) := by
  show (if _ then _ else _) = _
  rw [if_pos ⟨by rw [Sx_len]; exact hl, Sx_ok.mpr ho⟩, cutS_to]; rfl
theorem sl_from : slSem (some (k : Int)) none (sD cs) = some (sD (cs.drop k)) := by
  show (if _ then _ else _) = _
  rw [if_pos ⟨by rw [Sx_len]; exact hl, Sx_ok.mpr ho⟩, cutS_from]; rfl
theorem sl_mid : slSem (some (i : Int)) (some (j : Int)) (sD cs) = some (sD ((cs.drop i).take (j - i))) := by
  show (if _ then _ else _) = _
  rw [if_pos ⟨by rw [Sx_len]; exact hl, Sx_ok.mpr ho⟩, cutS_mid]; rfl
end
theorem rep_sD {cs : List Nat} {k : Nat} (h : cs.length ≤ 1000) (hk : k ≤ 1000) : binSem .Mult (sD cs) (.int (k : Nat)) = some (sD (List.replicate k cs).flatten) := by
  show (if _ then _ else _) = _
  rw [if_pos ⟨by rw [Sx_len]; exact h, by omega, by omega⟩, Sx_of (strRep _ _), strRep_list, Sx_list, Int.toNat_natCast]; rfl
/-! ### numbers -/
/-- the last k digits of a number -/
def digs : Nat → Nat → List Nat
  | 0, _ => []
  | k + 1, n => digs k (n / 10) ++ [n % 10]
def numL (ds : List Nat) : Nat := ds.foldl (fun a d => a * 10 + d) 0
theorem numL_snoc {ds : List Nat} {d : Nat} : numL (ds ++ [d]) = numL ds * 10 + d := by unfold numL; rw [List.foldl_append]; rfl
theorem digs_len : ∀ {k n : Nat}, (digs k n).length = k
  | 0, _ => rfl
  | k + 1, n => by show (digs k (n / 10) ++ [n % 10]).length = _; rw [List.length_append, digs_len]; rfl
theorem digs_lt : ∀ {k n : Nat}, ∀ d ∈ digs k n, d < 10
  | 0, _, d, h => by cases h
  | k + 1, n, d, h => by
    rcases List.mem_append.mp h with h | h
    · exact digs_lt d h
    · rw [List.mem_singleton.mp h]; exact Nat.mod_lt _ (by decide)
theorem num_digs : ∀ {k n : Nat}, n < 10 ^ k → numL (digs k n) = n
  | 0, n, h => by simp at h; subst h; rfl
  | k + 1, n, h => by
    show numL (digs k (n / 10) ++ [n % 10]) = n
    rw [numL_snoc, num_digs (by rw [Nat.pow_succ] at h; omega)]
    omega
theorem digs_num : ∀ {k : Nat} {ds : List Nat}, ds.length = k → (∀ d ∈ ds, d < 10) → digs k (numL ds) = ds := by
  intro k
  induction k with
  | zero => intro ds h _; rw [List.eq_nil_of_length_eq_zero h]; rfl
  | succ k ih =>
    intro ds h hd
    rcases List.eq_nil_or_concat ds with rfl | ⟨r, d, rfl⟩
    · simp at h
    · rw [List.concat_eq_append] at h hd ⊢
      have hd1 := hd d (by simp)
      show digs k (numL (r ++ [d]) / 10) ++ [numL (r ++ [d]) % 10] = _
      rw [numL_snoc, show (numL r * 10 + d) / 10 = numL r by omega, show (numL r * 10 + d) % 10 = d by omega, ih (by simpa using h) fun x hx => hd x (by simp [hx])]
theorem num_lt : ∀ {k : Nat} {ds : List Nat}, ds.length = k → (∀ d ∈ ds, d < 10) → numL ds < 10 ^ k := by
  intro k
  induction k with
  | zero => intro ds h _; rw [List.eq_nil_of_length_eq_zero h]; decide
  | succ k ih =>
    intro ds h hd
    rcases List.eq_nil_or_concat ds with rfl | ⟨r, d, rfl⟩
    · simp at h
    · rw [List.concat_eq_append] at h hd ⊢
      have hd1 := hd d (by simp)
      have := ih (ds := r) (by simpa using h) fun x hx => hd x (by simp [hx])
      rw [numL_snoc, Nat.pow_succ]
      omega
theorem numL_app {a : List Nat} : ∀ {b : List Nat}, numL (a ++ b) = numL a * 10 ^ b.length + numL b := by
  intro b
  induction hn : b.length generalizing b with
  | zero => rw [List.eq_nil_of_length_eq_zero hn]; simp [numL]
  | succ k ih =>
    rcases List.eq_nil_or_concat b with rfl | ⟨r, d, rfl⟩
    · simp at hn
    · rw [List.concat_eq_append] at hn ⊢
      rw [← List.append_assoc, numL_snoc, numL_snoc, ih (b := r) (by simpa using hn), Nat.pow_succ, Nat.add_mul, Nat.mul_assoc]
      omega
theorem digs_app : ∀ {k j a b : Nat}, b < 10 ^ k → digs (j + k) (a * 10 ^ k + b) = digs j a ++ digs k b
  | 0, j, a, b, h => by simp at h; subst h; simp [digs]
  | k + 1, j, a, b, h => by
    show digs (j + k) ((a * 10 ^ (k + 1) + b) / 10) ++ [(a * 10 ^ (k + 1) + b) % 10] = digs j a ++ (digs k (b / 10) ++ [b % 10])
    have e : a * 10 ^ (k + 1) = (a * 10 ^ k) * 10 := by rw [Nat.pow_succ, Nat.mul_assoc]
    rw [e, show (a * 10 ^ k * 10 + b) / 10 = a * 10 ^ k + b / 10 by omega, show (a * 10 ^ k * 10 + b) % 10 = b % 10 by omega, digs_app (by rw [Nat.pow_succ] at h; omega), List.append_assoc]
/-- signs of digits -/
def dC (ds : List Nat) : List Nat := ds.map (48 + ·)
theorem dC_len {ds : List Nat} : (dC ds).length = ds.length := by unfold dC; rw [List.length_map]
theorem dC_app {a b : List Nat} : dC (a ++ b) = dC a ++ dC b := List.map_append
theorem dC_ok {ds : List Nat} (h : ∀ d ∈ ds, d < 10) : okC (dC ds) := fun c hc => by
  obtain ⟨d, hd, rfl⟩ := List.mem_map.mp hc
  have := h d hd
  omega
theorem dC_inj {a b : List Nat} (h : dC a = dC b) : a = b := by
  have := congrArg (List.map (· - 48)) h
  simpa [dC, List.map_map, Function.comp_def] using this
theorem dC_all {ds : List Nat} (h : ∀ d ∈ ds, d < 10) : NumText.AllDigits (dC ds) := fun c hc => by
  obtain ⟨d, hd, rfl⟩ := List.mem_map.mp hc
  have := h d hd
  omega
theorem dC_val {ds : List Nat} : NumText.digitsVal (dC ds) = numL ds := by
  unfold NumText.digitsVal numL dC
  rw [List.foldl_map]
  congr 1
  funext a d
  rw [Nat.add_sub_cancel_left]
theorem dC_of {cs : List Nat} (h : ∀ c ∈ cs, 48 ≤ c ∧ c ≤ 57) : ∃ ds, cs = dC ds ∧ ∀ d ∈ ds, d < 10 := by
  refine ⟨cs.map (· - 48), ?_, fun d hd => ?_⟩
  · unfold dC
    rw [List.map_map]
    conv => lhs; rw [← List.map_id cs]
    refine List.map_congr_left fun c hc => ?_
    have := h c hc
    show c = 48 + (c - 48)
    omega
  · obtain ⟨c, hc, rfl⟩ := List.mem_map.mp hd
    have := h c hc
    omega
theorem int_dC {ds : List Nat} (h : ∀ d ∈ ds, d < 10) (h1 : ds ≠ []) (h2 : ds.length ≤ 640) : bltSem .int [sD (dC ds)] = some (.int (numL ds : Nat)) := by
  show (if _ then _ else _) = _
  rw [if_pos (by rw [Sx_len, dC_len]; exact h2)]
  have := PySem.intText_digits (x := Sx (dC ds)) (by rw [Sx_list]; exact dC_all h) (by rw [Sx_list]; intro z; apply h1; unfold dC at z; exact List.map_eq_nil_iff.mp z) (by rw [Sx_len, dC_len]; omega)
  rw [this, Sx_list, dC_val]; rfl
/-- the digits of a number as it is written -/
def wr (n : Nat) : List Nat := ((PySem.Str.ofString (toString ((n : Nat) : Int))).cps.toList).map (· - 48)
theorem str_wr {n : Nat} (h : n < 10 ^ 500) : bltSem .str [.int (n : Nat)] = some (sD (PySem.Str.ofString (toString ((n : Nat) : Int))).cps.toList) := by
  show (if _ then _ else _) = _
  rw [if_pos ?_, Sx_of (PySem.Str.ofString _)]
  · rw [Sx_list]; rfl
  · by_cases h0 : n = 0
    · subst h0; decide
    · have e : ((n : Int).natAbs) = n := Int.natAbs_natCast n
      rw [e]
      refine (Nat.log2_lt h0).mpr (Nat.lt_of_lt_of_le h ?_)
      calc (10 : Nat) ^ 500 ≤ 16 ^ 475 := by decide +kernel
        _ = 2 ^ (4 * 475) := by rw [Nat.pow_mul]
        _ ≤ 2 ^ 1920 := Nat.pow_le_pow_right (by decide) (by decide)
theorem drop_zeros : ∀ (cs : List Nat), ∃ k, cs = List.replicate k 48 ++ cs.dropWhile (· == 48)
  | [] => ⟨0, rfl⟩
  | c :: r => by
    by_cases h : c = 48
    · obtain ⟨k, hk⟩ := drop_zeros r
      subst h
      refine ⟨k + 1, ?_⟩
      rw [List.dropWhile_cons, if_pos (by decide), List.replicate_succ, List.cons_append, ← hk]
    · refine ⟨0, ?_⟩
      rw [List.dropWhile_cons, if_neg (by simpa using h)]; rfl
/-- a written number, with noughts ahead, is its digits -/
theorem wr_pad {k n : Nat} (hk : 1 ≤ k) (hn : n < 10 ^ k) : (PySem.Str.ofString (toString ((n : Nat) : Int))).cps.toList.length ≤ k ∧ List.replicate (k - (PySem.Str.ofString (toString ((n : Nat) : Int))).cps.toList.length) 48 ++ (PySem.Str.ofString (toString ((n : Nat) : Int))).cps.toList = dC (digs k n) := by
  have hall := dC_all (ds := digs k n) digs_lt
  have hv : NumText.digitsVal (dC (digs k n)) = n := by rw [dC_val, num_digs hn]
  have key := NumText.toDigits_all _ hall
  rw [hv] at key
  have hl : (dC (digs k n)).length = k := by rw [dC_len, digs_len]
  obtain ⟨z, hz⟩ := drop_zeros (dC (digs k n))
  rw [PySem.W.KIN.signs_num, key]
  cases hd : (dC (digs k n)).dropWhile (· == 48) with
  | nil =>
    rw [hd, List.append_nil] at hz
    rw [hz] at hl ⊢
    rw [List.length_replicate] at hl
    subst hl
    refine ⟨by simpa using hk, ?_⟩
    show List.replicate (z - 1) 48 ++ [48] = _
    obtain ⟨y, rfl⟩ : ∃ y, z = y + 1 := ⟨z - 1, by omega⟩
    rw [Nat.add_sub_cancel, List.replicate_succ']
  | cons c r =>
    rw [hd] at hz
    have e : ((c :: r).map Char.ofNat).map Char.toNat = c :: r := by
      rw [List.map_map]
      conv => rhs; rw [← List.map_id (c :: r)]
      refine List.map_congr_left fun x hx => ?_
      have := hall x (by rw [hz]; exact List.mem_append_right _ hx)
      show (Char.ofNat x).toNat = x
      have hv : x.isValidChar := .inl (by omega)
      simp [Char.ofNat, hv, Char.toNat, Char.ofNatAux]
    show ((c :: r).map Char.ofNat |>.map Char.toNat).length ≤ k ∧ _
    have hlen : z + (c :: r).length = k := by
      have := congrArg List.length hz
      rw [hl, List.length_append, List.length_replicate] at this
      omega
    refine ⟨by rw [e]; omega, ?_⟩
    show List.replicate (k - ((c :: r).map Char.ofNat |>.map Char.toNat).length) 48 ++ ((c :: r).map Char.ofNat |>.map Char.toNat) = _
    rw [e, show k - (c :: r).length = z by omega]
    exact hz.symm
theorem wr_digits {n : Nat} : ∀ c ∈ (PySem.Str.ofString (toString ((n : Nat) : Int))).cps.toList, 48 ≤ c ∧ c ≤ 57 := by
  intro c hc
  rw [PySem.W.KIN.signs_num] at hc
  obtain ⟨ch, hch, rfl⟩ := List.mem_map.mp hc
  exact digit_range (Nat.isDigit_of_mem_toDigits (by decide) (by decide) hch)
theorem zfill_wr {k n : Nat} (hk : 1 ≤ k) (hk2 : k ≤ 100) (hn : n < 10 ^ k) : spSem (.zfill k) (sD (PySem.Str.ofString (toString ((n : Nat) : Int))).cps.toList) = some (sD (dC (digs k n))) := by
  obtain ⟨h1, h2⟩ := wr_pad hk hn
  have hw := wr_digits (n := n)
  generalize (PySem.Str.ofString (toString ((n : Nat) : Int))).cps.toList = cs at h1 h2 hw
  have e : Txt.zfill (Sx cs) (k : Int) = Sx (dC (digs k n)) := by
    unfold Txt.zfill
    rw [Sx_len]
    by_cases h : (k : Int) ≤ cs.length
    · rw [if_pos h, ← h2, show k - cs.length = 0 by omega]; rfl
    · rw [if_neg h]
      have hz : zfilled (Sx cs) ((k : Int).toNat - cs.length) = Sx (List.replicate (k - cs.length) 48 ++ cs) := by
        unfold zfilled
        have hp : Builtin.Str.padded (Sx cs) ((k : Int).toNat - cs.length) 0 48 = Sx (List.replicate (k - cs.length) 48 ++ cs) := by
          rw [Sx_of (Builtin.Str.padded _ _ _ _)]
          congr 1
          simp [Builtin.Str.padded, Sx]
        split
        · rename_i hc
          exfalso
          have : (43 : Nat) ∈ cs := by
            have := Array.mem_of_getElem? hc
            simpa [Sx] using this
          have := hw _ this
          omega
        · rename_i hc
          exfalso
          have : (45 : Nat) ∈ cs := by
            have := Array.mem_of_getElem? hc
            simpa [Sx] using this
          have := hw _ this
          omega
        · exact hp
      rw [hz, h2]
  show (if _ then _ else _) = _
  rw [e, if_pos ⟨by omega, Sx_ok.mpr (dC_ok digs_lt)⟩]; rfl
end Dl

set_option Elab.async false
set_option linter.all false
set_option maxRecDepth 100000
set_option maxHeartbeats 8000000
namespace Dl
open PySem PySem.Spec PyProof.Rows L2
def top (i : Nat) : Stmt := PySem.Challenge.pw_clothlay_k17_whole_places_of_pieces.main.body.getD i (.Pass ⟨0, 0, 0, 0⟩)
abbrev s_demand : Stmt := top 3
abbrev s__law_taken : Stmt := top 26
abbrev s__law_refused : Stmt := top 28
abbrev s__law_alike : Stmt := top 29
abbrev s_law : Stmt := top 36
abbrev s_is_integer : Stmt := top 4
abbrev s_is_tuple : Stmt := top 6
abbrev s_is_rising : Stmt := top 7
abbrev s_quarter_turn : Stmt := top 18
abbrev s_is_free : Stmt := top 22
abbrev s__law_turned : Stmt := top 33
abbrev s_is_integers : Stmt := top 5
abbrev s_turned_cells : Stmt := top 19
abbrev s__law_pick : Stmt := top 27
abbrev s__law_covers : Stmt := top 34
abbrev s_is_cells : Stmt := top 15
abbrev s_looks : Stmt := top 21
abbrev s__law_cells : Stmt := top 30
abbrev s__law_cloth : Stmt := top 32
abbrev s_is_cloth : Stmt := top 16
abbrev s_is_piece : Stmt := top 17
abbrev s_covers : Stmt := top 23
abbrev s__law_piece : Stmt := top 31
abbrev s_turned : Stmt := top 20
abbrev s_places : Stmt := top 24
abbrev s__law_case : Stmt := top 35
/-- the class statement's __init__ -/
def s_init : Stmt := match top 1 with
  | .ClassDef _ _ _ b _ _ _ _ _ _ _ => b.getD 0 (.Pass ⟨0, 0, 0, 0⟩)
  | s => s
/- quarter_turn: 0 cells 1 some 2 x 3 y 4 left 5 low -/
def b_quarter_turn : SL := (.cons (.set false 1 (.lc (.tup (.cons (.un .USub (.var 3)) (.cons (.var 2) .nil))) [("x", 2), ("y", 3)] (.tup (.cons (.name 2 "x") (.cons (.name 3 "y") .nil))) (.of (.var 0)) .nil)) (.cons (.asg (.tup (.cons (.name 4 "left") (.cons (.name 5 "low") .nil))) (.tup (.cons (.blt .min (.cons (.lc (.var 2) [("x", 2), ("y", 3)] (.tup (.cons (.name 2 "x") (.cons (.name 3 "y") .nil))) (.of (.var 1)) .nil) .nil)) (.cons (.blt .min (.cons (.lc (.var 3) [("x", 2), ("y", 3)] (.tup (.cons (.name 2 "x") (.cons (.name 3 "y") .nil))) (.of (.var 1)) .nil) .nil)) .nil)))) (.cons (.ret (.blt .tuple (.cons (.blt .sorted (.cons (.lc (.tup (.cons (.bin .Sub (.var 2) (.var 4)) (.cons (.bin .Sub (.var 3) (.var 5)) .nil))) [("x", 2), ("y", 3)] (.tup (.cons (.name 2 "x") (.cons (.name 3 "y") .nil))) (.of (.var 1)) .nil) .nil)) .nil))) .nil)))
/- is_free: 0 cloth 1 cell -/
def b_is_free : SL := (.cons (.ret (.ands (.cons (.chn .LtE .Lt (.cst (.int 0)) (.idx (.var 1) (.cst (.int 0))) (.idx (.var 0) (.cst (.int 1)))) (.cons (.chn .LtE .Lt (.cst (.int 0)) (.idx (.var 1) (.cst (.int 1))) (.idx (.var 0) (.cst (.int 0)))) (.cons (.cmp .NotIn (.var 1) (.idx (.var 0) (.cst (.int 2)))) .nil))))) .nil)
/- _law_turned: 0 cells 1 quarters 2 some 3 x 4 y 5 left 6 low -/
def b__law_turned : SL := (.cons (.ife (.cmp .Eq (.var 1) (.cst (.int 0))) (.cons (.set false 2 (.blt .list (.cons (.var 0) .nil))) .nil) (.cons (.ife (.cmp .Eq (.var 1) (.cst (.int 1))) (.cons (.set false 2 (.lc (.tup (.cons (.bin .Sub (.cst (.int 0)) (.var 4)) (.cons (.var 3) .nil))) [("x", 3), ("y", 4)] (.tup (.cons (.name 3 "x") (.cons (.name 4 "y") .nil))) (.of (.var 0)) .nil)) .nil) (.cons (.ife (.cmp .Eq (.var 1) (.cst (.int 2))) (.cons (.set false 2 (.lc (.tup (.cons (.bin .Sub (.cst (.int 0)) (.var 3)) (.cons (.bin .Sub (.cst (.int 0)) (.var 4)) .nil))) [("x", 3), ("y", 4)] (.tup (.cons (.name 3 "x") (.cons (.name 4 "y") .nil))) (.of (.var 0)) .nil)) .nil) (.cons (.set false 2 (.lc (.tup (.cons (.var 4) (.cons (.bin .Sub (.cst (.int 0)) (.var 3)) .nil))) [("x", 3), ("y", 4)] (.tup (.cons (.name 3 "x") (.cons (.name 4 "y") .nil))) (.of (.var 0)) .nil)) .nil)) .nil)) .nil)) (.cons (.asg (.tup (.cons (.name 5 "left") (.cons (.name 6 "low") .nil))) (.tup (.cons (.blt .min (.cons (.lc (.var 3) [("x", 3), ("y", 4)] (.tup (.cons (.name 3 "x") (.cons (.name 4 "y") .nil))) (.of (.var 2)) .nil) .nil)) (.cons (.blt .min (.cons (.lc (.var 4) [("x", 3), ("y", 4)] (.tup (.cons (.name 3 "x") (.cons (.name 4 "y") .nil))) (.of (.var 2)) .nil) .nil)) .nil)))) (.cons (.ret (.blt .tuple (.cons (.blt .sorted (.cons (.lc (.tup (.cons (.bin .Sub (.var 3) (.var 5)) (.cons (.bin .Sub (.var 4) (.var 6)) .nil))) [("x", 3), ("y", 4)] (.tup (.cons (.name 3 "x") (.cons (.name 4 "y") .nil))) (.of (.var 2)) .nil) .nil)) .nil))) .nil)))
/- turned_cells: 0 cells 1 quarters 2 turn -/
def b_turned_cells : SL := (.cons (.for_ (.name 2 "turn") (.rng1 (.var 1)) (.cons (.set false 0 (.call "quarter_turn" none (.cons (.var 0) .nil) [] .nil)) .nil)) (.cons (.ret (.var 0)) .nil))
/- _law_covers: 0 cloth 1 piece 2 found 3 seen 4 quarters 5 cells 6 x 7 y 8 some 9 right 10 up 11 free 12 cell -/
def b__law_covers : SL := (.cons (.par2 true 2 (.lst .nil) true 3 (.lst .nil)) (.cons (.for_ (.name 4 "quarters") (.of (.dx (.lit [(1, [0]), (2, [0, 2]), (4, [0, 1, 2, 3])]) 0 (.idx (.var 1) (.cst (.int 1))))) (.cons (.set false 5 (.call "_law_turned" none (.cons (.idx (.var 1) (.cst (.int 0))) (.cons (.var 4) .nil)) [] .nil)) (.cons (.ife (.cmp .NotIn (.var 5) (.rd 3)) (.cons (.app 3 (.var 5)) (.cons (.for_ (.name 6 "x") (.rng1 (.idx (.var 0) (.cst (.int 1)))) (.cons (.for_ (.name 7 "y") (.rng1 (.idx (.var 0) (.cst (.int 0)))) (.cons (.set false 8 (.lc (.tup (.cons (.bin .Add (.var 6) (.var 9)) (.cons (.bin .Add (.var 7) (.var 10)) .nil))) [("right", 9), ("up", 10)] (.tup (.cons (.name 9 "right") (.cons (.name 10 "up") .nil))) (.of (.var 5)) .nil)) (.cons (.set false 11 (.lc (.var 12) [("cell", 12)] (.name 12 "cell") (.of (.var 8)) (.cons (.ands (.cons (.cmp .Lt (.idx (.var 12) (.cst (.int 0))) (.idx (.var 0) (.cst (.int 1)))) (.cons (.cmp .Lt (.idx (.var 12) (.cst (.int 1))) (.idx (.var 0) (.cst (.int 0)))) (.cons (.cmp .NotIn (.var 12) (.idx (.var 0) (.cst (.int 2)))) .nil)))) .nil))) (.cons (.ife (.ands (.cons (.cmp .Eq (.blt .len (.cons (.var 11) .nil)) (.blt .len (.cons (.var 8) .nil))) (.cons (.cmp .Eq (.bin .Mod (.blt .int (.cons (.var 6) .nil)) (.idx (.var 1) (.cst (.int 2)))) (.idx (.var 1) (.cst (.int 3)))) .nil))) (.cons (.app 2 (.tup (.cons (.tup (.cons (.var 4) (.cons (.var 6) (.cons (.var 7) .nil)))) (.cons (.var 8) .nil)))) .nil) .nil) .nil)))) .nil)) .nil)) .nil) .nil))) (.frz 2 (.cons (.ret (.var 2)) .nil))))
/- is_cells: 0 value 1 least 2 most 3 cell -/
def b_is_cells : SL := (.cons (.ife (.ors (.cons (.not (.call "is_tuple" none (.cons (.var 0) (.cons (.var 1) (.cons (.var 2) .nil))) [] .nil)) (.cons (.not (.blt .all (.cons (.lc (.call "is_integers" none (.cons (.var 3) (.cons (.cst (.int 2)) (.cons (.cst (.int 0)) (.cons (.glob "MOST_LENGTH") .nil)))) [] .nil) [("cell", 3)] (.name 3 "cell") (.of (.var 0)) .nil) .nil))) .nil))) (.cons (.ret (.cst (.bl false))) .nil) .nil) (.cons (.ret (.call "is_rising" none (.cons (.var 0) .nil) [] .nil)) .nil))
/- looks: 0 piece 1 found 2 seen 3 quarters 4 cells -/
def b_looks : SL := (.cons (.mut 1 (.ksn2 2)) (.cons (.for_ (.name 3 "quarters") (.of (.dx (.con "QUARTERS" [(1, [0]), (2, [0, 2]), (4, [0, 1, 2, 3])]) 0 (.idx (.var 0) (.cst (.int 1))))) (.cons (.set false 4 (.call "turned_cells" none (.cons (.idx (.var 0) (.cst (.int 0))) (.cons (.var 3) .nil)) [] .nil)) (.cons (.ife (.dx (.kin true) 2 (.var 4)) (.cons (.mut 2 (.ksp (.var 4))) (.cons (.app 1 (.tup (.cons (.var 3) (.cons (.var 4) .nil)))) .nil)) .nil) .nil))) (.frz 1 (.cons (.ret (.var 1)) .nil))))
/- _law_cells: 0 row 1 most 2 cells 3 turn 4 x 5 y 6 right 7 up 8 left 9 low -/
def b__law_cells : SL := (.cons (.set true 2 (.lst (.cons (.tup (.cons (.cst (.int 0)) (.cons (.cst (.int 0)) .nil))) .nil))) (.cons (.for_ (.name 3 "turn") (.rng1 (.call "_law_taken" (some 0) (.cons (.var 1) .nil) [] .nil)) (.cons (.asg (.tup (.cons (.name 4 "x") (.cons (.name 5 "y") .nil))) (.dx (.pick 0) 2 (.cst .non))) (.cons (.asg (.tup (.cons (.name 6 "right") (.cons (.name 7 "up") .nil))) (.call "_law_pick" (some 0) (.cons (.lst (.cons (.tup (.cons (.cst (.int 1)) (.cons (.cst (.int 0)) .nil))) (.cons (.tup (.cons (.cst (.int 0)) (.cons (.cst (.int 1)) .nil))) (.cons (.tup (.cons (.un .USub (.cst (.int 1))) (.cons (.cst (.int 0)) .nil))) (.cons (.tup (.cons (.cst (.int 0)) (.cons (.un .USub (.cst (.int 1))) .nil))) (.cons (.tup (.cons (.cst (.int 1)) (.cons (.cst (.int 1)) .nil))) .nil)))))) .nil) [] .nil)) (.cons (.app 2 (.tup (.cons (.bin .Add (.var 4) (.var 6)) (.cons (.bin .Add (.var 5) (.var 7)) .nil)))) .nil)))) (.frz 2 (.cons (.asg (.tup (.cons (.name 8 "left") (.cons (.name 9 "low") .nil))) (.tup (.cons (.blt .min (.cons (.lc (.var 4) [("x", 4), ("y", 5)] (.tup (.cons (.name 4 "x") (.cons (.name 5 "y") .nil))) (.of (.var 2)) .nil) .nil)) (.cons (.blt .min (.cons (.lc (.var 5) [("x", 4), ("y", 5)] (.tup (.cons (.name 4 "x") (.cons (.name 5 "y") .nil))) (.of (.var 2)) .nil) .nil)) .nil)))) (.cons (.ret (.blt .tuple (.cons (.sp .setSort (.lc (.tup (.cons (.bin .Sub (.var 4) (.var 8)) (.cons (.bin .Sub (.var 5) (.var 9)) .nil))) [("x", 4), ("y", 5)] (.tup (.cons (.name 4 "x") (.cons (.name 5 "y") .nil))) (.of (.var 2)) .nil)) .nil))) .nil)))))
/- _law_cloth: 0 row 1 wide 2 long 3 width 4 length 5 holes 6 turn -/
def b__law_cloth : SL := (.cons (.asg (.tup (.cons (.name 3 "width") (.cons (.name 4 "length") .nil))) (.tup (.cons (.bin .Add (.cst (.int 1)) (.call "_law_taken" (some 0) (.cons (.var 1) .nil) [] .nil)) (.cons (.bin .Add (.cst (.int 1)) (.call "_law_taken" (some 0) (.cons (.var 2) .nil) [] .nil)) .nil)))) (.cons (.set false 5 (.sp .setSort (.lc (.tup (.cons (.call "_law_taken" (some 0) (.cons (.var 4) .nil) [] .nil) (.cons (.call "_law_taken" (some 0) (.cons (.var 3) .nil) [] .nil) .nil))) [("turn", 6)] (.name 6 "turn") (.rng1 (.call "_law_pick" (some 0) (.cons (.lst (.cons (.cst (.int 0)) (.cons (.cst (.int 0)) (.cons (.cst (.int 1)) (.cons (.cst (.int 3)) .nil))))) .nil) [] .nil)) .nil))) (.cons (.ret (.tup (.cons (.var 3) (.cons (.var 4) (.cons (.blt .tuple (.cons (.var 5) .nil)) .nil))))) .nil)))
/- is_cloth: 0 value 1 x 2 y -/
def b_is_cloth : SL := (.cons (.ife (.ors (.cons (.not (.call "is_tuple" none (.cons (.var 0) (.cons (.cst (.int 3)) (.cons (.cst (.int 3)) .nil))) [] .nil)) (.cons (.not (.call "is_integer" none (.cons (.idx (.var 0) (.cst (.int 0))) (.cons (.cst (.int 1)) (.cons (.glob "MOST_WIDTH") .nil))) [] .nil)) (.cons (.not (.call "is_integer" none (.cons (.idx (.var 0) (.cst (.int 1))) (.cons (.cst (.int 1)) (.cons (.glob "MOST_LENGTH") .nil))) [] .nil)) .nil)))) (.cons (.ret (.cst (.bl false))) .nil) .nil) (.cons (.ret (.ands (.cons (.call "is_cells" none (.cons (.idx (.var 0) (.cst (.int 2))) (.cons (.cst (.int 0)) (.cons (.glob "MOST_HOLES") .nil))) [] .nil) (.cons (.blt .all (.cons (.lc (.ands (.cons (.cmp .Lt (.var 1) (.idx (.var 0) (.cst (.int 1)))) (.cons (.cmp .Lt (.var 2) (.idx (.var 0) (.cst (.int 0)))) .nil))) [("x", 1), ("y", 2)] (.tup (.cons (.name 1 "x") (.cons (.name 2 "y") .nil))) (.of (.idx (.var 0) (.cst (.int 2)))) .nil) .nil)) .nil)))) .nil))
/- is_piece: 0 value 1 x 2 y -/
def b_is_piece : SL := (.cons (.ife (.ors (.cons (.not (.call "is_tuple" none (.cons (.var 0) (.cons (.cst (.int 4)) (.cons (.cst (.int 4)) .nil))) [] .nil)) (.cons (.not (.call "is_cells" none (.cons (.idx (.var 0) (.cst (.int 0))) (.cons (.cst (.int 1)) (.cons (.glob "MOST_CELLS") .nil))) [] .nil)) .nil))) (.cons (.ret (.cst (.bl false))) .nil) .nil) (.cons (.ife (.ors (.cons (.cmp .Gt (.blt .min (.cons (.lc (.var 1) [("x", 1), ("y", 2)] (.tup (.cons (.name 1 "x") (.cons (.name 2 "y") .nil))) (.of (.idx (.var 0) (.cst (.int 0)))) .nil) .nil)) (.cst (.int 0))) (.cons (.cmp .Gt (.blt .min (.cons (.lc (.var 2) [("x", 1), ("y", 2)] (.tup (.cons (.name 1 "x") (.cons (.name 2 "y") .nil))) (.of (.idx (.var 0) (.cst (.int 0)))) .nil) .nil)) (.cst (.int 0))) .nil))) (.cons (.ret (.cst (.bl false))) .nil) .nil) (.cons (.ife (.ors (.cons (.not (.call "is_integer" none (.cons (.idx (.var 0) (.cst (.int 1))) (.cons (.cst (.int 1)) (.cons (.cst (.int 4)) .nil))) [] .nil)) (.cons (.cmp .Eq (.idx (.var 0) (.cst (.int 1))) (.cst (.int 3))) (.cons (.not (.call "is_integer" none (.cons (.idx (.var 0) (.cst (.int 2))) (.cons (.cst (.int 1)) (.cons (.glob "MOST_PERIOD") .nil))) [] .nil)) .nil)))) (.cons (.ret (.cst (.bl false))) .nil) .nil) (.cons (.ret (.call "is_integer" none (.cons (.idx (.var 0) (.cst (.int 3))) (.cons (.cst (.int 0)) (.cons (.bin .Sub (.idx (.var 0) (.cst (.int 2))) (.cst (.int 1))) .nil))) [] .nil)) .nil))))
/- covers: 0 cloth 1 piece 2 found 3 quarters 4 cells 5 x 6 y 7 some 8 right 9 up 10 cell -/
def b_covers : SL := (.cons (.set true 2 (.lst .nil)) (.cons (.for_ (.tup (.cons (.name 3 "quarters") (.cons (.name 4 "cells") .nil))) (.of (.call "looks" none (.cons (.var 1) .nil) [] .nil)) (.cons (.for_ (.name 5 "x") (.rng3 (.idx (.var 1) (.cst (.int 3))) (.idx (.var 0) (.cst (.int 1))) (.idx (.var 1) (.cst (.int 2)))) (.cons (.for_ (.name 6 "y") (.rng1 (.idx (.var 0) (.cst (.int 0)))) (.cons (.set false 7 (.blt .tuple (.cons (.lc (.tup (.cons (.bin .Add (.var 5) (.var 8)) (.cons (.bin .Add (.var 6) (.var 9)) .nil))) [("right", 8), ("up", 9)] (.tup (.cons (.name 8 "right") (.cons (.name 9 "up") .nil))) (.of (.var 4)) .nil) .nil))) (.cons (.ife (.blt .all (.cons (.lc (.call "is_free" none (.cons (.var 0) (.cons (.var 10) .nil)) [] .nil) [("cell", 10)] (.name 10 "cell") (.of (.var 7)) .nil) .nil)) (.cons (.app 2 (.tup (.cons (.tup (.cons (.var 3) (.cons (.var 5) (.cons (.var 6) .nil)))) (.cons (.var 7) .nil)))) .nil) .nil) .nil))) .nil)) .nil)) (.frz 2 (.cons (.ret (.var 2)) .nil))))
/- _law_piece: 0 row 1 most 2 period -/
def b__law_piece : SL := (.cons (.set false 2 (.bin .Add (.cst (.int 1)) (.call "_law_pick" (some 0) (.cons (.lst (.cons (.cst (.int 0)) (.cons (.cst (.int 0)) (.cons (.call "_law_taken" (some 0) (.cons (.cst (.int 4)) .nil) [] .nil) .nil)))) .nil) [] .nil))) (.cons (.ret (.tup (.cons (.call "_law_cells" (some 0) (.cons (.var 1) .nil) [] .nil) (.cons (.call "_law_pick" (some 0) (.cons (.lst (.cons (.cst (.int 1)) (.cons (.cst (.int 2)) (.cons (.cst (.int 4)) .nil)))) .nil) [] .nil) (.cons (.var 2) (.cons (.call "_law_taken" (some 0) (.cons (.var 2) .nil) [] .nil) .nil)))))) .nil))
/- turned: 0 piece 1 quarters -/
def b_turned : SL := (.cons (.ex (.call "demand" none (.cons (.call "is_piece" none (.cons (.var 0) .nil) [] .nil) (.cons (.cst (.str "piece")) .nil)) [] .nil)) (.cons (.ex (.call "demand" none (.cons (.call "is_integer" none (.cons (.var 1) (.cons (.cst (.int 0)) (.cons (.cst (.int 3)) .nil))) [] .nil) (.cons (.cst (.str "quarters")) .nil)) [] .nil)) (.cons (.ret (.call "turned_cells" none (.cons (.idx (.var 0) (.cst (.int 0))) (.cons (.var 1) .nil)) [] .nil)) .nil)))
/- places: 0 cloth 1 piece 2 place 3 cells -/
def b_places : SL := (.cons (.ex (.call "demand" none (.cons (.call "is_cloth" none (.cons (.var 0) .nil) [] .nil) (.cons (.cst (.str "cloth")) .nil)) [] .nil)) (.cons (.ex (.call "demand" none (.cons (.call "is_piece" none (.cons (.var 1) .nil) [] .nil) (.cons (.cst (.str "piece")) .nil)) [] .nil)) (.cons (.ret (.blt .tuple (.cons (.lc (.var 2) [("place", 2), ("cells", 3)] (.tup (.cons (.name 2 "place") (.cons (.name 3 "cells") .nil))) (.of (.call "covers" none (.cons (.var 0) (.cons (.var 1) .nil)) [] .nil)) .nil) .nil))) .nil)))
/- _law_case: 0 row 1 cloth 2 piece 3 place 4 cells 5 quarters 6 odd 7 x 8 y 9 bad 10 four 11 told 12 right 13 wrong -/
def b__law_case_0 : S := (.asg (.tup (.cons (.name 1 "cloth") (.cons (.name 2 "piece") .nil))) (.tup (.cons (.call "_law_cloth" (some 0) (.cons (.cst (.int 5)) (.cons (.cst (.int 8)) .nil)) [] .nil) (.cons (.call "_law_piece" (some 0) (.cons (.cst (.int 5)) .nil) [] .nil) .nil))))
def b__law_case_1 : S := (.ife (.not (.call "_law_alike" none (.cons (.call "places" none (.cons (.var 1) (.cons (.var 2) .nil)) [] .nil) (.cons (.blt .tuple (.cons (.lc (.var 3) [("place", 3), ("cells", 4)] (.tup (.cons (.name 3 "place") (.cons (.name 4 "cells") .nil))) (.of (.call "_law_covers" none (.cons (.var 1) (.cons (.var 2) .nil)) [] .nil)) .nil) .nil)) .nil)) [] .nil)) (.cons (.ret (.cst (.bl false))) .nil) .nil)
def b__law_case_2 : S := (.for_ (.name 5 "quarters") (.rng1 (.cst (.int 4))) (.cons (.ife (.not (.call "_law_alike" none (.cons (.call "turned" none (.cons (.var 2) .nil) ["quarters"] (.cons (.var 5) .nil)) (.cons (.call "_law_turned" none (.cons (.idx (.var 2) (.cst (.int 0))) (.cons (.var 5) .nil)) [] .nil) .nil)) [] .nil)) (.cons (.ret (.cst (.bl false))) .nil) .nil) .nil))
def b__law_case_3 : S := (.set false 6 (.call "_law_pick" (some 0) (.cons (.lst (.cons (.cst .non) (.cons (.tup .nil) (.cons (.tup (.cons (.cst (.int 0)) (.cons (.cst (.int 1)) (.cons (.tup .nil) .nil)))) (.cons (.tup (.cons (.cst (.int 6)) (.cons (.cst (.int 1)) (.cons (.tup .nil) .nil)))) (.cons (.tup (.cons (.cst (.int 1)) (.cons (.cst (.int 9)) (.cons (.tup .nil) .nil)))) (.cons (.tup (.cons (.cst (.int 1)) (.cons (.cst (.int 1)) (.cons (.tup (.cons (.tup (.cons (.cst (.int 1)) (.cons (.cst (.int 0)) .nil))) .nil)) .nil)))) (.cons (.tup (.cons (.cst (.int 1)) (.cons (.cst (.int 1)) (.cons (.tup (.cons (.tup (.cons (.cst (.int 0)) (.cons (.cst (.int 0)) .nil))) (.cons (.tup (.cons (.cst (.int 0)) (.cons (.cst (.int 0)) .nil))) .nil))) .nil)))) (.cons (.lst (.cons (.cst (.int 1)) (.cons (.cst (.int 1)) (.cons (.tup .nil) .nil)))) (.cons (.tup (.cons (.cst (.int 2)) (.cons (.cst (.int 2)) (.cons (.tup (.cons (.tup (.cons (.cst (.int 0)) (.cons (.cst (.int 1)) .nil))) (.cons (.tup (.cons (.cst (.int 0)) (.cons (.cst (.int 0)) .nil))) .nil))) .nil)))) (.cons (.tup (.cons (.cst (.int 5)) (.cons (.cst (.int 8)) (.cons (.blt .tuple (.cons (.lc2 (.tup (.cons (.var 7) (.cons (.var 8) .nil))) [("x", 7), ("y", 8)] (.name 7 "x") (.rng1 (.cst (.int 3))) .nil [8] (.name 8 "y") (.rng1 (.cst (.int 4))) .nil) .nil)) .nil)))) .nil))))))))))) .nil) [] .nil))
def b__law_case_4 : S := (.set false 9 (.call "_law_pick" (some 0) (.cons (.lst (.cons (.cst .non) (.cons (.tup .nil) (.cons (.tup (.cons (.tup (.cons (.tup (.cons (.cst (.int 0)) (.cons (.cst (.int 0)) .nil))) .nil)) (.cons (.cst (.int 3)) (.cons (.cst (.int 1)) (.cons (.cst (.int 0)) .nil))))) (.cons (.tup (.cons (.tup (.cons (.tup (.cons (.cst (.int 0)) (.cons (.cst (.int 0)) .nil))) .nil)) (.cons (.cst (.int 1)) (.cons (.cst (.int 0)) (.cons (.cst (.int 0)) .nil))))) (.cons (.tup (.cons (.tup (.cons (.tup (.cons (.cst (.int 0)) (.cons (.cst (.int 0)) .nil))) .nil)) (.cons (.cst (.int 1)) (.cons (.cst (.int 2)) (.cons (.cst (.int 2)) .nil))))) (.cons (.tup (.cons (.tup (.cons (.tup (.cons (.cst (.int 1)) (.cons (.cst (.int 0)) .nil))) .nil)) (.cons (.cst (.int 1)) (.cons (.cst (.int 1)) (.cons (.cst (.int 0)) .nil))))) (.cons (.tup (.cons (.tup (.cons (.tup (.cons (.cst (.int 0)) (.cons (.cst (.int 1)) .nil))) (.cons (.tup (.cons (.cst (.int 0)) (.cons (.cst (.int 0)) .nil))) .nil))) (.cons (.cst (.int 1)) (.cons (.cst (.int 1)) (.cons (.cst (.int 0)) .nil))))) (.cons (.tup (.cons (.tup .nil) (.cons (.cst (.int 1)) (.cons (.cst (.int 1)) (.cons (.cst (.int 0)) .nil))))) (.cons (.tup (.cons (.tup (.cons (.tup (.cons (.cst (.int 0)) (.cons (.cst (.int 0)) .nil))) .nil)) (.cons (.cst (.bl true)) (.cons (.cst (.int 1)) (.cons (.cst (.int 0)) .nil))))) (.cons (.lst (.cons (.tup (.cons (.tup (.cons (.cst (.int 0)) (.cons (.cst (.int 0)) .nil))) .nil)) (.cons (.cst (.int 1)) (.cons (.cst (.int 1)) (.cons (.cst (.int 0)) .nil))))) (.cons (.tup (.cons (.tup (.cons (.tup (.cons (.cst (.int 0)) (.cons (.cst (.int 0)) .nil))) .nil)) (.cons (.cst (.int 1)) (.cons (.cst (.int 5)) (.cons (.cst (.int 0)) .nil))))) .nil)))))))))))) .nil) [] .nil))
def b__law_case_5 : S := (.set false 10 (.call "_law_pick" (some 0) (.cons (.lst (.cons (.cst .non) (.cons (.cst (.int 4)) (.cons (.un .USub (.cst (.int 1))) (.cons (.cst (.bl true)) (.cons (.cst (.str "1")) (.cons (.tup (.cons (.cst (.int 1)) .nil)) .nil))))))) .nil) [] .nil))
def b__law_case_6 : S := (.set false 11 (.lst (.cons (.told (.call "places" none (.cons (.var 6) (.cons (.var 9) .nil)) [] .nil)) (.cons (.told (.call "places" none (.cons (.var 1) (.cons (.var 9) .nil)) [] .nil)) (.cons (.told (.call "turned" none (.cons (.var 9) (.cons (.var 10) .nil)) [] .nil)) (.cons (.told (.call "turned" none (.cons (.var 2) (.cons (.var 10) .nil)) [] .nil)) .nil))))))
def b__law_case_7 : S := (.set false 12 (.lst (.cons (.call "is_cloth" none (.cons (.var 1) .nil) [] .nil) (.cons (.call "is_piece" none (.cons (.var 2) .nil) [] .nil) .nil))))
def b__law_case_8 : S := (.set false 13 (.lst (.cons (.call "is_cloth" none (.cons (.var 6) .nil) [] .nil) (.cons (.call "is_piece" none .nil ["value"] (.cons (.var 9) .nil)) .nil))))
def b__law_case_9 : S := (.ret (.ands (.cons (.cmp .Eq (.var 11) (.lst (.cons (.cst (.str "cloth")) (.cons (.cst (.str "piece")) (.cons (.cst (.str "piece")) (.cons (.cst (.str "quarters")) .nil)))))) (.cons (.cmp .Eq (.var 12) (.lst (.cons (.cst (.bl true)) (.cons (.cst (.bl true)) .nil)))) (.cons (.cmp .Eq (.var 13) (.lst (.cons (.cst (.bl false)) (.cons (.cst (.bl false)) .nil)))) .nil)))))
def b__law_case : SL := (.cons b__law_case_0 (.cons b__law_case_1 (.cons b__law_case_2 (.cons b__law_case_3 (.cons b__law_case_4 (.cons b__law_case_5 (.cons b__law_case_6 (.cons b__law_case_7 (.cons b__law_case_8 (.cons b__law_case_9 .nil))))))))))
theorem sc__law_alike : FnScope ["found", "due", "at"] ["found", "due"] (defScope s__law_alike) := ⟨rfl, rfl, rfl, by decide +kernel, rfl, by decide +kernel, by decide +kernel⟩
theorem ck__law_alike : chkSs ["found", "due", "at"] (defScope s__law_alike) false b__law_alike (defBody s__law_alike) = true := by decide +kernel
theorem sc_is_integer : FnScope ["value", "least", "most"] ["value", "least", "most"] (defScope s_is_integer) := ⟨rfl, rfl, rfl, by decide +kernel, rfl, by decide +kernel, by decide +kernel⟩
theorem ck_is_integer : chkSs ["value", "least", "most"] (defScope s_is_integer) false b_is_integer (defBody s_is_integer) = true := by decide +kernel
theorem sc_is_tuple : FnScope ["value", "least", "most"] ["value", "least", "most"] (defScope s_is_tuple) := ⟨rfl, rfl, rfl, by decide +kernel, rfl, by decide +kernel, by decide +kernel⟩
theorem ck_is_tuple : chkSs ["value", "least", "most"] (defScope s_is_tuple) false b_is_tuple (defBody s_is_tuple) = true := by decide +kernel
theorem sc_is_rising : FnScope ["things", "at"] ["things"] (defScope s_is_rising) := ⟨rfl, rfl, rfl, by decide +kernel, rfl, by decide +kernel, by decide +kernel⟩
theorem ck_is_rising : chkSs ["things", "at"] (defScope s_is_rising) false b_is_rising (defBody s_is_rising) = true := by decide +kernel
theorem sc_quarter_turn : FnScope ["cells", "some", "x", "y", "left", "low"] ["cells"] (defScope s_quarter_turn) := ⟨rfl, rfl, rfl, by decide +kernel, rfl, by decide +kernel, by decide +kernel⟩
theorem ck_quarter_turn : chkSs ["cells", "some", "x", "y", "left", "low"] (defScope s_quarter_turn) false b_quarter_turn (defBody s_quarter_turn) = true := by decide +kernel
theorem sc_is_free : FnScope ["cloth", "cell"] ["cloth", "cell"] (defScope s_is_free) := ⟨rfl, rfl, rfl, by decide +kernel, rfl, by decide +kernel, by decide +kernel⟩
theorem ck_is_free : chkSs ["cloth", "cell"] (defScope s_is_free) false b_is_free (defBody s_is_free) = true := by decide +kernel
theorem sc__law_turned : FnScope ["cells", "quarters", "some", "x", "y", "left", "low"] ["cells", "quarters"] (defScope s__law_turned) := ⟨rfl, rfl, rfl, by decide +kernel, rfl, by decide +kernel, by decide +kernel⟩
theorem ck__law_turned : chkSs ["cells", "quarters", "some", "x", "y", "left", "low"] (defScope s__law_turned) false b__law_turned (defBody s__law_turned) = true := by decide +kernel
theorem sc_is_integers : FnScope ["value", "many", "least", "most", "one"] ["value", "many", "least", "most"] (defScope s_is_integers) := ⟨rfl, rfl, rfl, by decide +kernel, rfl, by decide +kernel, by decide +kernel⟩
theorem ck_is_integers : chkSs ["value", "many", "least", "most", "one"] (defScope s_is_integers) false b_is_integers (defBody s_is_integers) = true := by decide +kernel
theorem sc_turned_cells : FnScope ["cells", "quarters", "turn"] ["cells", "quarters"] (defScope s_turned_cells) := ⟨rfl, rfl, rfl, by decide +kernel, rfl, by decide +kernel, by decide +kernel⟩
theorem ck_turned_cells : chkSs ["cells", "quarters", "turn"] (defScope s_turned_cells) false b_turned_cells (defBody s_turned_cells) = true := by decide +kernel
theorem sc__law_pick : FnScope ["row", "some"] ["row", "some"] (defScope s__law_pick) := ⟨rfl, rfl, rfl, by decide +kernel, rfl, by decide +kernel, by decide +kernel⟩
theorem ck__law_pick : chkSs ["row", "some"] (defScope s__law_pick) false b__law_pick (defBody s__law_pick) = true := by decide +kernel
theorem sc__law_covers : FnScope ["cloth", "piece", "found", "seen", "quarters", "cells", "x", "y", "some", "right", "up", "free", "cell"] ["cloth", "piece"] (defScope s__law_covers) := ⟨rfl, rfl, rfl, by decide +kernel, rfl, by decide +kernel, by decide +kernel⟩
theorem ck__law_covers : chkSs ["cloth", "piece", "found", "seen", "quarters", "cells", "x", "y", "some", "right", "up", "free", "cell"] (defScope s__law_covers) false b__law_covers (defBody s__law_covers) = true := by decide +kernel
theorem sc_is_cells : FnScope ["value", "least", "most", "cell"] ["value", "least", "most"] (defScope s_is_cells) := ⟨rfl, rfl, rfl, by decide +kernel, rfl, by decide +kernel, by decide +kernel⟩
theorem ck_is_cells : chkSs ["value", "least", "most", "cell"] (defScope s_is_cells) false b_is_cells (defBody s_is_cells) = true := by decide +kernel
theorem sc_looks : FnScope ["piece", "found", "seen", "quarters", "cells"] ["piece"] (defScope s_looks) := ⟨rfl, rfl, rfl, by decide +kernel, rfl, by decide +kernel, by decide +kernel⟩
theorem ck_looks : chkSs ["piece", "found", "seen", "quarters", "cells"] (defScope s_looks) false b_looks (defBody s_looks) = true := by decide +kernel
theorem sc__law_cells : FnScope ["row", "most", "cells", "turn", "x", "y", "right", "up", "left", "low"] ["row", "most"] (defScope s__law_cells) := ⟨rfl, rfl, rfl, by decide +kernel, rfl, by decide +kernel, by decide +kernel⟩
theorem ck__law_cells : chkSs ["row", "most", "cells", "turn", "x", "y", "right", "up", "left", "low"] (defScope s__law_cells) false b__law_cells (defBody s__law_cells) = true := by decide +kernel
theorem sc__law_cloth : FnScope ["row", "wide", "long", "width", "length", "holes", "turn"] ["row", "wide", "long"] (defScope s__law_cloth) := ⟨rfl, rfl, rfl, by decide +kernel, rfl, by decide +kernel, by decide +kernel⟩
theorem ck__law_cloth : chkSs ["row", "wide", "long", "width", "length", "holes", "turn"] (defScope s__law_cloth) false b__law_cloth (defBody s__law_cloth) = true := by decide +kernel
theorem sc_is_cloth : FnScope ["value", "x", "y"] ["value"] (defScope s_is_cloth) := ⟨rfl, rfl, rfl, by decide +kernel, rfl, by decide +kernel, by decide +kernel⟩
theorem ck_is_cloth : chkSs ["value", "x", "y"] (defScope s_is_cloth) false b_is_cloth (defBody s_is_cloth) = true := by decide +kernel
theorem sc_is_piece : FnScope ["value", "x", "y"] ["value"] (defScope s_is_piece) := ⟨rfl, rfl, rfl, by decide +kernel, rfl, by decide +kernel, by decide +kernel⟩
theorem ck_is_piece : chkSs ["value", "x", "y"] (defScope s_is_piece) false b_is_piece (defBody s_is_piece) = true := by decide +kernel
theorem sc_covers : FnScope ["cloth", "piece", "found", "quarters", "cells", "x", "y", "some", "right", "up", "cell"] ["cloth", "piece"] (defScope s_covers) := ⟨rfl, rfl, rfl, by decide +kernel, rfl, by decide +kernel, by decide +kernel⟩
theorem ck_covers : chkSs ["cloth", "piece", "found", "quarters", "cells", "x", "y", "some", "right", "up", "cell"] (defScope s_covers) false b_covers (defBody s_covers) = true := by decide +kernel
theorem sc__law_piece : FnScope ["row", "most", "period"] ["row", "most"] (defScope s__law_piece) := ⟨rfl, rfl, rfl, by decide +kernel, rfl, by decide +kernel, by decide +kernel⟩
theorem ck__law_piece : chkSs ["row", "most", "period"] (defScope s__law_piece) false b__law_piece (defBody s__law_piece) = true := by decide +kernel
theorem sc_turned : FnScope ["piece", "quarters"] ["piece", "quarters"] (defScope s_turned) := ⟨rfl, rfl, rfl, by decide +kernel, rfl, by decide +kernel, by decide +kernel⟩
theorem ck_turned : chkSs ["piece", "quarters"] (defScope s_turned) false b_turned (defBody s_turned) = true := by decide +kernel
theorem sc_places : FnScope ["cloth", "piece", "place", "cells"] ["cloth", "piece"] (defScope s_places) := ⟨rfl, rfl, rfl, by decide +kernel, rfl, by decide +kernel, by decide +kernel⟩
theorem ck_places : chkSs ["cloth", "piece", "place", "cells"] (defScope s_places) false b_places (defBody s_places) = true := by decide +kernel
theorem sc__law_case : FnScope ["row", "cloth", "piece", "place", "cells", "quarters", "odd", "x", "y", "bad", "four", "told", "right", "wrong"] ["row"] (defScope s__law_case) := ⟨rfl, rfl, rfl, by decide +kernel, rfl, by decide +kernel, by decide +kernel⟩
theorem ck__law_case : chkSs ["row", "cloth", "piece", "place", "cells", "quarters", "odd", "x", "y", "bad", "four", "told", "right", "wrong"] (defScope s__law_case) true b__law_case (defBody s__law_case) = true := by decide +kernel
theorem sc_demand : FnScope ["is_right", "name"] ["is_right", "name"] (defScope s_demand) := ⟨rfl, rfl, rfl, by decide +kernel, rfl, by decide +kernel, by decide +kernel⟩
theorem sc__law_taken : FnScope ["row", "many", "found", "cell"] ["row", "many"] (defScope s__law_taken) := ⟨rfl, rfl, rfl, by decide +kernel, rfl, by decide +kernel, by decide +kernel⟩
theorem sc__law_refused : FnScope ["call", "e"] ["call"] (defScope s__law_refused) := ⟨rfl, rfl, rfl, by decide +kernel, rfl, by decide +kernel, by decide +kernel⟩
theorem sc_law : FnScope ["script", "row", "turn"] ["script"] (defScope s_law) := ⟨rfl, rfl, rfl, by decide +kernel, rfl, by decide +kernel, by decide +kernel⟩
theorem sc_init : FnScope ["self", "name"] ["self", "name"] (defScope s_init) := ⟨rfl, rfl, rfl, by decide +kernel, rfl, by decide +kernel, by decide +kernel⟩
end Dl

set_option Elab.async false
set_option linter.all false
set_option maxRecDepth 100000
set_option maxHeartbeats 8000000
namespace Dl
open PySem PySem.Spec PyProof.Rows L2
/-! ### cells, their turns -/
abbrev Cell := Int × Int
def toL (c : Cell) : List Int := [c.1, c.2]
def ofL : List Int → Cell
  | [a, b] => (a, b)
  | _ => (0, 0)
def csD (cs : List Cell) : PyData := .tuple (cs.map pr2)
def csL (cs : List Cell) : PyData := .list (cs.map pr2)
def srt (cs : List Cell) : List Cell := (sortT (cs.map toL)).map ofL
def Cle (a b : Cell) : Prop := lexLe (toL a) (toL b) = true
theorem map_of_to : ∀ cs : List Cell, (cs.map toL).map ofL = cs
  | [] => rfl
  | c :: r => by rw [List.map_cons, List.map_cons, map_of_to r]; rfl
theorem srt_perm {cs : List Cell} : (srt cs).Perm cs := by
  have := (sortT_perm (cs.map toL)).map ofL
  rw [map_of_to] at this
  exact this
theorem srt_toL {cs : List Cell} : (srt cs).map toL = sortT (cs.map toL) := by
  unfold srt
  rw [List.map_map]
  refine (List.map_congr_left fun t ht => ?_).trans (List.map_id _)
  obtain ⟨c, _, rfl⟩ := List.mem_map.mp ((sortT_perm _).mem_iff.mp ht)
  rfl
theorem srt_sorted {cs : List Cell} : (srt cs).Pairwise Cle := by
  have := sortT_sorted (cs.map toL)
  rw [← srt_toL, List.pairwise_map] at this
  exact this
theorem toL_inj {a b : Cell} (h : toL a = toL b) : a = b := by
  unfold toL at h
  simp only [List.cons.injEq, and_true] at h
  exact Prod.ext h.1 h.2
theorem cle_uniq {l l' : List Cell} (h : l.Pairwise Cle) (h' : l'.Pairwise Cle) (p : l.Perm l') : l = l' := by
  have := sortedT_unique (l := l.map toL) (l' := l'.map toL) (by rw [List.pairwise_map]; exact h) (by rw [List.pairwise_map]; exact h') (p.map toL)
  have e := congrArg (List.map ofL) this
  rwa [map_of_to, map_of_to] at e
theorem srt_of_perm {l l' : List Cell} (p : l.Perm l') : srt l = srt l' := cle_uniq srt_sorted srt_sorted (srt_perm.trans (p.trans srt_perm.symm))
theorem srt_id {l : List Cell} (h : l.Pairwise Cle) : srt l = l := cle_uniq srt_sorted h srt_perm
theorem srt_len {l : List Cell} : (srt l).length = l.length := srt_perm.length_eq
/-- the least of some numbers -/
def mn : List Int → Int
  | [] => 0
  | n :: r => r.foldl min n
theorem mn_is {ns : List Int} (h : ns ≠ []) : mn ns ∈ ns ∧ ∀ x ∈ ns, mn ns ≤ x := by
  cases ns with
  | nil => exact absurd rfl h
  | cons n r =>
    obtain ⟨h1, h2, h3⟩ := foldl_min_le (n := n) (r := r)
    refine ⟨?_, fun x hx => ?_⟩
    · rcases h3 with h3 | h3
      · show r.foldl min n ∈ _; rw [h3]; exact List.mem_cons_self
      · exact List.mem_cons_of_mem _ h3
    · rcases List.mem_cons.mp hx with rfl | hx
      · exact h1
      · exact h2 x hx
theorem mn_eq {ns : List Int} {M : Int} (h1 : M ∈ ns) (h2 : ∀ x ∈ ns, M ≤ x) : mn ns = M := by
  obtain ⟨a, b⟩ := mn_is (ns := ns) (fun z => by rw [z] at h1; cases h1)
  have := b M h1
  have := h2 _ a
  omega
theorem mn_perm {a b : List Int} (p : a.Perm b) : mn a = mn b := by
  cases a with
  | nil => rw [List.nil_perm.mp p]
  | cons n r =>
    obtain ⟨h1, h2⟩ := mn_is (ns := n :: r) (by simp)
    exact (mn_eq (p.mem_iff.mp h1) fun x hx => h2 x (p.mem_iff.mpr hx)).symm
theorem mn_add {ns : List Int} {a : Int} (h : ns ≠ []) : mn (ns.map (· + a)) = mn ns + a := by
  obtain ⟨h1, h2⟩ := mn_is h
  refine mn_eq (List.mem_map.mpr ⟨_, h1, rfl⟩) fun x hx => ?_
  obtain ⟨y, hy, rfl⟩ := List.mem_map.mp hx
  have := h2 y hy
  omega
def shf (a b : Int) (c : Cell) : Cell := (c.1 + a, c.2 + b)
def xsC (cs : List Cell) : List Int := cs.map (·.1)
def ysC (cs : List Cell) : List Int := cs.map (·.2)
def norm (cs : List Cell) : List Cell := srt (cs.map (shf (-mn (xsC cs)) (-mn (ysC cs))))
theorem norm_len {l : List Cell} : (norm l).length = l.length := by unfold norm; rw [srt_len, List.length_map]
theorem norm_perm {a b : List Cell} (p : a.Perm b) : norm a = norm b := by
  unfold norm
  have e1 : (xsC a).Perm (xsC b) := p.map _
  have e2 : (ysC a).Perm (ysC b) := p.map _
  rw [mn_perm e1, mn_perm e2]
  exact srt_of_perm (p.map _)
theorem norm_shf {cs : List Cell} {a b : Int} (h : cs ≠ []) : norm (cs.map (shf a b)) = norm cs := by
  unfold norm
  have e1 : xsC (cs.map (shf a b)) = (xsC cs).map (· + a) := by unfold xsC; rw [List.map_map, List.map_map]; rfl
  have e2 : ysC (cs.map (shf a b)) = (ysC cs).map (· + b) := by unfold ysC; rw [List.map_map, List.map_map]; rfl
  rw [e1, e2, mn_add (by unfold xsC; simpa using h), mn_add (by unfold ysC; simpa using h), List.map_map]
  congr 1
  refine List.map_congr_left fun c _ => ?_
  simp only [Function.comp, shf]
  refine Prod.ext ?_ ?_ <;> simp <;> omega
def r1 (c : Cell) : Cell := (-c.2, c.1)
def r2 (c : Cell) : Cell := (0 - c.1, 0 - c.2)
def r3 (c : Cell) : Cell := (c.2, 0 - c.1)
theorem norm_r1 {zs : List Cell} (h : zs ≠ []) : norm ((norm zs).map r1) = norm (zs.map r1) := by
  have p : ((norm zs).map r1).Perm ((zs.map r1).map (shf (mn (ysC zs)) (-mn (xsC zs)))) := by
    have := (srt_perm (cs := zs.map (shf (-mn (xsC zs)) (-mn (ysC zs))))).map r1
    refine this.trans (List.Perm.of_eq ?_)
    rw [List.map_map, List.map_map]
    refine List.map_congr_left fun c _ => ?_
    simp only [Function.comp, shf, r1]
    refine Prod.ext ?_ ?_ <;> simp <;> omega
  rw [norm_perm p, norm_shf (by simpa using h)]
/-- turned by the program, turned by the law -/
def trn (cs : List Cell) : Nat → List Cell
  | 0 => cs
  | k + 1 => norm ((trn cs k).map r1)
def lrt (q : Int) (c : Cell) : Cell := if q = 0 then c else if q = 1 then r1 c else if q = 2 then r2 c else r3 c
def ltn (cs : List Cell) (q : Int) : List Cell := norm (cs.map (lrt q))
theorem trn_ltn {cs : List Cell} (h : cs ≠ []) (hn : norm cs = cs) {q : Nat} (hq : q ≤ 3) : trn cs q = ltn cs q := by
  have m0 : cs.map (lrt 0) = cs := (List.map_congr_left fun c _ => by simp [lrt]).trans (List.map_id cs)
  have m1 : cs.map (lrt 1) = cs.map r1 := List.map_congr_left fun c _ => by simp [lrt]
  have m2 : cs.map (lrt 2) = (cs.map r1).map r1 := by rw [List.map_map]; refine List.map_congr_left fun c _ => ?_; simp [lrt, r1, r2]
  have m3 : cs.map (lrt 3) = ((cs.map r1).map r1).map r1 := by rw [List.map_map, List.map_map]; refine List.map_congr_left fun c _ => ?_; simp [lrt, r1, r3]
  have e1 : trn cs 1 = norm (cs.map r1) := rfl
  have e2 : trn cs 2 = norm ((cs.map r1).map r1) := by
    show norm ((norm (cs.map r1)).map r1) = _
    rw [norm_r1 (by simpa using h)]
  have e3 : trn cs 3 = norm (((cs.map r1).map r1).map r1) := by
    show norm ((trn cs 2).map r1) = _
    rw [e2, norm_r1 (by simpa using h)]
  unfold ltn
  match q, hq with
  | 0, _ => rw [show ((0 : Nat) : Int) = 0 from rfl, m0, hn]; rfl
  | 1, _ => rw [show ((1 : Nat) : Int) = 1 from rfl, m1, e1]
  | 2, _ => rw [show ((2 : Nat) : Int) = 2 from rfl, m2, e2]
  | 3, _ => rw [show ((3 : Nat) : Int) = 3 from rfl, m3, e3]
/-- cells within the greatest cloth -/
def InB (cs : List Cell) : Prop := ∀ c ∈ cs, (0 ≤ c.1 ∧ c.1 ≤ 8) ∧ 0 ≤ c.2 ∧ c.2 ≤ 8
/-- no two differ by more than 8, either way -/
def Near (cs : List Cell) : Prop := ∀ c ∈ cs, ∀ d ∈ cs, c.1 - d.1 ≤ 8 ∧ c.2 - d.2 ≤ 8
theorem InB.near {cs : List Cell} (h : InB cs) : Near cs := fun c hc d hd => by
  have := h c hc
  have := h d hd
  omega
theorem near_r {cs : List Cell} (h : Near cs) {r : Cell → Cell} (hr : r = r1 ∨ r = r2 ∨ r = r3 ∨ r = id) : Near (cs.map r) := fun c hc d hd => by
  obtain ⟨x, hx, rfl⟩ := List.mem_map.mp hc
  obtain ⟨y, hy, rfl⟩ := List.mem_map.mp hd
  have a := h x hx y hy
  have b := h y hy x hx
  rcases hr with rfl | rfl | rfl | rfl <;> simp only [r1, r2, r3, id] <;> omega
theorem norm_in {cs : List Cell} (h : Near cs) : InB (cs.map (shf (-mn (xsC cs)) (-mn (ysC cs)))) := fun c hc => by
  obtain ⟨x, hx, rfl⟩ := List.mem_map.mp hc
  have ne : xsC cs ≠ [] := fun z => by unfold xsC at z; simp at z; subst z; cases hx
  have ne2 : ysC cs ≠ [] := fun z => by unfold ysC at z; simp at z; subst z; cases hx
  obtain ⟨a1, a2⟩ := mn_is ne
  obtain ⟨b1, b2⟩ := mn_is ne2
  obtain ⟨u, hu, eu⟩ := List.mem_map.mp a1
  obtain ⟨v, hv, ev⟩ := List.mem_map.mp b1
  have := a2 x.1 (List.mem_map.mpr ⟨x, hx, rfl⟩)
  have := b2 x.2 (List.mem_map.mpr ⟨x, hx, rfl⟩)
  have := h x hx u hu
  have := h x hx v hv
  simp only [shf]
  omega
theorem srt_in {cs : List Cell} (h : InB cs) : InB (srt cs) := fun c hc => h c (srt_perm.mem_iff.mp hc)
theorem norm_inb {cs : List Cell} (h : Near cs) : InB (norm cs) := srt_in (norm_in h)
theorem trn_in {cs : List Cell} (h : InB cs) : ∀ k, InB (trn cs k) ∧ (trn cs k).length = cs.length
  | 0 => ⟨h, rfl⟩
  | k + 1 => by
    obtain ⟨h1, h2⟩ := trn_in h k
    exact ⟨norm_inb (near_r h1.near (.inl rfl)), by show (norm _).length = _; rw [norm_len, List.length_map, h2]⟩
theorem lrt_is {q : Int} : lrt q = r1 ∨ lrt q = r2 ∨ lrt q = r3 ∨ lrt q = id := by
  by_cases h0 : q = 0
  · exact .inr (.inr (.inr (by funext c; simp [lrt, h0])))
  · by_cases h1 : q = 1
    · exact .inl (by funext c; simp [lrt, h1])
    · by_cases h2 : q = 2
      · exact .inr (.inl (by funext c; simp [lrt, h2]))
      · exact .inr (.inr (.inl (by funext c; simp [lrt, h0, h1, h2])))
theorem ltn_in {cs : List Cell} (h : InB cs) (q : Int) : InB (ltn cs q) ∧ (ltn cs q).length = cs.length := ⟨norm_inb (near_r h.near lrt_is), by unfold ltn; rw [norm_len, List.length_map]⟩
/-! ### pieces, cloths, places -/
structure Cloth where
  w : Int
  l : Int
  hs : List Cell
structure Pc where
  cs : List Cell
  t : Int
  p : Int
  o : Int
def ltB (a b : Cell) : Bool := HT.lexLt (toL a) (toL b)
structure ClothOk (C : Cloth) : Prop where
  w : 1 ≤ C.w ∧ C.w ≤ 5
  l : 1 ≤ C.l ∧ C.l ≤ 8
  n : C.hs.length ≤ 10
  i : InB C.hs
  r : risingBy ltB C.hs = true
  c : ∀ c ∈ C.hs, c.1 < C.l ∧ c.2 < C.w
structure PcOk (P : Pc) : Prop where
  n : 1 ≤ P.cs.length ∧ P.cs.length ≤ 5
  i : InB P.cs
  r : risingBy ltB P.cs = true
  x : ∃ c ∈ P.cs, c.1 = 0
  y : ∃ c ∈ P.cs, c.2 = 0
  t : P.t = 1 ∨ P.t = 2 ∨ P.t = 4
  p : 1 ≤ P.p ∧ P.p ≤ 4
  o : 0 ≤ P.o ∧ P.o < P.p
theorem lt_le {a b : Cell} (h : ltB a b = true) : Cle a b := by
  unfold ltB toL at h
  unfold Cle toL
  simp only [HT.lexLt] at h
  simp only [lexLe]
  by_cases h1 : a.1 = b.1
  · rw [if_pos h1] at h
    by_cases h2 : a.2 = b.2
    · rw [if_pos h2] at h; cases h
    · rw [if_neg h2] at h
      simp [h1, h]
  · rw [if_neg h1] at h
    simp [h]
theorem rising_cle : ∀ {l : List Cell}, risingBy ltB l = true → l.Pairwise Cle
  | [], _ => .nil
  | [a], _ => List.pairwise_singleton _ _
  | a :: b :: r, h => by
    unfold risingBy at h
    rw [Bool.and_eq_true] at h
    have ih := rising_cle h.2
    refine List.pairwise_cons.mpr ⟨fun c hc => ?_, ih⟩
    rcases List.mem_cons.mp hc with rfl | hc
    · exact lt_le h.1
    · exact lexLe_trans (lt_le h.1) ((List.pairwise_cons.mp ih).1 c hc)
theorem PcOk.ne {P : Pc} (h : PcOk P) : P.cs ≠ [] := fun z => by have := h.n; rw [z] at this; simp at this
theorem PcOk.norm {P : Pc} (h : PcOk P) : Dl.norm P.cs = P.cs := by
  obtain ⟨a, ha, ea⟩ := h.x
  obtain ⟨b, hb, eb⟩ := h.y
  have e1 : mn (xsC P.cs) = 0 := mn_eq (List.mem_map.mpr ⟨a, ha, ea⟩) fun x hx => by obtain ⟨c, hc, rfl⟩ := List.mem_map.mp hx; exact (h.i c hc).1.1
  have e2 : mn (ysC P.cs) = 0 := mn_eq (List.mem_map.mpr ⟨b, hb, eb⟩) fun x hx => by obtain ⟨c, hc, rfl⟩ := List.mem_map.mp hx; exact (h.i c hc).2.1
  unfold Dl.norm
  rw [e1, e2]
  have : P.cs.map (shf (-0) (-0)) = P.cs := (List.map_congr_left fun c _ => by simp [shf]).trans (List.map_id _)
  rw [this]
  exact srt_id (rising_cle h.r)
def freeB (C : Cloth) (c : Cell) : Bool := (decide (0 ≤ c.1) && decide (c.1 < C.l)) && ((decide (0 ≤ c.2) && decide (c.2 < C.w)) && !decide (c ∈ C.hs))
def qsOf (t : Int) : List Int := if t = 1 then [0] else if t = 2 then [0, 2] else [0, 1, 2, 3]
/-- the looks that were not seen before -/
def lks (tf : Int → List Cell) : List Int → List (List Cell) → List (Int × List Cell)
  | [], _ => []
  | q :: qs, seen => if tf q ∈ seen then lks tf qs seen else (q, tf q) :: lks tf qs (seen ++ [tf q])
theorem lks_congr {f g : Int → List Cell} : ∀ {qs : List Int} {seen : List (List Cell)}, (∀ q ∈ qs, f q = g q) → lks f qs seen = lks g qs seen
  | [], _, _ => rfl
  | q :: qs, seen, h => by
    unfold lks
    rw [h q List.mem_cons_self, lks_congr (fun x hx => h x (List.mem_cons_of_mem _ hx)), lks_congr (seen := seen ++ [g q]) (fun x hx => h x (List.mem_cons_of_mem _ hx))]
theorem lks_mem {f : Int → List Cell} : ∀ {qs : List Int} {seen : List (List Cell)} {p : Int × List Cell}, p ∈ lks f qs seen → p.1 ∈ qs ∧ p.2 = f p.1
  | [], _, p, h => by cases h
  | q :: qs, seen, p, h => by
    unfold lks at h
    split at h
    · obtain ⟨a, b⟩ := lks_mem h; exact ⟨List.mem_cons_of_mem _ a, b⟩
    · rcases List.mem_cons.mp h with rfl | h
      · exact ⟨List.mem_cons_self, rfl⟩
      · obtain ⟨a, b⟩ := lks_mem h; exact ⟨List.mem_cons_of_mem _ a, b⟩
theorem lks_len {f : Int → List Cell} : ∀ {qs : List Int} {seen : List (List Cell)}, (lks f qs seen).length ≤ qs.length
  | [], _ => Nat.le_refl _
  | q :: qs, seen => by
    unfold lks
    split
    · have := lks_len (f := f) (qs := qs) (seen := seen); simp; omega
    · have := lks_len (f := f) (qs := qs) (seen := seen ++ [f q]); simp; omega
abbrev Ent := (Int × Int × Int) × List Cell
def mv (cs : List Cell) (x y : Int) : List Cell := cs.map fun c => (x + c.1, y + c.2)
def rowE (C : Cloth) (q : Int) (cs : List Cell) (x : Int) : List Ent := ((List.range C.w.toNat).filter fun y : Nat => (mv cs x y).all (freeB C)).map fun (y : Nat) => ((q, x, (y : Int)), mv cs x y)
/-- the columns that the pattern allows -/
def xsP (l p o : Int) : List Int := (List.range (rngN o l p)).map fun (i : Nat) => o + (i : Int) * p
def xsL (l p o : Int) : List Int := ((List.range l.toNat).filter fun x : Nat => decide ((x : Int) % p = o)).map fun (x : Nat) => (x : Int)
def entsP (C : Cloth) (xs : List Int) (lk : List (Int × List Cell)) : List Ent := lk.flatMap fun k => xs.flatMap fun x => rowE C k.1 k.2 x
end Dl

set_option Elab.async false
set_option linter.all false
set_option maxRecDepth 100000
set_option maxHeartbeats 8000000
namespace Dl
open PySem PySem.Spec PyProof.Rows L2
/-! ### columns; entries -/
theorem xs_all : ∀ l : Fin 9, ∀ p : Fin 5, ∀ o : Fin 5, o < p → 1 ≤ l.val → xsP l.val p.val o.val = xsL l.val p.val o.val ∧ rngN (o.val : Int) l.val p.val ≤ 100 ∧ (((p.val : Int) ≠ 0 ∧ (p.val : Int).natAbs < 1073741824) ∧ Builtin.Range.small (o.val : Int) l.val p.val = true ∧ Builtin.Range.rangeSize (o.val : Int) l.val p.val = (rngN (o.val : Int) l.val p.val : Int)) := by decide +kernel
theorem xs_eq {l p o : Int} (hl : 1 ≤ l ∧ l ≤ 8) (hp : 1 ≤ p ∧ p ≤ 4) (ho : 0 ≤ o ∧ o < p) : xsP l p o = xsL l p o ∧ rngN o l p ≤ 100 ∧ RgC o l p (rngN o l p) := by
  obtain ⟨l, rfl⟩ := Int.eq_ofNat_of_zero_le (show 0 ≤ l by omega)
  obtain ⟨p, rfl⟩ := Int.eq_ofNat_of_zero_le (show 0 ≤ p by omega)
  obtain ⟨o, rfl⟩ := Int.eq_ofNat_of_zero_le (show 0 ≤ o by omega)
  obtain ⟨h1, h2, ⟨h3, h4⟩, h5, h6⟩ := xs_all ⟨l, by omega⟩ ⟨p, by omega⟩ ⟨o, by omega⟩ (by show o < p; omega) (by show 1 ≤ l; omega)
  exact ⟨h1, h2, h3, h4, h5, h6⟩
theorem len_flat {α β : Type} {g : α → List β} {B : Nat} : ∀ {xs : List α}, (∀ x ∈ xs, (g x).length ≤ B) → (xs.flatMap g).length ≤ xs.length * B
  | [], _ => by simp
  | x :: r, h => by
    have h1 := h x List.mem_cons_self
    have h2 := len_flat (g := g) (B := B) (xs := r) fun y hy => h y (List.mem_cons_of_mem _ hy)
    rw [List.flatMap_cons, List.length_append, List.length_cons, Nat.succ_mul]
    omega
theorem rowE_len {C : Cloth} {q : Int} {cs : List Cell} {x : Int} (h : C.w ≤ 5) : (rowE C q cs x).length ≤ 5 := by
  unfold rowE
  rw [List.length_map]
  have := List.length_filter_le (fun y : Nat => (mv cs x y).all (freeB C)) (List.range C.w.toNat)
  rw [List.length_range] at this
  omega
def trq (cs : List Cell) (q : Int) : List Cell := trn cs q.toNat
def lkP (P : Pc) : List (Int × List Cell) := lks (trq P.cs) (qsOf P.t) []
def lkL (P : Pc) : List (Int × List Cell) := lks (ltn P.cs) (qsOf P.t) []
def pE (C : Cloth) (P : Pc) : List Ent := entsP C (xsP C.l P.p P.o) (lkP P)
def lE (C : Cloth) (P : Pc) : List Ent := entsP C (xsL C.l P.p P.o) (lkL P)
theorem qs_in {t q : Int} (h : q ∈ qsOf t) : 0 ≤ q ∧ q ≤ 3 := by
  unfold qsOf at h
  split at h
  · simp at h; omega
  · split at h
    · simp at h; omega
    · simp at h; omega
theorem qs_len {t : Int} : (qsOf t).length ≤ 4 := by
  unfold qsOf
  split
  · simp
  · split <;> simp
theorem lk_eq {P : Pc} (h : PcOk P) : lkP P = lkL P := lks_congr fun q hq => by
  obtain ⟨h0, h3⟩ := qs_in hq
  obtain ⟨n, rfl⟩ := Int.eq_ofNat_of_zero_le h0
  exact trn_ltn h.ne h.norm (by omega)
theorem pE_lE {C : Cloth} {P : Pc} (hC : ClothOk C) (h : PcOk P) : pE C P = lE C P := by
  unfold pE lE
  rw [(xs_eq hC.l h.p h.o).1, lk_eq h]
theorem ents_len {C : Cloth} {xs : List Int} {lk : List (Int × List Cell)} (h : C.w ≤ 5) (hx : xs.length ≤ 100) (hl : lk.length ≤ 4) : (entsP C xs lk).length ≤ 2000 := by
  have h1 : (entsP C xs lk).length ≤ lk.length * 500 := len_flat fun k _ => by
    have := len_flat (g := fun x => rowE C k.1 k.2 x) (B := 5) (xs := xs) fun x _ => rowE_len h
    omega
  omega
/-! ### the data of cells, cloths, pieces; what is right -/
def clD (C : Cloth) : PyData := .tuple [.int C.w, .int C.l, csD C.hs]
def pcD (P : Pc) : PyData := .tuple [csD P.cs, .int P.t, .int P.p, .int P.o]
def lkD (k : Int × List Cell) : PyData := .tuple [.int k.1, csD k.2]
def plD (e : Ent) : PyData := .tuple [.int e.1.1, .int e.1.2.1, .int e.1.2.2]
def entT (e : Ent) : PyData := .tuple [plD e, csD e.2]
def entL (e : Ent) : PyData := .tuple [plD e, csL e.2]
def elems : PyData → List PyData
  | .tuple es => es
  | _ => []
def x0 (c : PyData) : Int := at0 (intsD c) 0 0
def x1 (c : PyData) : Int := at0 (intsD c) 1 0
def ltD (x y : PyData) : Bool := HT.lexLt (intsD x) (intsD y)
def isCellsB (v : PyData) (a b : Int) : Bool := isTupB v a b && ((elems v).all (fun c => isIntsB c 2 0 8) && risingBy ltD (elems v))
def isClothB : PyData → Bool
  | .tuple [w, l, h] => isIntB w 1 5 && (isIntB l 1 8 && (isCellsB h 0 10 && (elems h).all fun c => decide (x0 c < intD l) && decide (x1 c < intD w)))
  | _ => false
def isPieceB : PyData → Bool
  | .tuple [c, t, p, o] => isCellsB c 1 5 && ((decide (mn ((elems c).map x0) ≤ 0) && decide (mn ((elems c).map x1) ≤ 0)) && ((isIntB t 1 4 && !decide (intD t = 3)) && (isIntB p 1 4 && isIntB o 0 (intD p - 1))))
  | _ => false
@[simp] theorem intsD_pr2 {c : Cell} : intsD (pr2 c) = toL c := rfl
@[simp] theorem x0_pr2 {c : Cell} : x0 (pr2 c) = c.1 := rfl
@[simp] theorem x1_pr2 {c : Cell} : x1 (pr2 c) = c.2 := rfl
theorem isInt_iff {v : PyData} {a b : Int} : isIntB v a b = true ↔ ∃ i, v = .int i ∧ a ≤ i ∧ i ≤ b := by
  constructor
  · intro h
    cases v <;> first | (cases h; done) | skip
    rename_i i
    have h : (decide (a ≤ i) && decide (i ≤ b)) = true := h
    simp at h
    exact ⟨i, rfl, h⟩
  · rintro ⟨i, rfl, h⟩
    simp [isIntB, h]
theorem ints2_iff {c : PyData} : isIntsB c 2 0 8 = true ↔ ∃ p : Cell, c = pr2 p ∧ (0 ≤ p.1 ∧ p.1 ≤ 8) ∧ 0 ≤ p.2 ∧ p.2 ≤ 8 := by
  constructor
  · intro h
    cases c <;> first | (cases h; done) | skip
    rename_i es
    have h : (decide ((es.length : Int) = 2) && es.all fun e => isIntB e 0 8) = true := h
    simp only [Bool.and_eq_true, decide_eq_true_eq] at h
    obtain ⟨h1, h2⟩ := h
    obtain ⟨a, b, rfl⟩ := len2 (show es.length = 2 by omega)
    simp only [List.all_cons, List.all_nil, Bool.and_true, Bool.and_eq_true] at h2
    obtain ⟨i, rfl, hi⟩ := isInt_iff.mp h2.1
    obtain ⟨j, rfl, hj⟩ := isInt_iff.mp h2.2
    exact ⟨(i, j), rfl, hi, hj⟩
  · rintro ⟨⟨i, j⟩, rfl, hi, hj⟩
    simp at hi hj
    simp [pr2, tI, isIntsB, isIntB, hi, hj]
theorem rise_map : ∀ {cs : List Cell}, risingBy ltD (cs.map pr2) = risingBy ltB cs
  | [] => rfl
  | [_] => rfl
  | a :: b :: r => by
    have := rise_map (cs := b :: r)
    simp only [List.map_cons, risingBy] at this ⊢
    rw [this]; rfl
theorem cells_iff {v : PyData} {a b : Int} : isCellsB v a b = true ↔ ∃ cs : List Cell, v = csD cs ∧ (a ≤ cs.length ∧ (cs.length : Int) ≤ b) ∧ InB cs ∧ risingBy ltB cs = true := by
  constructor
  · intro h
    unfold isCellsB at h
    rw [Bool.and_eq_true, Bool.and_eq_true, List.all_eq_true] at h
    obtain ⟨h1, h2, h3⟩ := h
    cases v <;> first | (cases h1; done) | skip
    rename_i es
    have h1 : (decide (a ≤ (es.length : Int)) && decide ((es.length : Int) ≤ b)) = true := h1
    simp only [Bool.and_eq_true, decide_eq_true_eq] at h1
    obtain ⟨cs, e, hb⟩ := rel_of (c := pr2) (R := fun p : Cell => (0 ≤ p.1 ∧ p.1 ≤ 8) ∧ 0 ≤ p.2 ∧ p.2 ≤ 8) fun y hy => ints2_iff.mp (h2 y hy)
    have e : es = cs.map pr2 := e
    subst e
    rw [List.length_map] at h1
    exact ⟨cs, rfl, h1, hb, by rw [← rise_map]; exact h3⟩
  · rintro ⟨cs, rfl, h1, h2, h3⟩
    unfold isCellsB
    rw [Bool.and_eq_true, Bool.and_eq_true, List.all_eq_true]
    refine ⟨by simp [csD, isTupB, h1], fun c hc => ?_, by show risingBy ltD (cs.map pr2) = true; rw [rise_map]; exact h3⟩
    obtain ⟨p, hp, rfl⟩ := List.mem_map.mp (show c ∈ cs.map pr2 from hc)
    exact ints2_iff.mpr ⟨p, rfl, h2 p hp⟩
theorem cloth_iff {v : PyData} : isClothB v = true ↔ ∃ C, ClothOk C ∧ v = clD C := by
  constructor
  · intro h
    unfold isClothB at h
    split at h
    · rename_i w l hs
      simp only [Bool.and_eq_true] at h
      obtain ⟨h1, h2, h3, h4⟩ := h
      obtain ⟨w, rfl, hw⟩ := isInt_iff.mp h1
      obtain ⟨l, rfl, hl⟩ := isInt_iff.mp h2
      obtain ⟨cs, rfl, a1, a2, a3⟩ := cells_iff.mp h3
      refine ⟨⟨w, l, cs⟩, ⟨hw, hl, by show cs.length ≤ 10; omega, a2, a3, fun c hc => ?_⟩, rfl⟩
      have := List.all_eq_true.mp h4 (pr2 c) (List.mem_map.mpr ⟨c, hc, rfl⟩)
      simp [intD] at this
      exact ⟨of_decide_eq_true this.1, of_decide_eq_true this.2⟩
    · cases h
  · rintro ⟨C, o, rfl⟩
    unfold clD isClothB
    simp only [Bool.and_eq_true]
    refine ⟨isInt_iff.mpr ⟨_, rfl, o.w⟩, isInt_iff.mpr ⟨_, rfl, o.l⟩, cells_iff.mpr ⟨_, rfl, ⟨by omega, by have := o.n; omega⟩, o.i, o.r⟩, List.all_eq_true.mpr fun c hc => ?_⟩
    obtain ⟨p, hp, rfl⟩ := List.mem_map.mp (show c ∈ C.hs.map pr2 from hc)
    have := o.c p hp
    simp [intD, this]
theorem mn_zero {ns : List Int} (h : ∀ x ∈ ns, 0 ≤ x) (hne : ns ≠ []) : mn ns ≤ 0 ↔ ∃ x ∈ ns, x = 0 := by
  obtain ⟨h1, h2⟩ := mn_is hne
  have := h _ h1
  constructor
  · intro z; exact ⟨_, h1, by omega⟩
  · rintro ⟨x, hx, rfl⟩; exact h2 _ hx
theorem els_x0 {cs : List Cell} : (elems (csD cs)).map x0 = xsC cs := by unfold csD elems xsC; rw [List.map_map]; rfl
theorem els_x1 {cs : List Cell} : (elems (csD cs)).map x1 = ysC cs := by unfold csD elems ysC; rw [List.map_map]; rfl
theorem piece_iff {v : PyData} : isPieceB v = true ↔ ∃ P, PcOk P ∧ v = pcD P := by
  constructor
  · intro h
    unfold isPieceB at h
    split at h
    · rename_i c t p o
      simp only [Bool.and_eq_true, Bool.not_eq_true', decide_eq_true_eq, decide_eq_false_iff_not] at h
      obtain ⟨h1, ⟨h2, h3⟩, ⟨h4, h5⟩, h6, h7⟩ := h
      obtain ⟨cs, rfl, a1, a2, a3⟩ := cells_iff.mp h1
      obtain ⟨t, rfl, ht⟩ := isInt_iff.mp h4
      obtain ⟨p, rfl, hp⟩ := isInt_iff.mp h6
      obtain ⟨o, rfl, ho⟩ := isInt_iff.mp h7
      rw [els_x0] at h2
      rw [els_x1] at h3
      have ne : cs ≠ [] := fun z => by subst z; simp at a1
      have hx := (mn_zero (ns := xsC cs) (fun x hx => by obtain ⟨c, hc, rfl⟩ := List.mem_map.mp hx; exact (a2 c hc).1.1) (by unfold xsC; simpa using ne)).mp h2
      have hy := (mn_zero (ns := ysC cs) (fun x hx => by obtain ⟨c, hc, rfl⟩ := List.mem_map.mp hx; exact (a2 c hc).2.1) (by unfold ysC; simpa using ne)).mp h3
      obtain ⟨_, hx1, rfl0⟩ := hx
      obtain ⟨_, hy1, rfl1⟩ := hy
      obtain ⟨cx, c1, c2⟩ := List.mem_map.mp hx1
      obtain ⟨cy, d1, d2⟩ := List.mem_map.mp hy1
      simp only [intD] at h5 ho
      exact ⟨⟨cs, t, p, o⟩, ⟨⟨by show 1 ≤ cs.length; omega, by show cs.length ≤ 5; omega⟩, a2, a3, ⟨cx, c1, by rw [c2]; exact rfl0⟩, ⟨cy, d1, by rw [d2]; exact rfl1⟩, by show t = 1 ∨ t = 2 ∨ t = 4; omega, hp, by show 0 ≤ o ∧ o < p; omega⟩, rfl⟩
    · cases h
  · rintro ⟨P, k, rfl⟩
    unfold pcD isPieceB
    simp only [Bool.and_eq_true, Bool.not_eq_true', decide_eq_true_eq, decide_eq_false_iff_not]
    have hn := k.n
    have ht := k.t
    have ho := k.o
    obtain ⟨cx, c1, c2⟩ := k.x
    obtain ⟨cy, d1, d2⟩ := k.y
    refine ⟨cells_iff.mpr ⟨_, rfl, ⟨by omega, by omega⟩, k.i, k.r⟩, ⟨?_, ?_⟩, ⟨isInt_iff.mpr ⟨_, rfl, by omega, by omega⟩, by simp only [intD]; omega⟩, isInt_iff.mpr ⟨_, rfl, k.p⟩, isInt_iff.mpr ⟨_, rfl, by simp only [intD]; omega⟩⟩
    · rw [els_x0]
      exact (mn_zero (fun x hx => by obtain ⟨c, hc, rfl⟩ := List.mem_map.mp hx; exact (k.i c hc).1.1) (by unfold xsC; simpa using k.ne)).mpr ⟨0, List.mem_map.mpr ⟨cx, c1, c2⟩, rfl⟩
    · rw [els_x1]
      exact (mn_zero (fun x hx => by obtain ⟨c, hc, rfl⟩ := List.mem_map.mp hx; exact (k.i c hc).2.1) (by unfold ysC; simpa using k.ne)).mpr ⟨0, List.mem_map.mpr ⟨cy, d1, d2⟩, rfl⟩
/-! ### what each def promises -/
def sg_is_cells : Sig where
  ps := ["value", "least", "most"]
  row := false
  kws := []
  sp := fun ds Q X => ∃ v a b, ds = [v, .int a, .int b] ∧ b ≤ 1000 ∧ Q (.bool (isCellsB v a b))
def sg_is_cloth : Sig where
  ps := ["value"]
  row := false
  kws := []
  sp := fun ds Q X => ∃ v, ds = [v] ∧ Q (.bool (isClothB v))
def sg_is_piece : Sig where
  ps := ["value"]
  row := false
  kws := [["value"]]
  sp := fun ds Q X => ∃ v, ds = [v] ∧ Q (.bool (isPieceB v))
def sg_quarter_turn : Sig where
  ps := ["cells"]
  row := false
  kws := []
  sp := fun ds Q X => ∃ cs : List Cell, ds = [csD cs] ∧ (1 ≤ cs.length ∧ cs.length ≤ 5) ∧ InB cs ∧ Q (csD (norm (cs.map r1)))
def sg_turned_cells : Sig where
  ps := ["cells", "quarters"]
  row := false
  kws := []
  sp := fun ds Q X => ∃ (cs : List Cell) (q : Int), ds = [csD cs, .int q] ∧ (1 ≤ cs.length ∧ cs.length ≤ 5) ∧ InB cs ∧ (0 ≤ q ∧ q ≤ 3) ∧ Q (csD (trq cs q))
def sg__law_turned : Sig where
  ps := ["cells", "quarters"]
  row := false
  kws := []
  sp := fun ds Q X => ∃ (cs : List Cell) (q : Int), ds = [csD cs, .int q] ∧ (1 ≤ cs.length ∧ cs.length ≤ 5) ∧ InB cs ∧ (0 ≤ q ∧ q ≤ 3) ∧ Q (csD (ltn cs q))
def sg_turned : Sig where
  ps := ["piece", "quarters"]
  row := false
  kws := [["quarters"]]
  sp := fun ds Q X => ∃ v u, ds = [v, u] ∧ (isPieceB v = false → X "piece") ∧ (isPieceB v = true → isIntB u 0 3 = false → X "quarters") ∧ ∀ P q, PcOk P → v = pcD P → u = .int q → (0 ≤ q ∧ q ≤ 3) → Q (csD (trq P.cs q))
def sg_looks : Sig where
  ps := ["piece"]
  row := false
  kws := []
  sp := fun ds Q X => ∃ P, ds = [pcD P] ∧ PcOk P ∧ Q (.list ((lkP P).map lkD))
def sg_is_free : Sig where
  ps := ["cloth", "cell"]
  row := false
  kws := []
  sp := fun ds Q X => ∃ C c, ds = [clD C, pr2 c] ∧ Q (.bool (freeB C c))
def sg_covers : Sig where
  ps := ["cloth", "piece"]
  row := false
  kws := []
  sp := fun ds Q X => ∃ C P, ds = [clD C, pcD P] ∧ ClothOk C ∧ PcOk P ∧ Q (.list ((pE C P).map entT))
def sg__law_covers : Sig where
  ps := ["cloth", "piece"]
  row := false
  kws := []
  sp := fun ds Q X => ∃ C P, ds = [clD C, pcD P] ∧ ClothOk C ∧ PcOk P ∧ Q (.list ((lE C P).map entL))
def sg_places : Sig where
  ps := ["cloth", "piece"]
  row := false
  kws := []
  sp := fun ds Q X => ∃ v u, ds = [v, u] ∧ (isClothB v = false → X "cloth") ∧ (isClothB v = true → isPieceB u = false → X "piece") ∧ ∀ C P, ClothOk C → PcOk P → v = clD C → u = pcD P → Q (.tuple ((pE C P).map plD))
structure CsOk (cs : List Cell) : Prop where
  n : 1 ≤ cs.length ∧ cs.length ≤ 5
  i : InB cs
  r : risingBy ltB cs = true
  x : ∃ c ∈ cs, c.1 = 0
  y : ∃ c ∈ cs, c.2 = 0
def sg__law_cells : Sig where
  ps := ["row", "most"]
  row := true
  kws := []
  sp := fun ds Q X => ds = [.int 5] ∧ ∀ cs, CsOk cs → Q (csD cs)
def sg__law_piece : Sig where
  ps := ["row", "most"]
  row := true
  kws := []
  sp := fun ds Q X => ds = [.int 5] ∧ ∀ P, PcOk P → Q (pcD P)
def sg__law_cloth : Sig where
  ps := ["row", "wide", "long"]
  row := true
  kws := []
  sp := fun ds Q X => ds = [.int 5, .int 8] ∧ ∀ C, ClothOk C → Q (clD C)
theorem min_mn {ns : List Int} (h : ns ≠ []) : bltSem .min [lI ns] = some (.int (mn ns)) := by
  obtain ⟨M, h1, _, h2, h3⟩ := min_ints (ns := ns) (by cases ns with | nil => exact absurd rfl h | cons _ _ => simp)
  rw [h1, mn_eq h2 h3]
theorem okT_cells {zs : List Cell} (h : InB zs) : okT (zs.map toL) = true := by
  cases zs with
  | nil => rfl
  | cons c r =>
    rw [List.map_cons]
    unfold okT
    rw [Bool.and_eq_true, List.all_eq_true]
    refine ⟨rfl, fun u hu => ?_⟩
    obtain ⟨d, hd, rfl⟩ := List.mem_map.mp (show u ∈ (c :: r).map toL from hu)
    have := h d hd
    simp [toL]
    omega
theorem pr2_toL {zs : List Cell} : zs.map pr2 = (zs.map toL).map tI := by rw [List.map_map]; rfl
theorem sorted_cells {zs : List Cell} (hl : zs.length < 64) (h : InB zs) : bltSem .sorted [.list (zs.map pr2)] = some (.list ((srt zs).map pr2)) := by
  rw [pr2_toL, sorted_tups (by rw [List.length_map]; exact hl) (okT_cells h), pr2_toL, srt_toL]
theorem wl_pr2 {α : Type} {f : PyData → (Option PyData → Prop) → Prop} {c : α → PyData} {g : α → Cell} {ns : List α} {Q : List PyData → Prop} (hf : ∀ n ∈ ns, ∀ k, k (some (pr2 (g n))) → f (c n) k) (q : Q ((ns.map g).map pr2)) : wpL f (ns.map c) Q :=
  wpL_ofS (h := fun n => pr2 (g n)) hf (by rw [List.map_map] at q; exact q)
theorem wl_int {α : Type} {f : PyData → (Option PyData → Prop) → Prop} {c : α → PyData} {g : α → Int} {ns : List α} {Q : List PyData → Prop} (hf : ∀ n ∈ ns, ∀ k, k (some (.int (g n))) → f (c n) k) (q : Q ((ns.map g).map .int)) : wpL f (ns.map c) Q :=
  wpL_ofS (h := fun n => .int (g n)) hf (by rw [List.map_map] at q; exact q)
@[simp] theorem atI_1 {a b : PyData} {r : List PyData} : atI (a :: b :: r) 1 = some b := by rw [show (1 : Int) = ((1 : Nat) : Int) from rfl, atI_nat]; rfl
@[simp] theorem atI_2 {a b c : PyData} {r : List PyData} : atI (a :: b :: c :: r) 2 = some c := by rw [show (2 : Int) = ((2 : Nat) : Int) from rfl, atI_nat]; rfl
@[simp] theorem atI_3 {a b c d : PyData} {r : List PyData} : atI (a :: b :: c :: d :: r) 3 = some d := by rw [show (3 : Int) = ((3 : Nat) : Int) from rfl, atI_nat]; rfl
@[simp] theorem atI_0 {a : PyData} {r : List PyData} : atI (a :: r) 0 = some a := by rw [show (0 : Int) = ((0 : Nat) : Int) from rfl, atI_nat]; rfl
end Dl

set_option Elab.async false
set_option linter.all false
set_option maxRecDepth 100000
set_option maxHeartbeats 8000000
namespace Dl
open PySem PySem.Spec PyProof.Rows L2
def gam_quarter_turn : Gam := gm [] []
@[simp] theorem rw_quarter_turn : sg_quarter_turn.row = false := rfl
def gam_is_free : Gam := gm [] []
@[simp] theorem rw_is_free : sg_is_free.row = false := rfl
def gam__law_turned : Gam := gm [] []
@[simp] theorem rw__law_turned : sg__law_turned.row = false := rfl
def gam_turned_cells : Gam := gm [("quarter_turn", sg_quarter_turn)] []
@[simp] theorem rw_turned_cells : sg_turned_cells.row = false := rfl
@[simp] theorem gf_turned_cells_quarter_turn : gam_turned_cells.funs "quarter_turn" = some sg_quarter_turn := rfl
def gam__law_covers : Gam := gm [("_law_turned", sg__law_turned)] []
@[simp] theorem rw__law_covers : sg__law_covers.row = false := rfl
@[simp] theorem gf__law_covers__law_turned : gam__law_covers.funs "_law_turned" = some sg__law_turned := rfl
def gam_is_cells : Gam := gm [("is_rising", sg_is_rising), ("is_tuple", sg_is_tuple), ("is_integers", sg_is_integers)] [("MOST_LENGTH", .int (8))]
@[simp] theorem rw_is_cells : sg_is_cells.row = false := rfl
@[simp] theorem gf_is_cells_is_rising : gam_is_cells.funs "is_rising" = some sg_is_rising := rfl
@[simp] theorem gf_is_cells_is_tuple : gam_is_cells.funs "is_tuple" = some sg_is_tuple := rfl
@[simp] theorem gf_is_cells_is_integers : gam_is_cells.funs "is_integers" = some sg_is_integers := rfl
@[simp] theorem gc_is_cells_MOST_LENGTH : gam_is_cells.cons "MOST_LENGTH" = some (.int (8)) := rfl
def gam_looks : Gam := gmD [("turned_cells", sg_turned_cells)] [] [("QUARTERS", [(1, [0]), (2, [0, 2]), (4, [0, 1, 2, 3])])]
@[simp] theorem gd_looks_QUARTERS : gam_looks.dcons "QUARTERS" = some [(1, [0]), (2, [0, 2]), (4, [0, 1, 2, 3])] := rfl
@[simp] theorem rw_looks : sg_looks.row = false := rfl
@[simp] theorem gf_looks_turned_cells : gam_looks.funs "turned_cells" = some sg_turned_cells := rfl
def gam__law_cells : Gam := gm [("_law_taken", sgTaken), ("_law_pick", sgPick)] []
@[simp] theorem rw__law_cells : sg__law_cells.row = true := rfl
@[simp] theorem gf__law_cells__law_taken : gam__law_cells.funs "_law_taken" = some sgTaken := rfl
@[simp] theorem gf__law_cells__law_pick : gam__law_cells.funs "_law_pick" = some sgPick := rfl
def gam__law_cloth : Gam := gm [("_law_taken", sgTaken), ("_law_pick", sgPick)] []
@[simp] theorem rw__law_cloth : sg__law_cloth.row = true := rfl
@[simp] theorem gf__law_cloth__law_taken : gam__law_cloth.funs "_law_taken" = some sgTaken := rfl
@[simp] theorem gf__law_cloth__law_pick : gam__law_cloth.funs "_law_pick" = some sgPick := rfl
def gam_is_cloth : Gam := gm [("is_cells", sg_is_cells), ("is_tuple", sg_is_tuple), ("is_integer", sg_is_integer)] [("MOST_HOLES", .int (10)), ("MOST_WIDTH", .int (5)), ("MOST_LENGTH", .int (8))]
@[simp] theorem rw_is_cloth : sg_is_cloth.row = false := rfl
@[simp] theorem gf_is_cloth_is_cells : gam_is_cloth.funs "is_cells" = some sg_is_cells := rfl
@[simp] theorem gf_is_cloth_is_tuple : gam_is_cloth.funs "is_tuple" = some sg_is_tuple := rfl
@[simp] theorem gf_is_cloth_is_integer : gam_is_cloth.funs "is_integer" = some sg_is_integer := rfl
@[simp] theorem gc_is_cloth_MOST_HOLES : gam_is_cloth.cons "MOST_HOLES" = some (.int (10)) := rfl
@[simp] theorem gc_is_cloth_MOST_WIDTH : gam_is_cloth.cons "MOST_WIDTH" = some (.int (5)) := rfl
@[simp] theorem gc_is_cloth_MOST_LENGTH : gam_is_cloth.cons "MOST_LENGTH" = some (.int (8)) := rfl
def gam_is_piece : Gam := gm [("is_integer", sg_is_integer), ("is_tuple", sg_is_tuple), ("is_cells", sg_is_cells)] [("MOST_CELLS", .int (5)), ("MOST_PERIOD", .int (4))]
@[simp] theorem rw_is_piece : sg_is_piece.row = false := rfl
@[simp] theorem gf_is_piece_is_integer : gam_is_piece.funs "is_integer" = some sg_is_integer := rfl
@[simp] theorem gf_is_piece_is_tuple : gam_is_piece.funs "is_tuple" = some sg_is_tuple := rfl
@[simp] theorem gf_is_piece_is_cells : gam_is_piece.funs "is_cells" = some sg_is_cells := rfl
@[simp] theorem gc_is_piece_MOST_CELLS : gam_is_piece.cons "MOST_CELLS" = some (.int (5)) := rfl
@[simp] theorem gc_is_piece_MOST_PERIOD : gam_is_piece.cons "MOST_PERIOD" = some (.int (4)) := rfl
def gam_covers : Gam := gm [("looks", sg_looks), ("is_free", sg_is_free)] []
@[simp] theorem rw_covers : sg_covers.row = false := rfl
@[simp] theorem gf_covers_looks : gam_covers.funs "looks" = some sg_looks := rfl
@[simp] theorem gf_covers_is_free : gam_covers.funs "is_free" = some sg_is_free := rfl
def gam__law_piece : Gam := gm [("_law_pick", sgPick), ("_law_cells", sg__law_cells), ("_law_taken", sgTaken)] []
@[simp] theorem rw__law_piece : sg__law_piece.row = true := rfl
@[simp] theorem gf__law_piece__law_pick : gam__law_piece.funs "_law_pick" = some sgPick := rfl
@[simp] theorem gf__law_piece__law_cells : gam__law_piece.funs "_law_cells" = some sg__law_cells := rfl
@[simp] theorem gf__law_piece__law_taken : gam__law_piece.funs "_law_taken" = some sgTaken := rfl
def gam_turned : Gam := gm [("demand", sgDemand), ("turned_cells", sg_turned_cells), ("is_piece", sg_is_piece), ("is_integer", sg_is_integer)] []
@[simp] theorem rw_turned : sg_turned.row = false := rfl
@[simp] theorem gf_turned_demand : gam_turned.funs "demand" = some sgDemand := rfl
@[simp] theorem gf_turned_turned_cells : gam_turned.funs "turned_cells" = some sg_turned_cells := rfl
@[simp] theorem gf_turned_is_piece : gam_turned.funs "is_piece" = some sg_is_piece := rfl
@[simp] theorem gf_turned_is_integer : gam_turned.funs "is_integer" = some sg_is_integer := rfl
def gam_places : Gam := gm [("demand", sgDemand), ("is_cloth", sg_is_cloth), ("is_piece", sg_is_piece), ("covers", sg_covers)] []
@[simp] theorem rw_places : sg_places.row = false := rfl
@[simp] theorem gf_places_demand : gam_places.funs "demand" = some sgDemand := rfl
@[simp] theorem gf_places_is_cloth : gam_places.funs "is_cloth" = some sg_is_cloth := rfl
@[simp] theorem gf_places_is_piece : gam_places.funs "is_piece" = some sg_is_piece := rfl
@[simp] theorem gf_places_covers : gam_places.funs "covers" = some sg_covers := rfl
def gam__law_case : Gam := gm [("_law_pick", sgPick), ("_law_cloth", sg__law_cloth), ("_law_piece", sg__law_piece), ("_law_alike", (sgAlike 4)), ("is_cloth", sg_is_cloth), ("is_piece", sg_is_piece), ("places", sg_places), ("turned", sg_turned), ("_law_turned", sg__law_turned), ("_law_covers", sg__law_covers)] []
@[simp] theorem gf__law_case__law_pick : gam__law_case.funs "_law_pick" = some sgPick := rfl
@[simp] theorem gf__law_case__law_cloth : gam__law_case.funs "_law_cloth" = some sg__law_cloth := rfl
@[simp] theorem gf__law_case__law_piece : gam__law_case.funs "_law_piece" = some sg__law_piece := rfl
@[simp] theorem gf__law_case__law_alike : gam__law_case.funs "_law_alike" = some (sgAlike 4) := rfl
@[simp] theorem gf__law_case_is_cloth : gam__law_case.funs "is_cloth" = some sg_is_cloth := rfl
@[simp] theorem gf__law_case_is_piece : gam__law_case.funs "is_piece" = some sg_is_piece := rfl
@[simp] theorem gf__law_case_places : gam__law_case.funs "places" = some sg_places := rfl
@[simp] theorem gf__law_case_turned : gam__law_case.funs "turned" = some sg_turned := rfl
@[simp] theorem gf__law_case__law_turned : gam__law_case.funs "_law_turned" = some sg__law_turned := rfl
@[simp] theorem gf__law_case__law_covers : gam__law_case.funs "_law_covers" = some sg__law_covers := rfl
/-! ### the program's defs keep it -/
theorem ln_is_cells : ∀ ds Q X, sg_is_cells.sp ds Q X → (if sg_is_cells.row then 1 else 0) + ds.length = sg_is_cells.ps.length := by
  rintro ds Q X ⟨v, a, b, rfl, _⟩; rfl
theorem wp_is_cells : ∀ ds Q X, sg_is_cells.sp ds Q X → wpSs gam_is_cells b_is_cells (rho0 4 sg_is_cells.row ds) (postOf Q X) := by
  rintro ds Q X ⟨v, a, b, rfl, hb, hq⟩
  simp [b_is_cells]
  refine ⟨_, _, _, rfl, ?_⟩
  cases ht : isTupB v a b with
  | false =>
    have hq : Q (.bool false) := by unfold isCellsB at hq; rw [ht] at hq; exact hq
    simpa using hq
  | true =>
    cases v <;> first | (cases ht; done) | skip
    rename_i es
    have hl : (decide (a ≤ (es.length : Int)) && decide ((es.length : Int) ≤ b)) = true := ht
    simp only [Bool.and_eq_true, decide_eq_true_eq] at hl
    simp
    intro _
    refine wpL_mapS (h := fun c => .bool (isIntsB c 2 0 8)) (fun c hc k hk => ⟨_, _, _, _, rfl, hk⟩) ?_
    rw [all_map]
    unfold isCellsB at hq
    rw [ht, Bool.true_and] at hq
    have hq : Q (.bool ((es.all fun c => isIntsB c 2 0 8) && risingBy ltD es)) := hq
    cases ha : es.all fun c => isIntsB c 2 0 8 with
    | false =>
      rw [ha] at hq
      simpa using hq
    | true =>
      rw [ha, Bool.true_and] at hq
      simp
      refine ⟨es, ltD, .inl rfl, by omega, fun x hx y hy => ?_, hq⟩
      obtain ⟨p, rfl, _⟩ := ints2_iff.mp (List.all_eq_true.mp ha x hx)
      obtain ⟨r, rfl, _⟩ := ints2_iff.mp (List.all_eq_true.mp ha y hy)
      rfl
theorem ln_is_cloth : ∀ ds Q X, sg_is_cloth.sp ds Q X → (if sg_is_cloth.row then 1 else 0) + ds.length = sg_is_cloth.ps.length := by
  rintro ds Q X ⟨v, rfl, _⟩; rfl
theorem ln_is_piece : ∀ ds Q X, sg_is_piece.sp ds Q X → (if sg_is_piece.row then 1 else 0) + ds.length = sg_is_piece.ps.length := by
  rintro ds Q X ⟨v, rfl, _⟩; rfl
theorem ln_quarter_turn : ∀ ds Q X, sg_quarter_turn.sp ds Q X → (if sg_quarter_turn.row then 1 else 0) + ds.length = sg_quarter_turn.ps.length := by
  rintro ds Q X ⟨v, rfl, _⟩; rfl
theorem ln_turned_cells : ∀ ds Q X, sg_turned_cells.sp ds Q X → (if sg_turned_cells.row then 1 else 0) + ds.length = sg_turned_cells.ps.length := by
  rintro ds Q X ⟨v, q, rfl, _⟩; rfl
theorem ln_turned : ∀ ds Q X, sg_turned.sp ds Q X → (if sg_turned.row then 1 else 0) + ds.length = sg_turned.ps.length := by
  rintro ds Q X ⟨v, q, rfl, _⟩; rfl
theorem ln_looks : ∀ ds Q X, sg_looks.sp ds Q X → (if sg_looks.row then 1 else 0) + ds.length = sg_looks.ps.length := by
  rintro ds Q X ⟨v, rfl, _⟩; rfl
theorem ln_is_free : ∀ ds Q X, sg_is_free.sp ds Q X → (if sg_is_free.row then 1 else 0) + ds.length = sg_is_free.ps.length := by
  rintro ds Q X ⟨v, q, rfl, _⟩; rfl
theorem ln_covers : ∀ ds Q X, sg_covers.sp ds Q X → (if sg_covers.row then 1 else 0) + ds.length = sg_covers.ps.length := by
  rintro ds Q X ⟨v, q, rfl, _⟩; rfl
theorem ln_places : ∀ ds Q X, sg_places.sp ds Q X → (if sg_places.row then 1 else 0) + ds.length = sg_places.ps.length := by
  rintro ds Q X ⟨v, q, rfl, _⟩; rfl
theorem tup1 {v : PyData} {n : Int} (h : isTupB v n n = true) : ∃ es, v = .tuple es ∧ (es.length : Int) = n := by
  cases v <;> first | (cases h; done) | skip
  rename_i es
  have h : (decide (n ≤ (es.length : Int)) && decide ((es.length : Int) ≤ n)) = true := h
  simp at h
  exact ⟨es, rfl, by omega⟩
theorem wp_is_cloth : ∀ ds Q X, sg_is_cloth.sp ds Q X → wpSs gam_is_cloth b_is_cloth (rho0 3 sg_is_cloth.row ds) (postOf Q X) := by
  rintro ds Q X ⟨v, rfl, hq⟩
  simp [b_is_cloth]
  refine ⟨_, _, _, rfl, ?_⟩
  cases ht : isTupB v 3 3 with
  | false =>
    have : isClothB v = false := by
      unfold isClothB
      split
      · cases ht
      · rfl
    rw [this] at hq
    simpa using hq
  | true =>
    obtain ⟨es, rfl, hl⟩ := tup1 ht
    obtain ⟨w, l, h, rfl⟩ := len3 (show es.length = 3 by omega)
    simp
    refine ⟨_, _, _, rfl, ?_⟩
    have hq : Q (.bool (isIntB w 1 5 && (isIntB l 1 8 && (isCellsB h 0 10 && (elems h).all fun c => decide (x0 c < intD l) && decide (x1 c < intD w))))) := hq
    cases h1 : isIntB w 1 5 with
    | false => rw [h1] at hq; simpa using hq
    | true =>
      obtain ⟨w, rfl, hw⟩ := isInt_iff.mp h1
      rw [h1, Bool.true_and] at hq
      simp
      refine ⟨_, _, _, rfl, ?_⟩
      cases h2 : isIntB l 1 8 with
      | false => rw [h2] at hq; simpa using hq
      | true =>
        obtain ⟨l, rfl, hl2⟩ := isInt_iff.mp h2
        rw [h2, Bool.true_and] at hq
        simp
        refine ⟨_, _, _, rfl, by omega, ?_⟩
        cases h3 : isCellsB h 0 10 with
        | false => rw [h3] at hq; simpa using hq
        | true =>
          obtain ⟨cs, rfl, a1, a2, a3⟩ := cells_iff.mp h3
          rw [h3, Bool.true_and] at hq
          simp
          unfold csD
          simp
          intro _
          refine wpL_ofS (c := pr2) (h := fun c : Cell => .bool (decide (c.1 < l) && decide (c.2 < w))) (fun c hc k hk => ?_) ?_
          · unfold pr2 tI
            simp
            by_cases hc1 : c.1 < l
            · simp [hc1] at hk ⊢; exact hk
            · simp [hc1] at hk ⊢; exact hk
          · rw [all_map]
            have : ((elems (csD cs)).all fun c => decide (x0 c < intD (.int l)) && decide (x1 c < intD (.int w))) = cs.all fun c => decide (c.1 < l) && decide (c.2 < w) := by
              unfold csD elems
              rw [List.all_map]
              rfl
            rw [this] at hq
            simpa using hq
theorem wp_is_piece : ∀ ds Q X, sg_is_piece.sp ds Q X → wpSs gam_is_piece b_is_piece (rho0 3 sg_is_piece.row ds) (postOf Q X) := by
  rintro ds Q X ⟨v, rfl, hq⟩
  simp [b_is_piece]
  refine ⟨_, _, _, rfl, ?_⟩
  cases ht : isTupB v 4 4 with
  | false =>
    have : isPieceB v = false := by
      unfold isPieceB
      split
      · cases ht
      · rfl
    rw [this] at hq
    simpa using hq
  | true =>
    obtain ⟨es, rfl, hl⟩ := tup1 ht
    obtain ⟨c, t, p, o, rfl⟩ := len4 (show es.length = 4 by omega)
    simp
    refine ⟨_, _, _, rfl, by omega, ?_⟩
    have hq : Q (.bool (isCellsB c 1 5 && ((decide (mn ((elems c).map x0) ≤ 0) && decide (mn ((elems c).map x1) ≤ 0)) && ((isIntB t 1 4 && !decide (intD t = 3)) && (isIntB p 1 4 && isIntB o 0 (intD p - 1)))))) := hq
    cases h1 : isCellsB c 1 5 with
    | false => rw [h1] at hq; simpa using hq
    | true =>
      obtain ⟨cs, rfl, a1, a2, a3⟩ := cells_iff.mp h1
      rw [h1, Bool.true_and, els_x0, els_x1] at hq
      have ne : cs ≠ [] := fun z => by subst z; simp at a1
      have nx : xsC cs ≠ [] := by unfold xsC; simpa using ne
      have ny : ysC cs ≠ [] := by unfold ysC; simpa using ne
      simp
      unfold csD
      simp
      intro _
      refine wl_int (c := pr2) (g := fun c => c.1) (fun c hc k hk => by unfold pr2 tI; simp; exact hk) ?_
      have e1 : bltSem .min [PyData.list ((cs.map fun c => c.1).map .int)] = some (.int (mn (xsC cs))) := min_mn nx
      rw [e1]
      simp
      by_cases hx : mn (xsC cs) ≤ 0
      · rw [if_neg (by omega)]
        intro _
        refine wl_int (c := pr2) (g := fun c => c.2) (fun c hc k hk => by unfold pr2 tI; simp; exact hk) ?_
        have e2 : bltSem .min [PyData.list ((cs.map fun c => c.2).map .int)] = some (.int (mn (ysC cs))) := min_mn ny
        rw [e2]
        simp
        by_cases hy : mn (ysC cs) ≤ 0
        · rw [if_neg (by omega)]
          simp only [hx, hy, decide_true, Bool.true_and, Bool.and_true] at hq
          refine ⟨_, _, _, rfl, ?_⟩
          cases h4 : isIntB t 1 4 with
          | false => rw [h4] at hq; simpa using hq
          | true =>
            obtain ⟨t, rfl, ht2⟩ := isInt_iff.mp h4
            rw [h4, Bool.true_and] at hq
            simp only [intD] at hq
            simp
            by_cases h5 : t = 3
            · simp [h5] at hq ⊢
              exact hq
            · simp [h5] at hq ⊢
              refine ⟨_, _, _, rfl, ?_⟩
              cases h6 : isIntB p 1 4 with
              | false => rw [h6] at hq; simpa using hq
              | true =>
                obtain ⟨p, rfl, hp⟩ := isInt_iff.mp h6
                rw [h6, Bool.true_and] at hq
                simp only [intD] at hq
                simp
                exact ⟨_, _, _, rfl, hq⟩
        · rw [if_pos (by omega)]
          simp [hx, hy] at hq ⊢
          exact hq
      · rw [if_pos (by omega)]
        simp [hx] at hq ⊢
        exact hq
theorem wp_quarter_turn : ∀ ds Q X, sg_quarter_turn.sp ds Q X → wpSs gam_quarter_turn b_quarter_turn (rho0 6 sg_quarter_turn.row ds) (postOf Q X) := by
  rintro ds Q X ⟨cs, rfl, hl, hi, hq⟩
  have ne : cs ≠ [] := fun z => by subst z; simp at hl
  have hn := near_r hi.near (.inl rfl : r1 = r1 ∨ _)
  have hne : cs.map r1 ≠ [] := by simpa using ne
  have hll : (cs.map r1).length ≤ 5 := by rw [List.length_map]; exact hl.2
  simp [b_quarter_turn, csD]
  intro _
  refine wl_pr2 (c := pr2) (g := r1) (fun c hc k hk => by unfold pr2 tI; simp; exact hk) ?_
  unfold norm at hq
  have hin := norm_in hn
  generalize cs.map r1 = zs at *
  have nx : xsC zs ≠ [] := by unfold xsC; simpa using hne
  have ny : ysC zs ≠ [] := by unfold ysC; simpa using hne
  simp
  intro _
  refine wl_int (c := pr2) (g := fun c => c.1) (fun c hc k hk => by unfold pr2 tI; simp; exact hk) ?_
  have e1 : bltSem .min [PyData.list ((zs.map fun c => c.1).map .int)] = some (.int (mn (xsC zs))) := min_mn nx
  rw [e1]
  simp
  intro _
  refine wl_int (c := pr2) (g := fun c => c.2) (fun c hc k hk => by unfold pr2 tI; simp; exact hk) ?_
  have e2 : bltSem .min [PyData.list ((zs.map fun c => c.2).map .int)] = some (.int (mn (ysC zs))) := min_mn ny
  rw [e2]
  simp
  intro _
  refine wl_pr2 (c := pr2) (g := shf (-mn (xsC zs)) (-mn (ysC zs))) (fun c hc k hk => by unfold pr2 tI; simp; unfold pr2 tI shf at hk; simpa [Int.sub_eq_add_neg] using hk) ?_
  rw [sorted_cells (by rw [List.length_map]; omega) hin]
  simp
  exact hq
theorem wp_turned_cells : ∀ ds Q X, sg_turned_cells.sp ds Q X → wpSs gam_turned_cells b_turned_cells (rho0 3 sg_turned_cells.row ds) (postOf Q X) := by
  rintro ds Q X ⟨cs, q, rfl, hl, hi, hq0, hq⟩
  obtain ⟨n, rfl⟩ := Int.eq_ofNat_of_zero_le hq0.1
  show wpS _ _ _ _
  rw [s_for]
  simp
  refine ⟨by omega, ?_⟩
  rw [rangeL_eq]
  refine forL_pre (fun pre ρ => ∃ x2 : B, ρ = [.val (csD (trn cs pre.length)), .val (.int (n : Int)), x2]) ⟨_, rfl⟩ ?_ ?_
  · rintro pre a post e ρ k ⟨x2, rfl⟩ hk
    obtain ⟨h1, h2⟩ := trn_in hi pre.length
    simp
    refine ⟨_, rfl, by rw [h2]; exact hl, h1, ?_⟩
    refine hk _ ⟨.val (.int (a : Int)), ?_⟩
    rw [List.length_append]
    simp
    rfl
  · rintro ρ ⟨x2, rfl⟩
    simp
    simpa [trq] using hq
theorem wp_turned : ∀ ds Q X, sg_turned.sp ds Q X → wpSs gam_turned b_turned (rho0 2 sg_turned.row ds) (postOf Q X) := by
  rintro ds Q X ⟨v, u, rfl, hx, hx2, hq⟩
  simp [b_turned]
  refine ⟨_, rfl, demand_b (fun hp => ?_) hx⟩
  refine ⟨_, _, _, rfl, demand_b (fun hu => ?_) (hx2 hp)⟩
  obtain ⟨P, o, rfl⟩ := piece_iff.mp hp
  obtain ⟨q, rfl, hq0⟩ := isInt_iff.mp hu
  simp [pcD]
  exact ⟨_, _, rfl, o.n, o.i, hq0, hq P q o rfl rfl hq0⟩
theorem depth_pr2 (a : Cell) : (pr2 a).depth ≤ 1 := tI_depth
theorem eqv_cs (a b : List Cell) : PyData.eqv (csD a) (csD b) = decide (a = b) := eqv_tmap eqv_pr2
theorem depth_cs (a : List Cell) : (csD a).depth ≤ 2 := by
  have := depthAll_map (c := pr2) (k := 1) depth_pr2 (xs := a)
  show PyData.depthAll _ + 1 ≤ 2
  omega
theorem notin_cs {c : Cell} {cs : List Cell} : cmpSem .NotIn (pr2 c) (csD cs) = some (!decide (c ∈ cs)) := by
  unfold csD
  rw [notin_tmap eqv_pr2 depth_pr2 (by decide)]
  congr
theorem wp_is_free : ∀ ds Q X, sg_is_free.sp ds Q X → wpSs gam_is_free b_is_free (rho0 2 sg_is_free.row ds) (postOf Q X) := by
  rintro ds Q X ⟨C, c, rfl, hq⟩
  have e0 : ixSem (pr2 c) (.int 0) = some (.int c.1) := rfl
  have e1 : ixSem (pr2 c) (.int 1) = some (.int c.2) := rfl
  simp [b_is_free, clD, e0, e1]
  unfold freeB at hq
  by_cases h1 : 0 ≤ c.1
  · by_cases h2 : c.1 < C.l
    · by_cases h3 : 0 ≤ c.2
      · by_cases h4 : c.2 < C.w
        · simp [h1, h2, h3, h4] at hq ⊢
          rw [notin_cs, opt_some]
          exact hq
        · simp [h1, h2, h3, h4] at hq ⊢; exact hq
      · simp [h1, h2, h3] at hq ⊢; exact hq
    · simp [h1, h2] at hq ⊢; exact hq
  · simp [h1] at hq ⊢; exact hq
mutual
theorem kOf_inj : ∀ (d e : PyData), kPl d = true → kPl e = true → kOf d = kOf e → d = e
  | .int i, e, h, k, z => by
    cases e <;> first | (cases k; done) | skip
    · cases z; rfl
    · cases z
  | .tuple ds, e, h, k, z => by
    cases e <;> first | (cases k; done) | skip
    · cases z
    · rename_i es
      have z : NestedKey.tup (kOfs ds) = .tup (kOfs es) := z
      injection z with z
      rw [kOfs_inj ds es h k z]
  | .none, e, h, k, z => by cases h
  | .bool _, e, h, k, z => by cases h
  | .str _, e, h, k, z => by cases h
  | .list _, e, h, k, z => by cases h
  | .dict _, e, h, k, z => by cases h
theorem kOfs_inj : ∀ (ds es : List PyData), kPls ds = true → kPls es = true → kOfs ds = kOfs es → ds = es
  | [], [], _, _, _ => rfl
  | [], _ :: _, _, _, z => by cases z
  | _ :: _, [], _, _, z => by cases z
  | d :: ds, e :: es, h, k, z => by
    have h : (kPl d && kPls ds) = true := h
    have k : (kPl e && kPls es) = true := k
    simp only [Bool.and_eq_true] at h k
    have z : kOf d :: kOfs ds = kOf e :: kOfs es := z
    injection z with z1 z2
    rw [kOf_inj d e h.1 k.1 z1, kOfs_inj ds es h.2 k.2 z2]
end
theorem kPls_pr : ∀ cs : List Cell, kPls (cs.map pr2) = true
  | [] => rfl
  | c :: r => by show (kPl (pr2 c) && kPls (r.map pr2)) = true; rw [kPls_pr r]; rfl
theorem kdep : ∀ cs : List Cell, NestedKey.depthAll (kOfs (cs.map pr2)) ≤ 1
  | [] => by decide
  | c :: r => by
    show max (NestedKey.depth (kOf (pr2 c))) (NestedKey.depthAll (kOfs (r.map pr2))) ≤ 1
    have h1 : NestedKey.depth (kOf (pr2 c)) = 1 := rfl
    have := kdep r
    omega
theorem kOk_cs {cs : List Cell} : kOk (csD cs) = true := by
  show (kPls (cs.map pr2) && decide (NestedKey.depthAll (kOfs (cs.map pr2)) + 1 ≤ 8)) = true
  have := kdep cs
  rw [kPls_pr]
  simp
  omega
theorem kmem_cs {cs : List Cell} {ss : List (List Cell)} : kOf (csD cs) ∈ (ss.map csD).map kOf ↔ cs ∈ ss := by
  rw [List.map_map, List.mem_map]
  constructor
  · rintro ⟨b, hb, e⟩
    have this0 := kOf_inj (csD b) (csD cs) (kPls_pr b) (kPls_pr cs) e
    have : PyData.eqv (csD b) (csD cs) = true := by
      have e2 := eqv_cs b b
      rw [decide_eq_true rfl] at e2
      rw [← this0]; exact e2
    rw [eqv_cs] at this
    rw [← of_decide_eq_true this]; exact hb
  · intro h; exact ⟨cs, h, rfl⟩
theorem iAt_qs {P : Pc} (h : PcOk P) : iAt [(1, [0]), (2, [0, 2]), (4, [0, 1, 2, 3])] P.t = some (qsOf P.t) := by
  rcases h.t with e | e | e <;> rw [e] <;> rfl
end Dl

set_option Elab.async false
set_option linter.all false
set_option maxRecDepth 100000
set_option maxHeartbeats 8000000
namespace Dl
open PySem PySem.Spec PyProof.Rows L2
/-! ### loops that gather -/
theorem forL_acc {α β : Type} {c : α → PyData} {g : α → List β} {f : PyData → Env1 → (Env1 → Prop) → Prop} {M : Nat} (I : List β → Env1 → Prop) : ∀ (xs : List α) (acc : List β) {ρ : Env1} {Q : Env1 → Prop}, I acc ρ → acc.length + (xs.flatMap g).length ≤ M →
    (∀ x ∈ xs, ∀ acc ρ k, I acc ρ → acc.length + (g x).length ≤ M → (∀ ρ', I (acc ++ g x) ρ' → k ρ') → f (c x) ρ k) → (∀ ρ, I (acc ++ xs.flatMap g) ρ → Q ρ) → forL f (xs.map c) ρ Q
  | [], acc, ρ, Q, i, _, _, q => q ρ (by simpa using i)
  | x :: xs, acc, ρ, Q, i, hM, h, q => by
    rw [List.flatMap_cons, List.length_append] at hM
    refine h x List.mem_cons_self acc ρ _ i (by omega) fun ρ' i' => ?_
    refine forL_acc I xs (acc ++ g x) i' (by rw [List.length_append]; omega) (fun y hy => h y (List.mem_cons_of_mem _ hy)) fun ρ2 i2 => q ρ2 ?_
    rw [List.flatMap_cons, ← List.append_assoc]
    exact i2
theorem forL_lks {tf : Int → List Cell} {f : PyData → Env1 → (Env1 → Prop) → Prop} {β : Type} {g : Int × List Cell → List β} {M : Nat} (I : List β → List (List Cell) → Env1 → Prop) : ∀ (qs : List Int) (acc : List β) (seen : List (List Cell)) {ρ : Env1} {K : Env1 → Prop}, I acc seen ρ →
    acc.length + ((lks tf qs seen).flatMap g).length ≤ M → seen.length + qs.length ≤ 100 →
    (∀ q ∈ qs, ∀ acc seen ρ k, I acc seen ρ → seen.length < 100 → (tf q ∈ seen → (∀ ρ', I acc seen ρ' → k ρ') → f (.int q) ρ k) ∧ (tf q ∉ seen → acc.length + (g (q, tf q)).length ≤ M → (∀ ρ', I (acc ++ g (q, tf q)) (seen ++ [tf q]) ρ' → k ρ') → f (.int q) ρ k)) →
    (∀ ρ' seen', I (acc ++ (lks tf qs seen).flatMap g) seen' ρ' → K ρ') → forL f (qs.map .int) ρ K
  | [], acc, seen, ρ, K, i, _, _, _, q => q ρ seen (by simpa [lks] using i)
  | x :: xs, acc, seen, ρ, K, i, hM, hl, h, q => by
    have hx := h x List.mem_cons_self acc seen ρ (fun ρ' => forL f (xs.map .int) ρ' K) i (by simp at hl; omega)
    unfold lks at hM q
    by_cases hs : tf x ∈ seen
    · rw [if_pos hs] at hM q
      exact hx.1 hs fun ρ' i' => forL_lks I xs acc seen i' hM (by simp at hl; omega) (fun y hy => h y (List.mem_cons_of_mem _ hy)) q
    · rw [if_neg hs] at hM q
      rw [List.flatMap_cons, List.length_append] at hM
      refine hx.2 hs (by omega) fun ρ' i' => forL_lks I xs _ _ i' (by rw [List.length_append]; omega) (by simp at hl ⊢; omega) (fun y hy => h y (List.mem_cons_of_mem _ hy)) fun ρ2 seen' i2 => q ρ2 seen' ?_
      rw [List.flatMap_cons, ← List.append_assoc]
      exact i2
theorem rowE_flat {C : Cloth} {q : Int} {cs : List Cell} {x : Int} : rowE C q cs x = (List.range C.w.toNat).flatMap fun y : Nat => if (mv cs x y).all (freeB C) = true then [((q, x, (y : Int)), mv cs x y)] else [] := by
  unfold rowE
  generalize List.range C.w.toNat = ys
  induction ys with
  | nil => rfl
  | cons y r ih =>
    rw [List.flatMap_cons, ← ih, List.filter_cons]
    cases (mv cs x y).all (freeB C) <;> rfl
theorem lk_in {P : Pc} (h : PcOk P) {k : Int × List Cell} (hk : k ∈ lkP P) : (0 ≤ k.1 ∧ k.1 ≤ 3) ∧ k.2 = trq P.cs k.1 ∧ InB k.2 ∧ (1 ≤ k.2.length ∧ k.2.length ≤ 5) := by
  obtain ⟨h1, h2⟩ := lks_mem hk
  obtain ⟨h3, h4⟩ := trn_in h.i k.1.toNat
  refine ⟨qs_in h1, h2, by rw [h2]; exact h3, ?_⟩
  have e : k.2.length = P.cs.length := by rw [h2]; exact h4
  rw [e]
  exact h.n
theorem kcs_eq {a b : List Cell} : kOf (csD a) = kOf (csD b) ↔ a = b := by
  have := kmem_cs (cs := a) (ss := [b])
  simp only [List.map_cons, List.map_nil, List.mem_singleton] at this
  exact this
theorem wp_looks : ∀ ds Q X, sg_looks.sp ds Q X → wpSs gam_looks b_looks (rho0 5 sg_looks.row ds) (postOf Q X) := by
  rintro ds Q X ⟨P, rfl, o, hq⟩
  simp [b_looks]
  show wpS _ _ _ _
  rw [s_for]
  simp [pcD]
  rw [iAt_qs o]
  simp
  intro _
  refine forL_lks (tf := trq P.cs) (g := fun k => [k]) (M := 16777215) (fun acc seen ρ => ∃ x3 x4 : B, ρ = [.val (pcD P), .own (acc.map lkD), .ks (seen.map csD), x3, x4]) (qsOf P.t) [] [] ⟨_, _, rfl⟩ ?_ ?_ ?_ ?_
  · have h1 := len_flat (g := fun k : Int × List Cell => [k]) (B := 1) (xs := lks (trq P.cs) (qsOf P.t) []) (fun _ _ => Nat.le_refl _)
    have h2 := lks_len (f := trq P.cs) (qs := qsOf P.t) (seen := [])
    have h3 := qs_len (t := P.t)
    simp only [List.length_nil]
    omega
  · have h3 := qs_len (t := P.t)
    simp only [List.length_nil]
    omega
  · rintro q hqs acc seen ρ k ⟨x3, x4, rfl⟩ hsl
    refine ⟨fun hs hk => ?_, fun hs hb hk => ?_⟩
    · simp [pcD]
      refine ⟨_, _, rfl, o.n, o.i, qs_in hqs, ?_⟩
      simp [kOk_cs]
      rw [if_neg (fun z => z _ hs rfl)]
      exact hk _ ⟨_, _, rfl⟩
    · simp [pcD]
      refine ⟨_, _, rfl, o.n, o.i, qs_in hqs, ?_⟩
      simp [kOk_cs]
      rw [if_pos (fun a ha z => hs (by rw [← kcs_eq.mp z]; exact ha))]
      refine ⟨by omega, by simp at hb; omega, ?_⟩
      refine hk _ ⟨.val (.int q), .val (csD (trq P.cs q)), ?_⟩
      have e : ksPut (seen.map csD) (csD (trq P.cs q)) = (seen ++ [trq P.cs q]).map csD := by
        unfold ksPut
        rw [if_neg (fun z => hs (kmem_cs.mp z)), List.map_append]; rfl
      have e2 : (acc ++ [(q, trq P.cs q)]).map lkD = acc.map lkD ++ [lkD (q, trq P.cs q)] := by rw [List.map_append]; rfl
      rw [e, e2]
      rfl
  · rintro ρ' seen' ⟨x3, x4, rfl⟩
    simp
    have e : (lks (trq P.cs) (qsOf P.t) []).flatMap (fun k => [k]) = lkP P := by
      unfold lkP
      generalize lks (trq P.cs) (qsOf P.t) [] = l
      induction l with
      | nil => rfl
      | cons a r ih => rw [List.flatMap_cons, ih]; rfl
    first | (rw [e]; exact hq) | simpa [lkP] using hq

theorem rng_xs {l p o : Int} : rangeL o p (rngN o l p) = (xsP l p o).map .int := by
  unfold rangeL xsP
  rw [List.map_map]
  rfl
theorem xsP_len {l p o : Int} : (xsP l p o).length = rngN o l p := by unfold xsP; rw [List.length_map, List.length_range]
theorem wp_covers : ∀ ds Q X, sg_covers.sp ds Q X → wpSs gam_covers b_covers (rho0 11 sg_covers.row ds) (postOf Q X) := by
  rintro ds Q X ⟨C, P, rfl, hC, o, hq⟩
  obtain ⟨_, hn, hr⟩ := xs_eq hC.l o.p o.o
  simp [b_covers]
  show wpS _ _ _ _
  rw [s_for]
  simp
  refine ⟨P, rfl, o, ?_⟩
  simp
  intro _
  have hlen : ([] : List Ent).length + ((lkP P).flatMap fun k => (xsP C.l P.p P.o).flatMap fun x => rowE C k.1 k.2 x).length ≤ 16777215 := by
    have := ents_len (C := C) (xs := xsP C.l P.p P.o) (lk := lkP P) hC.w.2 (by rw [xsP_len]; exact hn) (by
      have h2 := lks_len (f := trq P.cs) (qs := qsOf P.t) (seen := [])
      have h3 := qs_len (t := P.t)
      unfold lkP
      omega)
    unfold entsP at this
    simp only [List.length_nil]
    omega
  refine forL_acc (c := lkD) (M := 16777215) (fun acc ρ => ∃ x3 x4 x5 x6 x7 x8 x9 x10 : B, ρ = [.val (clD C), .val (pcD P), .own (acc.map entT), x3, x4, x5, x6, x7, x8, x9, x10]) (lkP P) [] ⟨_, _, _, _, _, _, _, _, rfl⟩ hlen ?_ ?_
  · rintro ⟨q, cs⟩ hk acc ρ k ⟨x3, x4, x5, x6, x7, x8, x9, x10, rfl⟩ hb hkk
    obtain ⟨hq0, _, hin, hcl⟩ := lk_in o hk
    dsimp only at hb hkk hq0 hin hcl
    simp [lkD]
    rw [s_for]
    simp [wpI, clD, pcD]
    refine ⟨hr, by omega, ?_⟩
    rw [rng_xs]
    refine forL_acc (c := .int) (M := 16777215) (fun acc ρ => ∃ x5 x6 x7 x8 x9 x10 : B, ρ = [.val (clD C), .val (pcD P), .own (acc.map entT), .val (.int q), .val (csD cs), x5, x6, x7, x8, x9, x10]) (xsP C.l P.p P.o) acc ⟨_, _, _, _, _, _, rfl⟩ hb ?_ ?_
    · rintro x hx acc ρ k ⟨x5, x6, x7, x8, x9, x10, rfl⟩ hb hkk
      simp
      rw [s_for]
      simp [clD]
      have hw := hC.w
      refine ⟨by omega, by omega, ?_⟩
      rw [rangeL_eq]
      rw [rowE_flat] at hb hkk
      refine forL_acc (c := fun y : Nat => .int (0 + (y : Int))) (M := 16777215) (fun acc ρ => ∃ x6 x7 x8 x9 x10 : B, ρ = [.val (clD C), .val (pcD P), .own (acc.map entT), .val (.int q), .val (csD cs), .val (.int x), x6, x7, x8, x9, x10]) (List.range C.w.toNat) acc ⟨_, _, _, _, _, rfl⟩ hb ?_ ?_
      · rintro y hy acc ρ k ⟨x6, x7, x8, x9, x10, rfl⟩ hb hkk
        simp [csD]
        intro _
        refine wl_pr2 (c := pr2) (g := fun c : Cell => (x + c.1, (y : Int) + c.2)) (fun c hc k hk => by unfold pr2 tI; simp; exact hk) ?_
        have e : (cs.map fun c : Cell => (x + c.1, (y : Int) + c.2)) = mv cs x y := rfl
        rw [e]
        generalize mv cs x y = zs at *
        simp
        intro _
        refine wpL_ofS (c := pr2) (h := fun c => .bool (freeB C c)) (fun c hc k hk => ⟨C, c, rfl, hk⟩) ?_
        rw [all_map]
        cases hf : zs.all (freeB C) with
        | false =>
          rw [hf] at hb hkk
          simp
          refine hkk _ ⟨.val (.int (y : Int)), .val (.tuple (zs.map pr2)), x8, x9, x10, ?_⟩
          rw [if_neg Bool.false_ne_true, List.append_nil]
          rfl
        | true =>
          rw [hf] at hb hkk
          rw [if_pos rfl] at hb
          simp at hb
          simp
          refine ⟨by omega, hkk _ ⟨.val (.int (y : Int)), .val (.tuple (zs.map pr2)), x8, x9, x10, ?_⟩⟩
          have e2 : (acc ++ [((q, x, (y : Int)), zs)]).map entT = acc.map entT ++ [entT ((q, x, (y : Int)), zs)] := by rw [List.map_append]; rfl
          rw [if_pos rfl, e2]
          rfl
      · rintro ρ ⟨x6, x7, x8, x9, x10, rfl⟩
        exact hkk _ ⟨_, _, _, _, _, _, rfl⟩
    · rintro ρ ⟨x5, x6, x7, x8, x9, x10, rfl⟩
      exact hkk _ ⟨_, _, _, _, _, _, _, _, rfl⟩
  · rintro ρ ⟨x3, x4, x5, x6, x7, x8, x9, x10, rfl⟩
    simp
    exact hq

theorem wp_places : ∀ ds Q X, sg_places.sp ds Q X → wpSs gam_places b_places (rho0 4 sg_places.row ds) (postOf Q X) := by
  rintro ds Q X ⟨v, u, rfl, hx, hx2, hq⟩
  simp [b_places]
  refine ⟨_, rfl, demand_b (fun hc => ?_) hx⟩
  refine ⟨_, rfl, demand_b (fun hp => ?_) (hx2 hc)⟩
  obtain ⟨C, hC, rfl⟩ := cloth_iff.mp hc
  obtain ⟨P, o, rfl⟩ := piece_iff.mp hp
  refine ⟨C, P, rfl, hC, o, ?_⟩
  simp
  intro _
  refine wpL_ofS (c := entT) (h := plD) (fun e _ k hk => by unfold entT; simp; exact hk) ?_
  exact hq C P hC o rfl rfl
end Dl

set_option Elab.async false
set_option linter.all false
set_option maxRecDepth 100000
set_option maxHeartbeats 8000000
namespace Dl
open PySem PySem.Spec PyProof.Rows L2
/-! ### the law's defs -/
theorem ln__law_turned : ∀ ds Q X, sg__law_turned.sp ds Q X → (if sg__law_turned.row then 1 else 0) + ds.length = sg__law_turned.ps.length := by
  rintro ds Q X ⟨v, q, rfl, _⟩; rfl
theorem ln__law_covers : ∀ ds Q X, sg__law_covers.sp ds Q X → (if sg__law_covers.row then 1 else 0) + ds.length = sg__law_covers.ps.length := by
  rintro ds Q X ⟨v, q, rfl, _⟩; rfl
theorem ln__law_cells : ∀ ds Q X, sg__law_cells.sp ds Q X → (if sg__law_cells.row then 1 else 0) + ds.length = sg__law_cells.ps.length := by
  rintro ds Q X ⟨rfl, _⟩; rfl
theorem ln__law_piece : ∀ ds Q X, sg__law_piece.sp ds Q X → (if sg__law_piece.row then 1 else 0) + ds.length = sg__law_piece.ps.length := by
  rintro ds Q X ⟨rfl, _⟩; rfl
theorem ln__law_cloth : ∀ ds Q X, sg__law_cloth.sp ds Q X → (if sg__law_cloth.row then 1 else 0) + ds.length = sg__law_cloth.ps.length := by
  rintro ds Q X ⟨rfl, _⟩; rfl
theorem ltail {zs : List Cell} (hne : zs ≠ []) (hn : Near zs) (hll : zs.length ≤ 5) {cs q x3 x4 x5 x6 : B} {Q : PyData → Prop} {P : Post} (hP : P.rt = Q) (hq : Q (csD (norm zs))) :
    wpSs gam__law_turned (.cons (.asg (.tup (.cons (.name 5 "left") (.cons (.name 6 "low") .nil))) (.tup (.cons (.blt .min (.cons (.lc (.var 3) [("x", 3), ("y", 4)] (.tup (.cons (.name 3 "x") (.cons (.name 4 "y") .nil))) (.of (.var 2)) .nil) .nil)) (.cons (.blt .min (.cons (.lc (.var 4) [("x", 3), ("y", 4)] (.tup (.cons (.name 3 "x") (.cons (.name 4 "y") .nil))) (.of (.var 2)) .nil) .nil)) .nil)))) (.cons (.ret (.blt .tuple (.cons (.blt .sorted (.cons (.lc (.tup (.cons (.bin .Sub (.var 3) (.var 5)) (.cons (.bin .Sub (.var 4) (.var 6)) .nil))) [("x", 3), ("y", 4)] (.tup (.cons (.name 3 "x") (.cons (.name 4 "y") .nil))) (.of (.var 2)) .nil) .nil)) .nil))) .nil)) [cs, q, .val (.list (zs.map pr2)), x3, x4, x5, x6] P := by
  have hin := norm_in hn
  unfold norm at hq
  have nx : xsC zs ≠ [] := by unfold xsC; simpa using hne
  have ny : ysC zs ≠ [] := by unfold ysC; simpa using hne
  simp
  intro _
  refine wl_int (c := pr2) (g := fun c => c.1) (fun c hc k hk => by unfold pr2 tI; simp; exact hk) ?_
  have e1 : bltSem .min [PyData.list ((zs.map fun c => c.1).map .int)] = some (.int (mn (xsC zs))) := min_mn nx
  rw [e1]
  simp
  intro _
  refine wl_int (c := pr2) (g := fun c => c.2) (fun c hc k hk => by unfold pr2 tI; simp; exact hk) ?_
  have e2 : bltSem .min [PyData.list ((zs.map fun c => c.2).map .int)] = some (.int (mn (ysC zs))) := min_mn ny
  rw [e2]
  simp
  intro _
  refine wl_pr2 (c := pr2) (g := shf (-mn (xsC zs)) (-mn (ysC zs))) (fun c hc k hk => by unfold pr2 tI; simp; unfold pr2 tI shf at hk; simpa [Int.sub_eq_add_neg] using hk) ?_
  rw [sorted_cells (by rw [List.length_map]; omega) hin]
  simp
  rw [hP]
  exact hq
def lt_s0 : S := (.ife (.cmp .Eq (.var 1) (.cst (.int 0))) (.cons (.set false 2 (.blt .list (.cons (.var 0) .nil))) .nil) (.cons (.ife (.cmp .Eq (.var 1) (.cst (.int 1))) (.cons (.set false 2 (.lc (.tup (.cons (.bin .Sub (.cst (.int 0)) (.var 4)) (.cons (.var 3) .nil))) [("x", 3), ("y", 4)] (.tup (.cons (.name 3 "x") (.cons (.name 4 "y") .nil))) (.of (.var 0)) .nil)) .nil) (.cons (.ife (.cmp .Eq (.var 1) (.cst (.int 2))) (.cons (.set false 2 (.lc (.tup (.cons (.bin .Sub (.cst (.int 0)) (.var 3)) (.cons (.bin .Sub (.cst (.int 0)) (.var 4)) .nil))) [("x", 3), ("y", 4)] (.tup (.cons (.name 3 "x") (.cons (.name 4 "y") .nil))) (.of (.var 0)) .nil)) .nil) (.cons (.set false 2 (.lc (.tup (.cons (.var 4) (.cons (.bin .Sub (.cst (.int 0)) (.var 3)) .nil))) [("x", 3), ("y", 4)] (.tup (.cons (.name 3 "x") (.cons (.name 4 "y") .nil))) (.of (.var 0)) .nil)) .nil)) .nil)) .nil))
theorem lhead {cs : List Cell} {q : Int} {P : Post} (hl : cs.length ≤ 5) (h : ∀ x3 x4 : B, P.nx [.val (csD cs), .val (.int q), .val (.list ((cs.map (lrt q)).map pr2)), x3, x4, .bad, .bad]) : wpS gam__law_turned lt_s0 [.val (csD cs), .val (.int q), .bad, .bad, .bad, .bad, .bad] P := by
  unfold lt_s0
  rw [s_ife]
  simp
  by_cases h0 : q = 0
  · rw [if_pos h0]
    have e : cs.map (lrt q) = cs := (List.map_congr_left fun c _ => by simp [lrt, h0]).trans (List.map_id cs)
    rw [e] at h
    have e2 : bltSem .list [csD cs] = some (.list (cs.map pr2)) := rfl
    rw [e2, opt_some]
    exact h _ _
  · rw [if_neg h0]
    by_cases h1 : q = 1
    · rw [if_pos h1]
      have e : cs.map (lrt q) = cs.map r1 := List.map_congr_left fun c _ => by simp [lrt, h1]
      rw [e] at h
      unfold csD
      simp
      intro _
      refine wl_pr2 (c := pr2) (g := r1) (fun c hc k hk => by unfold pr2 tI; simp; unfold pr2 tI r1 at hk; simpa using hk) ?_
      exact h _ _
    · rw [if_neg h1]
      by_cases h2 : q = 2
      · rw [if_pos h2]
        have e : cs.map (lrt q) = cs.map r2 := List.map_congr_left fun c _ => by simp [lrt, h2]
        rw [e] at h
        unfold csD
        simp
        intro _
        refine wl_pr2 (c := pr2) (g := r2) (fun c hc k hk => by unfold pr2 tI; simp; unfold pr2 tI r2 at hk; simpa using hk) ?_
        exact h _ _
      · rw [if_neg h2]
        have e : cs.map (lrt q) = cs.map r3 := List.map_congr_left fun c _ => by simp [lrt, h0, h1, h2]
        rw [e] at h
        unfold csD
        simp
        intro _
        refine wl_pr2 (c := pr2) (g := r3) (fun c hc k hk => by unfold pr2 tI; simp; unfold pr2 tI r3 at hk; simpa using hk) ?_
        exact h _ _
theorem wp__law_turned : ∀ ds Q X, sg__law_turned.sp ds Q X → wpSs gam__law_turned b__law_turned (rho0 7 sg__law_turned.row ds) (postOf Q X) := by
  rintro ds Q X ⟨cs, q, rfl, hl, hi, hq0, hq⟩
  have ne : cs ≠ [] := fun z => by subst z; simp at hl
  have hn := near_r hi.near (lrt_is (q := q))
  have hne : cs.map (lrt q) ≠ [] := by simpa using ne
  have hll : (cs.map (lrt q)).length ≤ 5 := by rw [List.length_map]; exact hl.2
  unfold ltn at hq
  show wpSs gam__law_turned (.cons lt_s0 _) _ _
  rw [ss_cons]
  exact lhead hl.2 fun x3 x4 => ltail hne hn hll rfl hq
end Dl

set_option Elab.async false
set_option linter.all false
set_option maxRecDepth 100000
set_option maxHeartbeats 8000000
namespace Dl
open PySem PySem.Spec PyProof.Rows L2
theorem xsL_flat {β : Type} {l p o : Int} {g : Int → List β} : (xsL l p o).flatMap g = (List.range l.toNat).flatMap fun x : Nat => if (x : Int) % p = o then g x else [] := by
  unfold xsL
  generalize List.range l.toNat = xs
  induction xs with
  | nil => rfl
  | cons x r ih =>
    rw [List.flatMap_cons, ← ih, List.filter_cons]
    by_cases h : (x : Int) % p = o
    · rw [if_pos h, if_pos (decide_eq_true h), List.map_cons, List.flatMap_cons]
    · rw [if_neg h, if_neg (by simpa using h)]; rfl
def inC (C : Cloth) (c : Cell) : Bool := decide (c.1 < C.l) && (decide (c.2 < C.w) && !decide (c ∈ C.hs))
theorem rowL_flat {C : Cloth} {q p o : Int} {cs : List Cell} {x : Nat} (hi : InB cs) : (if (x : Int) % p = o then rowE C q cs x else []) = (List.range C.w.toNat).flatMap fun y : Nat => if (decide (((mv cs x y).filter (inC C)).length = (mv cs x y).length) && decide ((x : Int) % p = o)) = true then [((q, (x : Int), (y : Int)), mv cs x y)] else [] := by
  have e : ∀ y : Nat, decide (((mv cs x y).filter (inC C)).length = (mv cs x y).length) = (mv cs x y).all (freeB C) := fun y => by
    have h0 : ∀ c ∈ mv cs x y, inC C c = freeB C c := fun c hc => by
      obtain ⟨d, hd, rfl⟩ := List.mem_map.mp hc
      have := hi d hd
      unfold inC freeB
      rw [decide_eq_true (show 0 ≤ (x : Int) + d.1 by omega), decide_eq_true (show 0 ≤ (y : Int) + d.2 by omega), Bool.true_and, Bool.true_and]
    generalize mv cs x y = zs at h0
    rw [Bool.eq_iff_iff, decide_eq_true_eq, List.all_eq_true]
    first | rw [List.length_filter_eq_length_iff] | rw [List.filter_length_eq_length]
    exact ⟨fun h c hc => by rw [← h0 c hc]; exact h c hc, fun h c hc => by rw [h0 c hc]; exact h c hc⟩
  by_cases h : (x : Int) % p = o
  · rw [if_pos h, rowE_flat]
    congr 1
    funext y
    rw [e y, decide_eq_true h, Bool.and_true]
  · rw [if_neg h]
    have : ∀ ys : List Nat, [] = ys.flatMap fun y : Nat => if (decide (((mv cs x y).filter (inC C)).length = (mv cs x y).length) && decide ((x : Int) % p = o)) = true then [((q, (x : Int), (y : Int)), mv cs x y)] else ([] : List Ent) := by
      intro ys
      induction ys with
      | nil => rfl
      | cons a r ih => rw [List.flatMap_cons, ← ih, decide_eq_false h, Bool.and_false]; rfl
    exact this _
theorem wp__law_covers : ∀ ds Q X, sg__law_covers.sp ds Q X → wpSs gam__law_covers b__law_covers (rho0 13 sg__law_covers.row ds) (postOf Q X) := by
  rintro ds Q X ⟨C, P, rfl, hC, o, hq⟩
  simp [b__law_covers]
  show wpS _ _ _ _
  rw [s_for]
  simp [pcD]
  rw [iAt_qs o]
  simp
  intro _
  have hxl : (xsL C.l P.p P.o).length ≤ 100 := by
    obtain ⟨e, hn, _⟩ := xs_eq hC.l o.p o.o
    rw [← e, xsP_len]; exact hn
  have hlen : ([] : List Ent).length + ((lks (ltn P.cs) (qsOf P.t) []).flatMap fun k => (xsL C.l P.p P.o).flatMap fun x => rowE C k.1 k.2 x).length ≤ 16777215 := by
    have := ents_len (C := C) (xs := xsL C.l P.p P.o) (lk := lks (ltn P.cs) (qsOf P.t) []) hC.w.2 hxl (by
      have h2 := lks_len (f := ltn P.cs) (qs := qsOf P.t) (seen := [])
      have h3 := qs_len (t := P.t)
      omega)
    unfold entsP at this
    simp only [List.length_nil]
    omega
  refine forL_lks (tf := ltn P.cs) (g := fun k => (xsL C.l P.p P.o).flatMap fun x => rowE C k.1 k.2 x) (M := 16777215) (fun acc seen ρ => ∃ x4 x5 x6 x7 x8 x9 x10 x11 x12 : B, ρ = [.val (clD C), .val (pcD P), .own (acc.map entL), .own (seen.map csD), x4, x5, x6, x7, x8, x9, x10, x11, x12]) (qsOf P.t) [] [] ⟨_, _, _, _, _, _, _, _, _, rfl⟩ hlen ?_ ?_ ?_
  · have h3 := qs_len (t := P.t)
    simp only [List.length_nil]
    omega
  · rintro q hqs acc seen ρ k ⟨x4, x5, x6, x7, x8, x9, x10, x11, x12, rfl⟩ hsl
    refine ⟨fun hs hk => ?_, fun hs hb hk => ?_⟩
    · simp [pcD]
      refine ⟨_, _, rfl, o.n, o.i, qs_in hqs, ?_⟩
      simp
      rw [notin_lmap eqv_cs depth_cs (by decide)]
      simp [hs]
      intro _
      exact hk _ ⟨_, _, _, _, _, _, _, _, _, rfl⟩
    · obtain ⟨hin, hcl⟩ := ltn_in o.i q
      simp [pcD]
      refine ⟨_, _, rfl, o.n, o.i, qs_in hqs, ?_⟩
      simp
      rw [notin_lmap eqv_cs depth_cs (by decide)]
      generalize hcs : ltn P.cs q = cs at *
      simp [hs]
      intro _
      refine ⟨by omega, ?_⟩
      rw [s_for]
      simp [clD]
      have hl := hC.l
      have hw := hC.w
      refine ⟨by omega, by omega, ?_⟩
      rw [rangeL_eq]
      dsimp only at hb hk
      rw [xsL_flat] at hb hk
      refine forL_acc (c := fun y : Nat => .int (0 + (y : Int))) (M := 16777215) (fun acc ρ => ∃ x6 x7 x8 x9 x10 x11 x12 : B, ρ = [.val (clD C), .val (pcD P), .own (acc.map entL), .own ((seen ++ [cs]).map csD), .val (.int q), .val (csD cs), x6, x7, x8, x9, x10, x11, x12]) (List.range C.l.toNat) acc ⟨x6, x7, x8, x9, x10, x11, x12, ?_⟩ hb ?_ ?_
      · rw [List.map_append]; rfl
      · rintro x hx acc ρ k ⟨x6, x7, x8, x9, x10, x11, x12, rfl⟩ hb hkk
        simp
        rw [s_for]
        simp [clD]
        refine ⟨by omega, by omega, ?_⟩
        rw [rangeL_eq]
        rw [rowL_flat hin] at hb hkk
        refine forL_acc (c := fun y : Nat => .int (0 + (y : Int))) (M := 16777215) (fun acc ρ => ∃ x7 x8 x9 x10 x11 x12 : B, ρ = [.val (clD C), .val (pcD P), .own (acc.map entL), .own ((seen ++ [cs]).map csD), .val (.int q), .val (csD cs), .val (.int (x : Int)), x7, x8, x9, x10, x11, x12]) (List.range C.w.toNat) acc ⟨x7, x8, x9, x10, x11, x12, ?_⟩ hb ?_ ?_
        · simp [clD]
        · rintro y hy acc ρ k ⟨x7, x8, x9, x10, x11, x12, rfl⟩ hb hkk
          simp [csD]
          intro _
          refine wl_pr2 (c := pr2) (g := fun c : Cell => ((x : Int) + c.1, (y : Int) + c.2)) (fun c hc k hk => by unfold pr2 tI; simp; exact hk) ?_
          have e : (cs.map fun c : Cell => ((x : Int) + c.1, (y : Int) + c.2)) = mv cs x y := rfl
          rw [e]
          generalize mv cs x y = zs at *
          simp
          intro _
          refine wpL_of (c := pr2) (g := fun c => if inC C c = true then some (pr2 c) else none) (fun c hc k hk => ?_) ?_
          · have e0 : ixSem (pr2 c) (.int 0) = some (.int c.1) := rfl
            have e1 : ixSem (pr2 c) (.int 1) = some (.int c.2) := rfl
            simp [clD, e0, e1]
            unfold inC at hk
            by_cases h1 : c.1 < C.l
            · by_cases h2 : c.2 < C.w
              · rw [if_pos h1, if_pos h2, notin_cs, opt_some]
                rw [decide_eq_true h1, decide_eq_true h2, Bool.true_and, Bool.true_and] at hk
                by_cases hm : c ∈ C.hs
                · simp [hm] at hk ⊢; exact hk
                · simp [hm] at hk ⊢; exact hk
              · simp [h1, h2] at hk ⊢; exact hk
            · simp [h1] at hk ⊢; exact hk
          · rw [filterMap_b]
            simp
            by_cases hf : (zs.filter (inC C)).length = zs.length
            · rw [if_pos (by rw [hf])]
              simp [pcD]
              rw [bin_mod (by have := o.p; omega)]
              simp
              by_cases hm : (x : Int) % P.p = P.o
              · rw [if_pos hm]
                rw [decide_eq_true hf, decide_eq_true hm, Bool.true_and] at hb hkk
                rw [if_pos rfl] at hb
                simp at hb
                refine ⟨by omega, hkk _ ⟨.val (.int (y : Int)), .val (.list (zs.map pr2)), x9, x10, .val (.list ((zs.filter (inC C)).map pr2)), x12, ?_⟩⟩
                have e2 : (acc ++ [((q, (x : Int), (y : Int)), zs)]).map entL = acc.map entL ++ [entL ((q, (x : Int), (y : Int)), zs)] := by rw [List.map_append]; rfl
                rw [if_pos rfl, e2, List.map_append]
                rfl
              · rw [if_neg hm]
                rw [decide_eq_false hm, Bool.and_false] at hkk
                refine hkk _ ⟨.val (.int (y : Int)), .val (.list (zs.map pr2)), x9, x10, .val (.list ((zs.filter (inC C)).map pr2)), x12, ?_⟩
                rw [if_neg Bool.false_ne_true, List.append_nil, List.map_append]
                rfl
            · rw [if_neg (by omega)]
              rw [decide_eq_false hf, Bool.false_and] at hkk
              refine hkk _ ⟨.val (.int (y : Int)), .val (.list (zs.map pr2)), x9, x10, .val (.list ((zs.filter (inC C)).map pr2)), x12, ?_⟩
              rw [if_neg Bool.false_ne_true, List.append_nil, List.map_append]
              rfl
        · rintro ρ ⟨x7, x8, x9, x10, x11, x12, rfl⟩
          exact hkk _ ⟨_, _, _, _, _, _, _, rfl⟩
      · rintro ρ ⟨x6, x7, x8, x9, x10, x11, x12, rfl⟩
        exact hk _ ⟨_, _, _, _, _, _, _, _, _, rfl⟩
  · rintro ρ' seen' ⟨x4, x5, x6, x7, x8, x9, x10, x11, x12, rfl⟩
    simp
    exact hq
end Dl

set_option Elab.async false
set_option linter.all false
set_option maxRecDepth 100000
set_option maxHeartbeats 8000000
namespace Dl
open PySem PySem.Spec PyProof.Rows L2
/-! ### cells without repeats, in order -/
def srtN (cs : List Cell) : List Cell := (sortT (nub (cs.map toL))).map ofL
theorem srtN_toL {cs : List Cell} : (srtN cs).map toL = sortT (nub (cs.map toL)) := by
  unfold srtN
  rw [List.map_map]
  refine (List.map_congr_left fun t ht => ?_).trans (List.map_id _)
  have := mem_nub.mp ((sortT_perm _).mem_iff.mp ht)
  obtain ⟨c, _, rfl⟩ := List.mem_map.mp this
  rfl
theorem mem_srtN {cs : List Cell} {c : Cell} : c ∈ srtN cs ↔ c ∈ cs := by
  constructor
  · intro h
    have h1 : toL c ∈ (srtN cs).map toL := List.mem_map.mpr ⟨c, h, rfl⟩
    rw [srtN_toL] at h1
    obtain ⟨d, hd, e⟩ := List.mem_map.mp (mem_nub.mp ((sortT_perm _).mem_iff.mp h1))
    rw [← toL_inj e]; exact hd
  · intro h
    have h1 : toL c ∈ sortT (nub (cs.map toL)) := (sortT_perm _).mem_iff.mpr (mem_nub.mpr (List.mem_map.mpr ⟨c, h, rfl⟩))
    rw [← srtN_toL] at h1
    obtain ⟨d, hd, e⟩ := List.mem_map.mp h1
    rw [← toL_inj e]; exact hd
theorem srtN_len {cs : List Cell} : (srtN cs).length ≤ cs.length := by
  have := congrArg List.length (srtN_toL (cs := cs))
  rw [List.length_map, (sortT_perm _).length_eq] at this
  have h2 := nub_le (cs.map toL)
  rw [List.length_map] at h2
  omega
theorem rise_of {l : List Cell} (h : l.Pairwise fun a b => Cle a b ∧ a ≠ b) : risingBy ltB l = true := by
  induction l with
  | nil => rfl
  | cons a r ih =>
    cases r with
    | nil => rfl
    | cons b r =>
      obtain ⟨h1, h2⟩ := List.pairwise_cons.mp h
      unfold risingBy
      rw [Bool.and_eq_true]
      refine ⟨?_, ih h2⟩
      obtain ⟨c1, c2⟩ := h1 b List.mem_cons_self
      unfold Cle toL at c1
      unfold ltB toL
      simp only [lexLe, Bool.or_eq_true, Bool.and_eq_true, decide_eq_true_eq] at c1
      simp only [HT.lexLt]
      by_cases e1 : a.1 = b.1
      · rw [if_pos e1]
        have e2 : a.2 ≠ b.2 := fun z => c2 (Prod.ext e1 z)
        rw [if_neg e2]
        simp only [decide_eq_true_eq]
        omega
      · rw [if_neg e1]
        simp only [decide_eq_true_eq]
        omega
theorem srtN_rise {cs : List Cell} : risingBy ltB (srtN cs) = true := by
  refine rise_of ?_
  have h1 := sortT_sorted (nub (cs.map toL))
  have h2 : (sortT (nub (cs.map toL))).Nodup := (sortT_perm _).nodup_iff.mpr (nub_nodup _)
  rw [← srtN_toL, List.pairwise_map] at h1
  rw [← srtN_toL] at h2
  have h3 : ((srtN cs).map toL).Pairwise (· ≠ ·) := h2
  rw [List.pairwise_map] at h3
  exact h1.imp₂ (fun a b x y => ⟨x, fun z => y (by rw [z])⟩) h3
theorem setSort_cells {zs : List Cell} (hl : zs.length < 64) (h : InB zs) : spSem .setSort (.list (zs.map pr2)) = some (.list ((srtN zs).map pr2)) := by
  rw [pr2_toL, setSort_tups (by rw [List.length_map]; exact hl) (okT_cells h), pr2_toL, srtN_toL]
theorem wp__law_cloth : ∀ ds Q X, sg__law_cloth.sp ds Q X → wpSs gam__law_cloth b__law_cloth (rho0 7 sg__law_cloth.row ds) (postOf Q X) := by
  rintro ds Q X ⟨rfl, hq⟩
  simp [b__law_cloth]
  refine taken_all (by decide) (by decide) fun w hw0 hw1 => ?_
  simp
  refine taken_all (by decide) (by decide) fun l hl0 hl1 => ?_
  simp
  refine pick_all (by decide) (by decide) fun d hd => ?_
  have : ∃ n : Int, d = .int n ∧ 0 ≤ n ∧ n ≤ 3 := by
    simp at hd
    rcases hd with rfl | rfl | rfl <;> exact ⟨_, rfl, by decide, by decide⟩
  obtain ⟨n, rfl, hn0, hn1⟩ := this
  simp
  refine ⟨by omega, by omega, ?_⟩
  refine wpL_rel (R := fun d => ∃ c : Cell, d = pr2 c ∧ (0 ≤ c.1 ∧ c.1 < 1 + l) ∧ 0 ≤ c.2 ∧ c.2 < 1 + w) (fun x _ k hk => ?_) fun ys hlen hys => ?_
  · refine taken_all (by omega) (by omega) fun a ha0 ha1 => ?_
    refine taken_all (by omega) (by omega) fun b hb0 hb1 => ?_
    exact hk _ ⟨(a, b), rfl, ⟨ha0, ha1⟩, hb0, hb1⟩
  · obtain ⟨cs, rfl, hcs⟩ := rel_of (c := pr2) (R := fun c : Cell => (0 ≤ c.1 ∧ c.1 < 1 + l) ∧ 0 ≤ c.2 ∧ c.2 < 1 + w) hys
    have hcl : cs.length ≤ 3 := by
      rw [List.length_map] at hlen
      unfold rangeL at hlen
      simp at hlen
      omega
    have hin : InB cs := fun c hc => by have := hcs c hc; omega
    rw [setSort_cells (by omega) hin]
    simp
    have := srtN_len (cs := cs)
    exact hq ⟨1 + w, 1 + l, srtN cs⟩ ⟨by show 1 ≤ 1 + w ∧ 1 + w ≤ 5; omega, by show 1 ≤ 1 + l ∧ 1 + l ≤ 8; omega, by show (srtN cs).length ≤ 10; omega, fun c hc => hin c (mem_srtN.mp hc), srtN_rise, fun c hc => by have := hcs c (mem_srtN.mp hc); exact ⟨this.1.2, this.2.2⟩⟩
theorem wp__law_piece : ∀ ds Q X, sg__law_piece.sp ds Q X → wpSs gam__law_piece b__law_piece (rho0 3 sg__law_piece.row ds) (postOf Q X) := by
  rintro ds Q X ⟨rfl, hq⟩
  simp [b__law_piece]
  refine taken_all (by decide) (by decide) fun e he0 he1 => ?_
  refine pick_all (by simp) (by simp) fun d hd => ?_
  have : ∃ n : Int, d = .int n ∧ 0 ≤ n ∧ n ≤ 3 := by
    simp at hd
    rcases hd with rfl | rfl
    · exact ⟨_, rfl, by decide, by decide⟩
    · exact ⟨_, rfl, by omega, by omega⟩
  obtain ⟨p, rfl, hp0, hp1⟩ := this
  simp
  refine ⟨rfl, fun cs hc => ?_⟩
  refine pick_all (by decide) (by decide) fun d hd => ?_
  have : ∃ t : Int, d = .int t ∧ (t = 1 ∨ t = 2 ∨ t = 4) := by
    simp at hd
    rcases hd with rfl | rfl | rfl
    · exact ⟨_, rfl, .inl rfl⟩
    · exact ⟨_, rfl, .inr (.inl rfl)⟩
    · exact ⟨_, rfl, .inr (.inr rfl)⟩
  obtain ⟨t, rfl, ht⟩ := this
  refine taken_all (by omega) (by omega) fun o ho0 ho1 => ?_
  exact hq ⟨cs, t, 1 + p, o⟩ ⟨hc.n, hc.i, hc.r, hc.x, hc.y, ht, by show 1 ≤ 1 + p ∧ 1 + p ≤ 4; omega, ho0, ho1⟩

theorem srtN_ok {zs : List Cell} (hne : zs ≠ []) (hn : Near zs) (hl : zs.length ≤ 5) : CsOk (srtN (zs.map (shf (-mn (xsC zs)) (-mn (ysC zs))))) := by
  have nx : xsC zs ≠ [] := by unfold xsC; simpa using hne
  have ny : ysC zs ≠ [] := by unfold ysC; simpa using hne
  obtain ⟨a1, _⟩ := mn_is nx
  obtain ⟨b1, _⟩ := mn_is ny
  obtain ⟨u, hu, eu⟩ := List.mem_map.mp a1
  obtain ⟨v, hv, ev⟩ := List.mem_map.mp b1
  have hin := norm_in hn
  have h1 := srtN_len (cs := zs.map (shf (-mn (xsC zs)) (-mn (ysC zs))))
  rw [List.length_map] at h1
  have mu : shf (-mn (xsC zs)) (-mn (ysC zs)) u ∈ srtN (zs.map (shf (-mn (xsC zs)) (-mn (ysC zs)))) := mem_srtN.mpr (List.mem_map.mpr ⟨u, hu, rfl⟩)
  have mv : shf (-mn (xsC zs)) (-mn (ysC zs)) v ∈ srtN (zs.map (shf (-mn (xsC zs)) (-mn (ysC zs)))) := mem_srtN.mpr (List.mem_map.mpr ⟨v, hv, rfl⟩)
  refine ⟨⟨List.length_pos_of_mem mu, by omega⟩, fun c hc => hin c (mem_srtN.mp hc), srtN_rise, ⟨_, mu, ?_⟩, ⟨_, mv, ?_⟩⟩
  · simp only [shf]; omega
  · simp only [shf]; omega
theorem wp__law_cells : ∀ ds Q X, sg__law_cells.sp ds Q X → wpSs gam__law_cells b__law_cells (rho0 10 sg__law_cells.row ds) (postOf Q X) := by
  rintro ds Q X ⟨rfl, hq⟩
  simp [b__law_cells]
  show wpS _ _ _ _
  rw [s_for]
  simp
  refine taken_all (by decide) (by decide) fun r hr0 hr1 => ?_
  obtain ⟨n, rfl⟩ := Int.eq_ofNat_of_zero_le hr0
  simp
  refine ⟨by omega, ?_⟩
  rw [rangeL_eq]
  refine forL_pre (c := fun y : Nat => .int (0 + (y : Int))) (fun pre ρ => ∃ (zs : List Cell) (x3 x4 x5 x6 x7 : B), ρ = [.row, .val (.int 5), .own (zs.map pr2), x3, x4, x5, x6, x7, .bad, .bad] ∧ zs.length = pre.length + 1 ∧ ∀ c ∈ zs, (-(pre.length : Int) ≤ c.1 ∧ c.1 ≤ pre.length) ∧ -(pre.length : Int) ≤ c.2 ∧ c.2 ≤ pre.length) ⟨[(0, 0)], _, _, _, _, _, rfl, rfl, fun c hc => by rw [List.mem_singleton.mp hc]; decide⟩ ?_ ?_
  · rintro pre a post e ρ k ⟨zs, x3, x4, x5, x6, x7, rfl, hl, hz⟩ hk
    have hpre : pre.length < n := by
      have := congrArg List.length e
      simp at this
      omega
    simp
    refine pick_all (by simp; omega) (by simp; omega) fun d hd => ?_
    obtain ⟨c, hc, rfl⟩ := List.mem_map.mp hd
    refine ⟨rfl, ?_⟩
    unfold pr2 tI
    simp
    refine pick_all (by decide) (by decide) fun d hd => ?_
    have : ∃ m : Cell, d = .tuple [.int m.1, .int m.2] ∧ (-1 ≤ m.1 ∧ m.1 ≤ 1) ∧ -1 ≤ m.2 ∧ m.2 ≤ 1 := by
      simp at hd
      rcases hd with rfl | rfl | rfl | rfl | rfl
      · exact ⟨(1, 0), rfl, by decide⟩
      · exact ⟨(0, 1), rfl, by decide⟩
      · exact ⟨(-1, 0), rfl, by decide⟩
      · exact ⟨(0, -1), rfl, by decide⟩
      · exact ⟨(1, 1), rfl, by decide⟩
    obtain ⟨m, rfl, hm⟩ := this
    simp
    refine ⟨by omega, ?_⟩
    refine hk _ ⟨zs ++ [(c.1 + m.1, c.2 + m.2)], .val (.int (a : Int)), .val (.int c.1), .val (.int c.2), .val (.int m.1), .val (.int m.2), ?_, by simp [hl], fun d hd => ?_⟩
    · rw [List.map_append]; rfl
    · have hcz := hz c hc
      simp only [List.length_append, List.length_singleton]
      rcases List.mem_append.mp hd with hd | hd
      · have := hz d hd
        omega
      · rw [List.mem_singleton.mp hd]
        show (-((pre.length + 1 : Nat) : Int) ≤ c.1 + m.1 ∧ c.1 + m.1 ≤ ((pre.length + 1 : Nat) : Int)) ∧ -((pre.length + 1 : Nat) : Int) ≤ c.2 + m.2 ∧ c.2 + m.2 ≤ ((pre.length + 1 : Nat) : Int)
        omega
  · rintro ρ ⟨zs, x3, x4, x5, x6, x7, rfl, hl, hz⟩
    rw [List.length_range] at hl hz
    have hne : zs ≠ [] := fun z => by subst z; simp at hl
    have hn : Near zs := fun c hc d hd => by
      have := hz c hc
      have := hz d hd
      omega
    have hok := srtN_ok hne hn (by omega)
    have hin := norm_in hn
    have nx : xsC zs ≠ [] := by unfold xsC; simpa using hne
    have ny : ysC zs ≠ [] := by unfold ysC; simpa using hne
    simp
    intro _
    refine wl_int (c := pr2) (g := fun c => c.1) (fun c hc k hk => by unfold pr2 tI; simp; exact hk) ?_
    have e1 : bltSem .min [PyData.list ((zs.map fun c => c.1).map .int)] = some (.int (mn (xsC zs))) := min_mn nx
    rw [e1]
    simp
    intro _
    refine wl_int (c := pr2) (g := fun c => c.2) (fun c hc k hk => by unfold pr2 tI; simp; exact hk) ?_
    have e2 : bltSem .min [PyData.list ((zs.map fun c => c.2).map .int)] = some (.int (mn (ysC zs))) := min_mn ny
    rw [e2]
    simp
    intro _
    refine wl_pr2 (c := pr2) (g := shf (-mn (xsC zs)) (-mn (ysC zs))) (fun c hc k hk => by unfold pr2 tI; simp; unfold pr2 tI shf at hk; simpa [Int.sub_eq_add_neg] using hk) ?_
    rw [setSort_cells (by rw [List.length_map]; omega) hin]
    simp
    exact hq _ hok
end Dl

set_option Elab.async false
set_option linter.all false
set_option maxRecDepth 100000
set_option maxHeartbeats 8000000
namespace Dl
open PySem PySem.Spec PyProof.Rows L2
theorem csD_inj {a b : List Cell} (h : csD a = csD b) : a = b := kcs_eq.mp (by rw [h])
theorem clD_inj {a b : Cloth} (h : clD a = clD b) : a = b := by
  unfold clD at h
  simp only [PyData.tuple.injEq, List.cons.injEq, PyData.int.injEq, and_true] at h
  obtain ⟨h1, h2, h3⟩ := h
  have := csD_inj h3
  cases a; cases b; simp_all
theorem pcD_inj {a b : Pc} (h : pcD a = pcD b) : a = b := by
  unfold pcD at h
  simp only [PyData.tuple.injEq, List.cons.injEq, PyData.int.injEq, and_true] at h
  obtain ⟨h1, h2, h3, h4⟩ := h
  have := csD_inj h1
  cases a; cases b; simp_all
theorem places_sp {C : Cloth} {p : Pc} (hC : ClothOk C) (o : PcOk p) {Q : PyData → Prop} {X : Str → Prop} (h : Q (.tuple ((pE C p).map plD))) : sg_places.sp [clD C, pcD p] Q X := by
  refine ⟨_, _, rfl, fun z => ?_, fun _ z => ?_, fun C' P' _ _ e1 e2 => ?_⟩
  · rw [cloth_iff.mpr ⟨C, hC, rfl⟩] at z; cases z
  · rw [piece_iff.mpr ⟨p, o, rfl⟩] at z; cases z
  · rw [← clD_inj e1, ← pcD_inj e2]; exact h
theorem turned_sp {p : Pc} {q : Int} (o : PcOk p) (hq : 0 ≤ q ∧ q ≤ 3) {Q : PyData → Prop} {X : Str → Prop} (h : Q (csD (trq p.cs q))) : sg_turned.sp [pcD p, .int q] Q X := by
  refine ⟨_, _, rfl, fun z => ?_, fun _ z => ?_, fun P' q' _ e1 e2 _ => ?_⟩
  · rw [piece_iff.mpr ⟨p, o, rfl⟩] at z; cases z
  · rw [isInt_iff.mpr ⟨q, rfl, hq⟩] at z; cases z
  · cases e2
    rw [← pcD_inj e1]; exact h
theorem okDs_mapI {α : Type} {c : α → PyData} {n : Nat} (h : ∀ a, okD n (c a) = true) : ∀ {xs : List α}, okDs n (xs.map c) = true
  | [] => by cases n <;> rfl
  | a :: r => by
    rw [List.map_cons]
    unfold okDs
    rw [h a, okDs_mapI h (xs := r)]
    rfl
theorem okD_mapI {α : Type} {c : α → PyData} {n : Nat} (h : ∀ a, okD n (c a) = true) {xs : List α} (hl : xs.length ≤ 1000000) : okD (n + 1) (.tuple (xs.map c)) = true := by
  unfold okD
  simp [okDs_mapI h, hl]
theorem okD_pl (e : Ent) : okD 3 (plD e) = true := okD_tI (ns := [e.1.1, e.1.2.1, e.1.2.2]) (by simp)
theorem okD_pr2 (c : Cell) : okD 3 (pr2 c) = true := okD_tI (ns := [c.1, c.2]) (by simp)
theorem w_lc2 {Γ : Gam} {ρ : Env1} {X : Str → Prop} {elt : E} {own : List (Str × Nat)} {tg : Pat} {it : It1} {cs : EL} {vs1 : List Nat} {tg1 : Pat} {it1 : It1} {cs1 : EL} {Q : PyData → Prop} : wpE Γ (.lc2 elt own tg it cs vs1 tg1 it1 cs1) ρ Q X =
    wpI Γ it ρ (fun items => items.length ≤ 4096 ∧ wpLL (fun x k => opt (bindP tg x (wipeB ρ (own.map (·.2)))) fun ρ' =>
      wpTAnds Γ cs ρ' (fun b => if b = true then wpI Γ it1 ρ' (fun items1 => items1.length ≤ 4096 ∧ wpL (fun x1 k1 => opt (bindP tg1 x1 (wipeB ρ' vs1)) fun ρ1 =>
        wpTAnds Γ cs1 ρ1 (fun b1 => if b1 = true then wpE Γ elt ρ1 (fun y => k1 (some y)) (fun _ => False) else k1 none) (fun _ => False)) items1 k) (fun _ => False) else k []) (fun _ => False)) items fun ys => Q (.list ys)) X := rfl
section
variable {P : Post} {C : Cloth} {p : Pc}
theorem cs0 {y1 y2 : B} {x3 x4 x5 x6 x7 x8 x9 x10 x11 x12 x13 : B} (hh : ∀ C p, ClothOk C → PcOk p → P.nx [B.row, .val (clD C), .val (pcD p), x3, x4, x5, x6, x7, x8, x9, x10, x11, x12, x13]) : wpS gam__law_case b__law_case_0 [B.row, y1, y2, x3, x4, x5, x6, x7, x8, x9, x10, x11, x12, x13] P := by
  simp [b__law_case_0]
  refine ⟨rfl, fun C hC => ?_⟩
  refine ⟨rfl, fun p o => ?_⟩
  simp
  exact hh C p hC o
theorem cs1 {x3 x4 x5 x6 x7 x8 x9 x10 x11 x12 x13 : B} (hC : ClothOk C) (o : PcOk p) (hh : P.nx [B.row, .val (clD C), .val (pcD p), x3, x4, x5, x6, x7, x8, x9, x10, x11, x12, x13]) : wpS gam__law_case b__law_case_1 [B.row, .val (clD C), .val (pcD p), x3, x4, x5, x6, x7, x8, x9, x10, x11, x12, x13] P := by
  simp [b__law_case_1]
  refine places_sp hC o ?_
  refine ⟨C, p, rfl, hC, o, ?_⟩
  simp
  intro _
  refine wpL_ofS (c := entL) (h := plD) (fun e _ k hk => by unfold entL; simp; exact hk) ?_
  rw [pE_lE hC o]
  have hl : (lE C p).length ≤ 1000000 := by
    obtain ⟨e, hn, _⟩ := xs_eq hC.l o.p o.o
    have := ents_len (C := C) (xs := xsL C.l p.p p.o) (lk := lkL p) hC.w.2 (by rw [← e, xsP_len]; exact hn) (by
      have h2 := lks_len (f := ltn p.cs) (qs := qsOf p.t) (seen := [])
      have h3 := qs_len (t := p.t)
      unfold lkL
      omega)
    unfold lE
    omega
  refine alike_same (okD_mapI okD_pl hl) ?_
  simp
  exact hh
theorem cs2 {x3 x4 x5 x6 x7 x8 x9 x10 x11 x12 x13 : B} (o : PcOk p) (hh : ∀ x5 : B, P.nx [B.row, .val (clD C), .val (pcD p), x3, x4, x5, x6, x7, x8, x9, x10, x11, x12, x13]) : wpS gam__law_case b__law_case_2 [B.row, .val (clD C), .val (pcD p), x3, x4, x5, x6, x7, x8, x9, x10, x11, x12, x13] P := by
  unfold b__law_case_2
  rw [s_for]
  simp
  rw [rangeL_eq]
  refine forL_pre (c := fun y : Nat => .int (0 + (y : Int))) (fun pre ρ => ∃ x5 : B, ρ = [B.row, .val (clD C), .val (pcD p), x3, x4, x5, x6, x7, x8, x9, x10, x11, x12, x13]) ⟨_, rfl⟩ ?_ ?_
  · rintro pre a post e ρ k ⟨x5, rfl⟩ hk
    have ha : a < 4 := by
      have : a ∈ List.range 4 := by
        have e : List.range 4 = pre ++ a :: post := e
        rw [e]; simp
      exact List.mem_range.mp this
    simp
    refine ⟨rfl, turned_sp o (by omega) ?_⟩
    have e0 : ixSem (pcD p) (.int 0) = some (csD p.cs) := rfl
    rw [e0, opt_some]
    refine ⟨_, _, rfl, o.n, o.i, by omega, ?_⟩
    have e1 : trq p.cs (a : Int) = ltn p.cs (a : Int) := trn_ltn o.ne o.norm (by omega)
    rw [e1]
    refine alike_same (okD_mapI okD_pr2 ?_) ?_
    · have := (ltn_in o.i (a : Int)).2
      have := o.n
      omega
    · simp
      exact hk _ ⟨_, rfl⟩
  · rintro ρ ⟨x5, rfl⟩
    exact hh x5
theorem cs3 {x1 x2 x3 x4 x5 x7 x8 x9 x10 x11 x12 x13 : B} (hh : ∀ d, isClothB d = false → P.nx [B.row, x1, x2, x3, x4, x5, .val d, x7, x8, x9, x10, x11, x12, x13]) : wpS gam__law_case b__law_case_3 [B.row, x1, x2, x3, x4, x5, x6, x7, x8, x9, x10, x11, x12, x13] P := by
  simp [b__law_case_3, w_lc2]
  rw [show rangeL 0 1 3 = [.int 0, .int 1, .int 2] from rfl, show rangeL 0 1 4 = [.int 0, .int 1, .int 2, .int 3] from rfl]
  simp [wpLL, wpL]
  refine pick_all (by simp) (by simp) fun d hd => hh d ?_
  simp only [List.mem_cons, List.not_mem_nil, or_false] at hd
  rcases hd with rfl | rfl | rfl | rfl | rfl | rfl | rfl | rfl | rfl | rfl <;> decide +kernel
theorem cs4 {x1 x2 x3 x4 x5 x6 x7 x8 x10 x11 x12 x13 : B} (hh : ∀ d, isPieceB d = false → P.nx [B.row, x1, x2, x3, x4, x5, x6, x7, x8, .val d, x10, x11, x12, x13]) : wpS gam__law_case b__law_case_4 [B.row, x1, x2, x3, x4, x5, x6, x7, x8, x9, x10, x11, x12, x13] P := by
  simp [b__law_case_4]
  refine pick_all (by simp) (by simp) fun d hd => hh d ?_
  simp only [List.mem_cons, List.not_mem_nil, or_false] at hd
  rcases hd with rfl | rfl | rfl | rfl | rfl | rfl | rfl | rfl | rfl | rfl | rfl <;> decide +kernel
theorem cs5 {x1 x2 x3 x4 x5 x6 x7 x8 x9 x11 x12 x13 : B} (hh : ∀ d, isIntB d 0 3 = false → P.nx [B.row, x1, x2, x3, x4, x5, x6, x7, x8, x9, .val d, x11, x12, x13]) : wpS gam__law_case b__law_case_5 [B.row, x1, x2, x3, x4, x5, x6, x7, x8, x9, x10, x11, x12, x13] P := by
  simp [b__law_case_5]
  refine pick_all (by simp) (by simp) fun d hd => hh d ?_
  simp only [List.mem_cons, List.not_mem_nil, or_false] at hd
  rcases hd with rfl | rfl | rfl | rfl | rfl | rfl <;> rfl
def toldL : PyData := .list [.str (.ofString "cloth"), .str (.ofString "piece"), .str (.ofString "piece"), .str (.ofString "quarters")]
theorem cs6 {x3 x4 x5 x7 x8 x12 x13 : B} (hC : ClothOk C) (o : PcOk p) {a b f : PyData} (ha : isClothB a = false) (hb : isPieceB b = false) (hf : isIntB f 0 3 = false) (hh : P.nx [B.row, .val (clD C), .val (pcD p), x3, x4, x5, .val a, x7, x8, .val b, .val f, .val toldL, x12, x13]) : wpS gam__law_case b__law_case_6 [B.row, .val (clD C), .val (pcD p), x3, x4, x5, .val a, x7, x8, .val b, .val f, x11, x12, x13] P := by
  have hc := cloth_iff.mpr ⟨C, hC, rfl⟩
  have hp := piece_iff.mpr ⟨p, o, rfl⟩
  have no : ∀ {x : Bool} {R : Prop}, x = true → x = false → R := fun h1 h2 => by rw [h1] at h2; cases h2
  simp [b__law_case_6]
  refine ⟨_, _, rfl, fun _ => ?_, fun h => no h ha, fun C' P' h1 _ e1 _ => no (cloth_iff.mpr ⟨C', h1, e1⟩) ha⟩
  refine ⟨_, _, rfl, fun h => no hc h, fun _ _ => ?_, fun C' P' _ h2 _ e2 => no (piece_iff.mpr ⟨P', h2, e2⟩) hb⟩
  refine ⟨_, _, rfl, fun _ => ?_, fun h => no h hb, fun P' q h1 e1 _ _ => no (piece_iff.mpr ⟨P', h1, e1⟩) hb⟩
  refine ⟨_, _, rfl, fun h => no hp h, fun _ _ => ?_, fun P' q _ _ e2 hq => no (isInt_iff.mpr ⟨q, e2, hq⟩) hf⟩
  exact hh
theorem cs7 {x3 x4 x5 x6 x7 x8 x9 x10 x11 x13 : B} (hC : ClothOk C) (o : PcOk p) (hh : P.nx [B.row, .val (clD C), .val (pcD p), x3, x4, x5, x6, x7, x8, x9, x10, x11, .val (.list [.bool true, .bool true]), x13]) : wpS gam__law_case b__law_case_7 [B.row, .val (clD C), .val (pcD p), x3, x4, x5, x6, x7, x8, x9, x10, x11, x12, x13] P := by
  simp [b__law_case_7]
  refine ⟨_, rfl, ?_⟩
  refine ⟨_, rfl, ?_⟩
  rw [cloth_iff.mpr ⟨C, hC, rfl⟩, piece_iff.mpr ⟨p, o, rfl⟩]
  exact hh
theorem cs8 {x1 x2 x3 x4 x5 x7 x8 x10 x11 x12 : B} {a b : PyData} (ha : isClothB a = false) (hb : isPieceB b = false) (hh : P.nx [B.row, x1, x2, x3, x4, x5, .val a, x7, x8, .val b, x10, x11, x12, .val (.list [.bool false, .bool false])]) : wpS gam__law_case b__law_case_8 [B.row, x1, x2, x3, x4, x5, .val a, x7, x8, .val b, x10, x11, x12, x13] P := by
  simp [b__law_case_8]
  refine ⟨_, rfl, ?_⟩
  refine ⟨rfl, _, rfl, ?_⟩
  rw [ha, hb]
  exact hh
theorem cs9 {x1 x2 x3 x4 x5 x6 x7 x8 x9 x10 : B} (hh : P.rt (.bool true)) : wpS gam__law_case b__law_case_9 [B.row, x1, x2, x3, x4, x5, x6, x7, x8, x9, x10, .val toldL, .val (.list [.bool true, .bool true]), .val (.list [.bool false, .bool false])] P := by
  simp [b__law_case_9]
  rw [show cmpSem .Eq toldL (.list [.str (.ofString "cloth"), .str (.ofString "piece"), .str (.ofString "piece"), .str (.ofString "quarters")]) = some true by decide, opt_some]
  simp
  rw [show cmpSem .Eq (.list [.bool true, .bool true]) (.list [.bool true, .bool true]) = some true by decide, opt_some]
  simp
  rw [show cmpSem .Eq (.list [.bool false, .bool false]) (.list [.bool false, .bool false]) = some true by decide, opt_some]
  exact hh
end
theorem ln__law_case : ∀ ds Q X, (sgCase).sp ds Q X → (if (sgCase).row then 1 else 0) + ds.length = (sgCase).ps.length := by
  rintro ds Q X ⟨rfl, _⟩; rfl
theorem wp__law_case : ∀ ds Q X, (sgCase).sp ds Q X → wpSs gam__law_case b__law_case (rho0 14 (sgCase).row ds) (postOf Q X) := by
  rintro ds Q X ⟨rfl, hq⟩
  unfold b__law_case
  refine cs0 fun C p hC o => ?_
  show wpSs gam__law_case (SL.cons b__law_case_1 _) _ _
  rw [ss_cons]
  refine cs1 hC o ?_
  refine cs2 o fun x5 => ?_
  show wpSs gam__law_case (SL.cons b__law_case_3 _) _ _
  rw [ss_cons]
  refine cs3 fun a ha => ?_
  refine cs4 fun b hb => ?_
  refine cs5 fun f hf => ?_
  refine cs6 hC o ha hb hf ?_
  refine cs7 hC o ?_
  refine cs8 ha hb ?_
  refine cs9 ?_
  exact hq

end Dl

set_option Elab.async false
set_option linter.all false
set_option maxRecDepth 100000
set_option maxHeartbeats 8000000
namespace Dl
open PySem PySem.Spec PyProof.Rows L2

section
variable {P : Program} {w : World} {K : PySem.W.Frag} {mg : Str → Option Value} {base : Heap} {W : Wd}
theorem ok_is_integer {f : Addr} {fd : FuncData} (B : Bas K mg W)   (F : Fun K "is_integer" "is_integer" s_is_integer f fd) (hm : mg "is_integer" = some (.ref f)) (hk : PySem.W.keepIn K (.ref f) = true) (bd : Binds K fd (sg_is_integer).ps []) (kw : ∀ ks ∈ (sg_is_integer).kws, KBinds K fd (sg_is_integer).ps ks (kwG ks.length) (kwG ks.length)) : FnAt P w K mg base 1 W "is_integer" sg_is_integer :=
  fnAt (def_ok (Γ := gam_is_integer) (k := 0) (m := 0) (N := ["value", "least", "most"]) (l := false) (B.glb (show AllFn P w K mg base W 0 [] from trivial) (show AllCon mg W [] from trivial)) F sc_is_integer ck_is_integer ln_is_integer wp_is_integer (Nat.le_refl _) (fun z => (by cases z))) hm hk bd kw
theorem ok_is_tuple {f : Addr} {fd : FuncData} (B : Bas K mg W)   (F : Fun K "is_tuple" "is_tuple" s_is_tuple f fd) (hm : mg "is_tuple" = some (.ref f)) (hk : PySem.W.keepIn K (.ref f) = true) (bd : Binds K fd (sg_is_tuple).ps []) (kw : ∀ ks ∈ (sg_is_tuple).kws, KBinds K fd (sg_is_tuple).ps ks (kwG ks.length) (kwG ks.length)) : FnAt P w K mg base 1 W "is_tuple" sg_is_tuple :=
  fnAt (def_ok (Γ := gam_is_tuple) (k := 0) (m := 0) (N := ["value", "least", "most"]) (l := false) (B.glb (show AllFn P w K mg base W 0 [] from trivial) (show AllCon mg W [] from trivial)) F sc_is_tuple ck_is_tuple ln_is_tuple wp_is_tuple (Nat.le_refl _) (fun z => (by cases z))) hm hk bd kw
theorem ok_is_rising {f : Addr} {fd : FuncData} (B : Bas K mg W)   (F : Fun K "is_rising" "is_rising" s_is_rising f fd) (hm : mg "is_rising" = some (.ref f)) (hk : PySem.W.keepIn K (.ref f) = true) (bd : Binds K fd (sg_is_rising).ps []) (kw : ∀ ks ∈ (sg_is_rising).kws, KBinds K fd (sg_is_rising).ps ks (kwG ks.length) (kwG ks.length)) : FnAt P w K mg base 1 W "is_rising" sg_is_rising :=
  fnAt (def_ok (Γ := gam_is_rising) (k := 0) (m := 0) (N := ["things", "at"]) (l := false) (B.glb (show AllFn P w K mg base W 0 [] from trivial) (show AllCon mg W [] from trivial)) F sc_is_rising ck_is_rising ln_is_rising wp_is_rising (Nat.le_refl _) (fun z => (by cases z))) hm hk bd kw
theorem ok_quarter_turn {f : Addr} {fd : FuncData} (B : Bas K mg W)   (F : Fun K "quarter_turn" "quarter_turn" s_quarter_turn f fd) (hm : mg "quarter_turn" = some (.ref f)) (hk : PySem.W.keepIn K (.ref f) = true) (bd : Binds K fd (sg_quarter_turn).ps []) (kw : ∀ ks ∈ (sg_quarter_turn).kws, KBinds K fd (sg_quarter_turn).ps ks (kwG ks.length) (kwG ks.length)) : FnAt P w K mg base 1 W "quarter_turn" sg_quarter_turn :=
  fnAt (def_ok (Γ := gam_quarter_turn) (k := 0) (m := 0) (N := ["cells", "some", "x", "y", "left", "low"]) (l := false) (B.glb (show AllFn P w K mg base W 0 [] from trivial) (show AllCon mg W [] from trivial)) F sc_quarter_turn ck_quarter_turn ln_quarter_turn wp_quarter_turn (Nat.le_refl _) (fun z => (by cases z))) hm hk bd kw
theorem ok_is_free {f : Addr} {fd : FuncData} (B : Bas K mg W)   (F : Fun K "is_free" "is_free" s_is_free f fd) (hm : mg "is_free" = some (.ref f)) (hk : PySem.W.keepIn K (.ref f) = true) (bd : Binds K fd (sg_is_free).ps []) (kw : ∀ ks ∈ (sg_is_free).kws, KBinds K fd (sg_is_free).ps ks (kwG ks.length) (kwG ks.length)) : FnAt P w K mg base 1 W "is_free" sg_is_free :=
  fnAt (def_ok (Γ := gam_is_free) (k := 0) (m := 0) (N := ["cloth", "cell"]) (l := false) (B.glb (show AllFn P w K mg base W 0 [] from trivial) (show AllCon mg W [] from trivial)) F sc_is_free ck_is_free ln_is_free wp_is_free (Nat.le_refl _) (fun z => (by cases z))) hm hk bd kw
theorem ok__law_turned {f : Addr} {fd : FuncData} (B : Bas K mg W)   (F : Fun K "_law_turned" "_law_turned" s__law_turned f fd) (hm : mg "_law_turned" = some (.ref f)) (hk : PySem.W.keepIn K (.ref f) = true) (bd : Binds K fd (sg__law_turned).ps []) (kw : ∀ ks ∈ (sg__law_turned).kws, KBinds K fd (sg__law_turned).ps ks (kwG ks.length) (kwG ks.length)) : FnAt P w K mg base 1 W "_law_turned" sg__law_turned :=
  fnAt (def_ok (Γ := gam__law_turned) (k := 0) (m := 0) (N := ["cells", "quarters", "some", "x", "y", "left", "low"]) (l := false) (B.glb (show AllFn P w K mg base W 0 [] from trivial) (show AllCon mg W [] from trivial)) F sc__law_turned ck__law_turned ln__law_turned wp__law_turned (Nat.le_refl _) (fun z => (by cases z))) hm hk bd kw
theorem ok_is_integers {f : Addr} {fd : FuncData} (B : Bas K mg W) (h0 : FnAt P w K mg base 1 W "is_integer" sg_is_integer)  (F : Fun K "is_integers" "is_integers" s_is_integers f fd) (hm : mg "is_integers" = some (.ref f)) (hk : PySem.W.keepIn K (.ref f) = true) (bd : Binds K fd (sg_is_integers).ps []) (kw : ∀ ks ∈ (sg_is_integers).kws, KBinds K fd (sg_is_integers).ps ks (kwG ks.length) (kwG ks.length)) : FnAt P w K mg base 2 W "is_integers" sg_is_integers :=
  fnAt (def_ok (Γ := gam_is_integers) (k := 1) (m := 1) (N := ["value", "many", "least", "most", "one"]) (l := false) (B.glb (show AllFn P w K mg base W 1 [("is_integer", sg_is_integer)] from ⟨h0.mono (by decide), trivial⟩) (show AllCon mg W [] from trivial)) F sc_is_integers ck_is_integers ln_is_integers wp_is_integers (Nat.le_refl _) (fun z => (by cases z))) hm hk bd kw
theorem ok_turned_cells {f : Addr} {fd : FuncData} (B : Bas K mg W) (h0 : FnAt P w K mg base 1 W "quarter_turn" sg_quarter_turn)  (F : Fun K "turned_cells" "turned_cells" s_turned_cells f fd) (hm : mg "turned_cells" = some (.ref f)) (hk : PySem.W.keepIn K (.ref f) = true) (bd : Binds K fd (sg_turned_cells).ps []) (kw : ∀ ks ∈ (sg_turned_cells).kws, KBinds K fd (sg_turned_cells).ps ks (kwG ks.length) (kwG ks.length)) : FnAt P w K mg base 2 W "turned_cells" sg_turned_cells :=
  fnAt (def_ok (Γ := gam_turned_cells) (k := 1) (m := 1) (N := ["cells", "quarters", "turn"]) (l := false) (B.glb (show AllFn P w K mg base W 1 [("quarter_turn", sg_quarter_turn)] from ⟨h0.mono (by decide), trivial⟩) (show AllCon mg W [] from trivial)) F sc_turned_cells ck_turned_cells ln_turned_cells wp_turned_cells (Nat.le_refl _) (fun z => (by cases z))) hm hk bd kw
theorem ok__law_pick {f : Addr} {fd : FuncData} (B : Bas K mg W) (h0 : FnAt P w K mg base 1 W "_law_taken" sgTaken)  (F : Fun K "_law_pick" "_law_pick" s__law_pick f fd) (hm : mg "_law_pick" = some (.ref f)) (hk : PySem.W.keepIn K (.ref f) = true) (bd : Binds K fd (sgPick).ps []) (kw : ∀ ks ∈ (sgPick).kws, KBinds K fd (sgPick).ps ks (kwG ks.length) (kwG ks.length)) : FnAt P w K mg base 2 W "_law_pick" sgPick :=
  fnAt (def_ok (Γ := gam__law_pick) (k := 1) (m := 1) (N := ["row", "some"]) (l := false) (B.glb (show AllFn P w K mg base W 1 [("_law_taken", sgTaken)] from ⟨h0.mono (by decide), trivial⟩) (show AllCon mg W [] from trivial)) F sc__law_pick ck__law_pick ln__law_pick wp__law_pick (Nat.le_refl _) (fun z => (by cases z))) hm hk bd kw
theorem ok__law_covers {f : Addr} {fd : FuncData} (B : Bas K mg W) (h0 : FnAt P w K mg base 1 W "_law_turned" sg__law_turned)  (F : Fun K "_law_covers" "_law_covers" s__law_covers f fd) (hm : mg "_law_covers" = some (.ref f)) (hk : PySem.W.keepIn K (.ref f) = true) (bd : Binds K fd (sg__law_covers).ps []) (kw : ∀ ks ∈ (sg__law_covers).kws, KBinds K fd (sg__law_covers).ps ks (kwG ks.length) (kwG ks.length)) : FnAt P w K mg base 2 W "_law_covers" sg__law_covers :=
  fnAt (def_ok (Γ := gam__law_covers) (k := 1) (m := 1) (N := ["cloth", "piece", "found", "seen", "quarters", "cells", "x", "y", "some", "right", "up", "free", "cell"]) (l := false) (B.glb (show AllFn P w K mg base W 1 [("_law_turned", sg__law_turned)] from ⟨h0.mono (by decide), trivial⟩) (show AllCon mg W [] from trivial)) F sc__law_covers ck__law_covers ln__law_covers wp__law_covers (Nat.le_refl _) (fun z => (by cases z))) hm hk bd kw
theorem ok_is_cells {f : Addr} {fd : FuncData} (B : Bas K mg W) (h0 : FnAt P w K mg base 1 W "is_rising" sg_is_rising) (h1 : FnAt P w K mg base 1 W "is_tuple" sg_is_tuple) (h2 : FnAt P w K mg base 2 W "is_integers" sg_is_integers) (z0 : ConAt mg W "MOST_LENGTH" (.int (8))) (F : Fun K "is_cells" "is_cells" s_is_cells f fd) (hm : mg "is_cells" = some (.ref f)) (hk : PySem.W.keepIn K (.ref f) = true) (bd : Binds K fd (sg_is_cells).ps []) (kw : ∀ ks ∈ (sg_is_cells).kws, KBinds K fd (sg_is_cells).ps ks (kwG ks.length) (kwG ks.length)) : FnAt P w K mg base 3 W "is_cells" sg_is_cells :=
  fnAt (def_ok (Γ := gam_is_cells) (k := 2) (m := 2) (N := ["value", "least", "most", "cell"]) (l := false) (B.glb (show AllFn P w K mg base W 2 [("is_rising", sg_is_rising), ("is_tuple", sg_is_tuple), ("is_integers", sg_is_integers)] from ⟨h0.mono (by decide), h1.mono (by decide), h2.mono (by decide), trivial⟩) (show AllCon mg W [("MOST_LENGTH", .int (8))] from ⟨z0, trivial⟩)) F sc_is_cells ck_is_cells ln_is_cells wp_is_cells (Nat.le_refl _) (fun z => (by cases z))) hm hk bd kw
theorem ok_looks {f : Addr} {fd : FuncData} (B : Bas K mg W) (h0 : FnAt P w K mg base 2 W "turned_cells" sg_turned_cells) (z0 : DConAt K mg "QUARTERS" [(1, [0]), (2, [0, 2]), (4, [0, 1, 2, 3])]) (F : Fun K "looks" "looks" s_looks f fd) (hm : mg "looks" = some (.ref f)) (hk : PySem.W.keepIn K (.ref f) = true) (bd : Binds K fd (sg_looks).ps []) (kw : ∀ ks ∈ (sg_looks).kws, KBinds K fd (sg_looks).ps ks (kwG ks.length) (kwG ks.length)) : FnAt P w K mg base 3 W "looks" sg_looks :=
  fnAt (def_ok (Γ := gam_looks) (k := 2) (m := 2) (N := ["piece", "found", "seen", "quarters", "cells"]) (l := false) (B.glbD (show AllFn P w K mg base W 2 [("turned_cells", sg_turned_cells)] from ⟨h0.mono (by decide), trivial⟩) (show AllCon mg W [] from trivial) (show AllDC K mg [("QUARTERS", [(1, [0]), (2, [0, 2]), (4, [0, 1, 2, 3])])] from ⟨z0, trivial⟩)) F sc_looks ck_looks ln_looks wp_looks (Nat.le_refl _) (fun z => (by cases z))) hm hk bd kw
theorem ok__law_cells {f : Addr} {fd : FuncData} (B : Bas K mg W) (h0 : FnAt P w K mg base 1 W "_law_taken" sgTaken) (h1 : FnAt P w K mg base 2 W "_law_pick" sgPick)  (F : Fun K "_law_cells" "_law_cells" s__law_cells f fd) (hm : mg "_law_cells" = some (.ref f)) (hk : PySem.W.keepIn K (.ref f) = true) (bd : Binds K fd (sg__law_cells).ps []) (kw : ∀ ks ∈ (sg__law_cells).kws, KBinds K fd (sg__law_cells).ps ks (kwG ks.length) (kwG ks.length)) : FnAt P w K mg base 3 W "_law_cells" sg__law_cells :=
  fnAt (def_ok (Γ := gam__law_cells) (k := 2) (m := 2) (N := ["row", "most", "cells", "turn", "x", "y", "right", "up", "left", "low"]) (l := false) (B.glb (show AllFn P w K mg base W 2 [("_law_taken", sgTaken), ("_law_pick", sgPick)] from ⟨h0.mono (by decide), h1.mono (by decide), trivial⟩) (show AllCon mg W [] from trivial)) F sc__law_cells ck__law_cells ln__law_cells wp__law_cells (Nat.le_refl _) (fun z => (by cases z))) hm hk bd kw
theorem ok__law_cloth {f : Addr} {fd : FuncData} (B : Bas K mg W) (h0 : FnAt P w K mg base 1 W "_law_taken" sgTaken) (h1 : FnAt P w K mg base 2 W "_law_pick" sgPick)  (F : Fun K "_law_cloth" "_law_cloth" s__law_cloth f fd) (hm : mg "_law_cloth" = some (.ref f)) (hk : PySem.W.keepIn K (.ref f) = true) (bd : Binds K fd (sg__law_cloth).ps []) (kw : ∀ ks ∈ (sg__law_cloth).kws, KBinds K fd (sg__law_cloth).ps ks (kwG ks.length) (kwG ks.length)) : FnAt P w K mg base 3 W "_law_cloth" sg__law_cloth :=
  fnAt (def_ok (Γ := gam__law_cloth) (k := 2) (m := 2) (N := ["row", "wide", "long", "width", "length", "holes", "turn"]) (l := false) (B.glb (show AllFn P w K mg base W 2 [("_law_taken", sgTaken), ("_law_pick", sgPick)] from ⟨h0.mono (by decide), h1.mono (by decide), trivial⟩) (show AllCon mg W [] from trivial)) F sc__law_cloth ck__law_cloth ln__law_cloth wp__law_cloth (Nat.le_refl _) (fun z => (by cases z))) hm hk bd kw
theorem ok_is_cloth {f : Addr} {fd : FuncData} (B : Bas K mg W) (h0 : FnAt P w K mg base 3 W "is_cells" sg_is_cells) (h1 : FnAt P w K mg base 1 W "is_tuple" sg_is_tuple) (h2 : FnAt P w K mg base 1 W "is_integer" sg_is_integer) (z0 : ConAt mg W "MOST_HOLES" (.int (10))) (z1 : ConAt mg W "MOST_WIDTH" (.int (5))) (z2 : ConAt mg W "MOST_LENGTH" (.int (8))) (F : Fun K "is_cloth" "is_cloth" s_is_cloth f fd) (hm : mg "is_cloth" = some (.ref f)) (hk : PySem.W.keepIn K (.ref f) = true) (bd : Binds K fd (sg_is_cloth).ps []) (kw : ∀ ks ∈ (sg_is_cloth).kws, KBinds K fd (sg_is_cloth).ps ks (kwG ks.length) (kwG ks.length)) : FnAt P w K mg base 4 W "is_cloth" sg_is_cloth :=
  fnAt (def_ok (Γ := gam_is_cloth) (k := 3) (m := 3) (N := ["value", "x", "y"]) (l := false) (B.glb (show AllFn P w K mg base W 3 [("is_cells", sg_is_cells), ("is_tuple", sg_is_tuple), ("is_integer", sg_is_integer)] from ⟨h0.mono (by decide), h1.mono (by decide), h2.mono (by decide), trivial⟩) (show AllCon mg W [("MOST_HOLES", .int (10)), ("MOST_WIDTH", .int (5)), ("MOST_LENGTH", .int (8))] from ⟨z0, z1, z2, trivial⟩)) F sc_is_cloth ck_is_cloth ln_is_cloth wp_is_cloth (Nat.le_refl _) (fun z => (by cases z))) hm hk bd kw
theorem ok_is_piece {f : Addr} {fd : FuncData} (B : Bas K mg W) (h0 : FnAt P w K mg base 1 W "is_integer" sg_is_integer) (h1 : FnAt P w K mg base 1 W "is_tuple" sg_is_tuple) (h2 : FnAt P w K mg base 3 W "is_cells" sg_is_cells) (z0 : ConAt mg W "MOST_CELLS" (.int (5))) (z1 : ConAt mg W "MOST_PERIOD" (.int (4))) (F : Fun K "is_piece" "is_piece" s_is_piece f fd) (hm : mg "is_piece" = some (.ref f)) (hk : PySem.W.keepIn K (.ref f) = true) (bd : Binds K fd (sg_is_piece).ps []) (kw : ∀ ks ∈ (sg_is_piece).kws, KBinds K fd (sg_is_piece).ps ks (kwG ks.length) (kwG ks.length)) : FnAt P w K mg base 4 W "is_piece" sg_is_piece :=
  fnAt (def_ok (Γ := gam_is_piece) (k := 3) (m := 3) (N := ["value", "x", "y"]) (l := false) (B.glb (show AllFn P w K mg base W 3 [("is_integer", sg_is_integer), ("is_tuple", sg_is_tuple), ("is_cells", sg_is_cells)] from ⟨h0.mono (by decide), h1.mono (by decide), h2.mono (by decide), trivial⟩) (show AllCon mg W [("MOST_CELLS", .int (5)), ("MOST_PERIOD", .int (4))] from ⟨z0, z1, trivial⟩)) F sc_is_piece ck_is_piece ln_is_piece wp_is_piece (Nat.le_refl _) (fun z => (by cases z))) hm hk bd kw
theorem ok_covers {f : Addr} {fd : FuncData} (B : Bas K mg W) (h0 : FnAt P w K mg base 3 W "looks" sg_looks) (h1 : FnAt P w K mg base 1 W "is_free" sg_is_free)  (F : Fun K "covers" "covers" s_covers f fd) (hm : mg "covers" = some (.ref f)) (hk : PySem.W.keepIn K (.ref f) = true) (bd : Binds K fd (sg_covers).ps []) (kw : ∀ ks ∈ (sg_covers).kws, KBinds K fd (sg_covers).ps ks (kwG ks.length) (kwG ks.length)) : FnAt P w K mg base 4 W "covers" sg_covers :=
  fnAt (def_ok (Γ := gam_covers) (k := 3) (m := 3) (N := ["cloth", "piece", "found", "quarters", "cells", "x", "y", "some", "right", "up", "cell"]) (l := false) (B.glb (show AllFn P w K mg base W 3 [("looks", sg_looks), ("is_free", sg_is_free)] from ⟨h0.mono (by decide), h1.mono (by decide), trivial⟩) (show AllCon mg W [] from trivial)) F sc_covers ck_covers ln_covers wp_covers (Nat.le_refl _) (fun z => (by cases z))) hm hk bd kw
theorem ok__law_piece {f : Addr} {fd : FuncData} (B : Bas K mg W) (h0 : FnAt P w K mg base 2 W "_law_pick" sgPick) (h1 : FnAt P w K mg base 3 W "_law_cells" sg__law_cells) (h2 : FnAt P w K mg base 1 W "_law_taken" sgTaken)  (F : Fun K "_law_piece" "_law_piece" s__law_piece f fd) (hm : mg "_law_piece" = some (.ref f)) (hk : PySem.W.keepIn K (.ref f) = true) (bd : Binds K fd (sg__law_piece).ps []) (kw : ∀ ks ∈ (sg__law_piece).kws, KBinds K fd (sg__law_piece).ps ks (kwG ks.length) (kwG ks.length)) : FnAt P w K mg base 4 W "_law_piece" sg__law_piece :=
  fnAt (def_ok (Γ := gam__law_piece) (k := 3) (m := 3) (N := ["row", "most", "period"]) (l := false) (B.glb (show AllFn P w K mg base W 3 [("_law_pick", sgPick), ("_law_cells", sg__law_cells), ("_law_taken", sgTaken)] from ⟨h0.mono (by decide), h1.mono (by decide), h2.mono (by decide), trivial⟩) (show AllCon mg W [] from trivial)) F sc__law_piece ck__law_piece ln__law_piece wp__law_piece (Nat.le_refl _) (fun z => (by cases z))) hm hk bd kw
theorem ok_turned {f : Addr} {fd : FuncData} (B : Bas K mg W) (h0 : FnAt P w K mg base 3 W "demand" sgDemand) (h1 : FnAt P w K mg base 2 W "turned_cells" sg_turned_cells) (h2 : FnAt P w K mg base 4 W "is_piece" sg_is_piece) (h3 : FnAt P w K mg base 1 W "is_integer" sg_is_integer)  (F : Fun K "turned" "turned" s_turned f fd) (hm : mg "turned" = some (.ref f)) (hk : PySem.W.keepIn K (.ref f) = true) (bd : Binds K fd (sg_turned).ps []) (kw : ∀ ks ∈ (sg_turned).kws, KBinds K fd (sg_turned).ps ks (kwG ks.length) (kwG ks.length)) : FnAt P w K mg base 5 W "turned" sg_turned :=
  fnAt (def_ok (Γ := gam_turned) (k := 4) (m := 4) (N := ["piece", "quarters"]) (l := false) (B.glb (show AllFn P w K mg base W 4 [("demand", sgDemand), ("turned_cells", sg_turned_cells), ("is_piece", sg_is_piece), ("is_integer", sg_is_integer)] from ⟨h0.mono (by decide), h1.mono (by decide), h2.mono (by decide), h3.mono (by decide), trivial⟩) (show AllCon mg W [] from trivial)) F sc_turned ck_turned ln_turned wp_turned (Nat.le_refl _) (fun z => (by cases z))) hm hk bd kw
theorem ok_places {f : Addr} {fd : FuncData} (B : Bas K mg W) (h0 : FnAt P w K mg base 3 W "demand" sgDemand) (h1 : FnAt P w K mg base 4 W "is_cloth" sg_is_cloth) (h2 : FnAt P w K mg base 4 W "is_piece" sg_is_piece) (h3 : FnAt P w K mg base 4 W "covers" sg_covers)  (F : Fun K "places" "places" s_places f fd) (hm : mg "places" = some (.ref f)) (hk : PySem.W.keepIn K (.ref f) = true) (bd : Binds K fd (sg_places).ps []) (kw : ∀ ks ∈ (sg_places).kws, KBinds K fd (sg_places).ps ks (kwG ks.length) (kwG ks.length)) : FnAt P w K mg base 5 W "places" sg_places :=
  fnAt (def_ok (Γ := gam_places) (k := 4) (m := 4) (N := ["cloth", "piece", "place", "cells"]) (l := false) (B.glb (show AllFn P w K mg base W 4 [("demand", sgDemand), ("is_cloth", sg_is_cloth), ("is_piece", sg_is_piece), ("covers", sg_covers)] from ⟨h0.mono (by decide), h1.mono (by decide), h2.mono (by decide), h3.mono (by decide), trivial⟩) (show AllCon mg W [] from trivial)) F sc_places ck_places ln_places wp_places (Nat.le_refl _) (fun z => (by cases z))) hm hk bd kw
theorem ok__law_case {f c : Addr} {oc kV doc pm ct : Value} {od an : Option Addr} {osl : Array (Option Value)} (B : Bas K mg W) (h0 : FnAt P w K mg base 2 W "_law_pick" sgPick) (h1 : FnAt P w K mg base 3 W "_law_cloth" sg__law_cloth) (h2 : FnAt P w K mg base 4 W "_law_piece" sg__law_piece) (h3 : FnAt P w K mg base 5 W "_law_alike" (sgAlike 4)) (h4 : FnAt P w K mg base 4 W "is_cloth" sg_is_cloth) (h5 : FnAt P w K mg base 4 W "is_piece" sg_is_piece) (h6 : FnAt P w K mg base 5 W "places" sg_places) (h7 : FnAt P w K mg base 5 W "turned" sg_turned) (h8 : FnAt P w K mg base 1 W "_law_turned" sg__law_turned) (h9 : FnAt P w K mg base 2 W "_law_covers" sg__law_covers)  (lk : K.lookup f = some ⟨oc, od, .func (PySem.W.fnOf "_law_case" "_law_case" (defArgs s__law_case) (defBody s__law_case) (defScope s__law_case) .none kV doc pm an (.ref c) ct), osl⟩) (hcd : PySem.W.codeIn K (.ref c) "_law_case" = true) (hl : ∀ (A : Around) (outer : List Env) (s : Shared) (H : Hp) (E : XK), LamAt W (cxOf (L2.CX P w) P w K mg base ["row", "cloth", "piece", "place", "cells", "quarters", "odd", "x", "y", "bad", "four", "told", "right", "wrong"] "_law_case" (defScope s__law_case) f (.ref c) A outer s H E)) (hm : mg "_law_case" = some (.ref f)) (hk : PySem.W.keepIn K (.ref f) = true) (bd : Binds K (PySem.W.fnOf "_law_case" "_law_case" (defArgs s__law_case) (defBody s__law_case) (defScope s__law_case) .none kV doc pm an (.ref c) ct) (sgCase).ps []) : FnAt P w K mg base 8 W "_law_case" sgCase :=
  fnAt (def_okL (Γ := gam__law_case) (k := 5) (m := 7) (N := ["row", "cloth", "piece", "place", "cells", "quarters", "odd", "x", "y", "bad", "four", "told", "right", "wrong"]) (B.glb (show AllFn P w K mg base W 5 [("_law_pick", sgPick), ("_law_cloth", sg__law_cloth), ("_law_piece", sg__law_piece), ("_law_alike", (sgAlike 4)), ("is_cloth", sg_is_cloth), ("is_piece", sg_is_piece), ("places", sg_places), ("turned", sg_turned), ("_law_turned", sg__law_turned), ("_law_covers", sg__law_covers)] from ⟨h0.mono (by decide), h1.mono (by decide), h2.mono (by decide), h3.mono (by decide), h4.mono (by decide), h5.mono (by decide), h6.mono (by decide), h7.mono (by decide), h8.mono (by decide), h9.mono (by decide), trivial⟩) (show AllCon mg W [] from trivial)) lk hcd sc__law_case ck__law_case ln__law_case wp__law_case (Nat.le_refl _) hl) hm hk bd (fun ks z => (by cases z))
end
theorem all_mk {l : PySem.W.OpenLaw} {w : World} {K : PySem.W.Frag} {h : Heap} {mg : Str → Option Value} {fa C c0 : Addr} (X : K.In h) (G : h.Ns mainGlobals mg) (hfa : mg "law" = some (.ref fa))
    {nm qn : Str} {NC : Addr} {bs : List Value} {sn : List Str} {sub : List Value} {ab : Bool} {col : Option Bool} {dd : Option Addr} {m0 m1 m2 m3 m5 : Option Value}
    {f_demand : Addr} {oc_demand kV_demand dc_demand pm_demand ct_demand : Value} {od_demand an_demand : Option Addr} {sl_demand : Array (Option Value)} {cd_demand : Value} {f__law_taken : Addr} {oc__law_taken kV__law_taken dc__law_taken pm__law_taken ct__law_taken : Value} {od__law_taken an__law_taken : Option Addr} {sl__law_taken : Array (Option Value)} {cd__law_taken : Value} {f__law_refused : Addr} {oc__law_refused kV__law_refused dc__law_refused pm__law_refused ct__law_refused : Value} {od__law_refused an__law_refused : Option Addr} {sl__law_refused : Array (Option Value)} {cd__law_refused : Value} {f__law_alike : Addr} {oc__law_alike kV__law_alike dc__law_alike pm__law_alike ct__law_alike : Value} {od__law_alike an__law_alike : Option Addr} {sl__law_alike : Array (Option Value)} {cd__law_alike : Value} {f_is_integer : Addr} {oc_is_integer kV_is_integer dc_is_integer pm_is_integer ct_is_integer : Value} {od_is_integer an_is_integer : Option Addr} {sl_is_integer : Array (Option Value)} {cd_is_integer : Value} {f_is_tuple : Addr} {oc_is_tuple kV_is_tuple dc_is_tuple pm_is_tuple ct_is_tuple : Value} {od_is_tuple an_is_tuple : Option Addr} {sl_is_tuple : Array (Option Value)} {cd_is_tuple : Value} {f_is_rising : Addr} {oc_is_rising kV_is_rising dc_is_rising pm_is_rising ct_is_rising : Value} {od_is_rising an_is_rising : Option Addr} {sl_is_rising : Array (Option Value)} {cd_is_rising : Value} {f_quarter_turn : Addr} {oc_quarter_turn kV_quarter_turn dc_quarter_turn pm_quarter_turn ct_quarter_turn : Value} {od_quarter_turn an_quarter_turn : Option Addr} {sl_quarter_turn : Array (Option Value)} {cd_quarter_turn : Value} {f_is_free : Addr} {oc_is_free kV_is_free dc_is_free pm_is_free ct_is_free : Value} {od_is_free an_is_free : Option Addr} {sl_is_free : Array (Option Value)} {cd_is_free : Value} {f__law_turned : Addr} {oc__law_turned kV__law_turned dc__law_turned pm__law_turned ct__law_turned : Value} {od__law_turned an__law_turned : Option Addr} {sl__law_turned : Array (Option Value)} {cd__law_turned : Value} {f_is_integers : Addr} {oc_is_integers kV_is_integers dc_is_integers pm_is_integers ct_is_integers : Value} {od_is_integers an_is_integers : Option Addr} {sl_is_integers : Array (Option Value)} {cd_is_integers : Value} {f_turned_cells : Addr} {oc_turned_cells kV_turned_cells dc_turned_cells pm_turned_cells ct_turned_cells : Value} {od_turned_cells an_turned_cells : Option Addr} {sl_turned_cells : Array (Option Value)} {cd_turned_cells : Value} {f__law_pick : Addr} {oc__law_pick kV__law_pick dc__law_pick pm__law_pick ct__law_pick : Value} {od__law_pick an__law_pick : Option Addr} {sl__law_pick : Array (Option Value)} {cd__law_pick : Value} {f__law_covers : Addr} {oc__law_covers kV__law_covers dc__law_covers pm__law_covers ct__law_covers : Value} {od__law_covers an__law_covers : Option Addr} {sl__law_covers : Array (Option Value)} {cd__law_covers : Value} {f_is_cells : Addr} {oc_is_cells kV_is_cells dc_is_cells pm_is_cells ct_is_cells : Value} {od_is_cells an_is_cells : Option Addr} {sl_is_cells : Array (Option Value)} {cd_is_cells : Value} {f_looks : Addr} {oc_looks kV_looks dc_looks pm_looks ct_looks : Value} {od_looks an_looks : Option Addr} {sl_looks : Array (Option Value)} {cd_looks : Value} {f__law_cells : Addr} {oc__law_cells kV__law_cells dc__law_cells pm__law_cells ct__law_cells : Value} {od__law_cells an__law_cells : Option Addr} {sl__law_cells : Array (Option Value)} {cd__law_cells : Value} {f__law_cloth : Addr} {oc__law_cloth kV__law_cloth dc__law_cloth pm__law_cloth ct__law_cloth : Value} {od__law_cloth an__law_cloth : Option Addr} {sl__law_cloth : Array (Option Value)} {cd__law_cloth : Value} {f_is_cloth : Addr} {oc_is_cloth kV_is_cloth dc_is_cloth pm_is_cloth ct_is_cloth : Value} {od_is_cloth an_is_cloth : Option Addr} {sl_is_cloth : Array (Option Value)} {cd_is_cloth : Value} {f_is_piece : Addr} {oc_is_piece kV_is_piece dc_is_piece pm_is_piece ct_is_piece : Value} {od_is_piece an_is_piece : Option Addr} {sl_is_piece : Array (Option Value)} {cd_is_piece : Value} {f_covers : Addr} {oc_covers kV_covers dc_covers pm_covers ct_covers : Value} {od_covers an_covers : Option Addr} {sl_covers : Array (Option Value)} {cd_covers : Value} {f__law_piece : Addr} {oc__law_piece kV__law_piece dc__law_piece pm__law_piece ct__law_piece : Value} {od__law_piece an__law_piece : Option Addr} {sl__law_piece : Array (Option Value)} {cd__law_piece : Value} {f_turned : Addr} {oc_turned kV_turned dc_turned pm_turned ct_turned : Value} {od_turned an_turned : Option Addr} {sl_turned : Array (Option Value)} {cd_turned : Value} {f_places : Addr} {oc_places kV_places dc_places pm_places ct_places : Value} {od_places an_places : Option Addr} {sl_places : Array (Option Value)} {cd_places : Value} {f__law_case : Addr} {oc__law_case kV__law_case dc__law_case pm__law_case ct__law_case : Value} {od__law_case an__law_case : Option Addr} {sl__law_case : Array (Option Value)} {f_law : Addr} {oc_law kV_law dc_law pm_law ct_law : Value} {od_law an_law : Option Addr} {sl_law : Array (Option Value)} {cd_law : Value} {f_init : Addr} {oc_init kV_init dc_init pm_init ct_init : Value} {od_init an_init : Option Addr} {sl_init : Array (Option Value)} {cd_init : Value}
    (aC : PySem.W.nsIn K mainGlobals "BadArgument" = some (some (.ref C)))
    (xL : K.lookup C = some (excClassObj nm qn C NC bs [.type "ValueError", .type "Exception", .type "BaseException", .type "object"] true sn sub ab col dd m0 m1 m2 m3 m5 "ValueError.__new__"))
    (sa : PySem.W.findIn K (.ref C) "__setattr__" = some (some (.builtin "object.__setattr__"))) (nb : PySem.W.findIn K (.ref C) "name" = some none) (iC : PySem.W.findIn K (.ref C) "__init__" = some (some (.ref f_init))) (tI : PySem.W.typeIn K (.ref f_init) = some (.type "function"))
    (kC : PySem.W.keepIn K (.ref C) = true) (eC : PySem.W.subIn K (.ref C) (.type "BaseException") = some true) (tC : PySem.W.typeIn K (.ref C) = some (.type "type")) (xfC : xfB K C = true) (icC : PySem.W.isClsIn K C = true) (sC : PySem.W.subIn K (.ref C) (.ref C) = some true)
    (l_init : K.lookup f_init = some ⟨oc_init, od_init, .func (PySem.W.fnOf "__init__" "BadArgument.__init__" (defArgs s_init) (defBody s_init) (defScope s_init) .none kV_init dc_init pm_init an_init cd_init ct_init), sl_init⟩) (c_init : PySem.W.codeIn K cd_init "BadArgument.__init__" = true) (k_init : PySem.W.keepIn K (.ref f_init) = true)
    (a_demand : PySem.W.nsIn K mainGlobals "demand" = some (some (.ref f_demand))) (l_demand : K.lookup f_demand = some ⟨oc_demand, od_demand, .func (PySem.W.fnOf "demand" "demand" (defArgs s_demand) (defBody s_demand) (defScope s_demand) .none kV_demand dc_demand pm_demand an_demand cd_demand ct_demand), sl_demand⟩) (c_demand : PySem.W.codeIn K cd_demand "demand" = true) (k_demand : PySem.W.keepIn K (.ref f_demand) = true)
    (a__law_taken : PySem.W.nsIn K mainGlobals "_law_taken" = some (some (.ref f__law_taken))) (l__law_taken : K.lookup f__law_taken = some ⟨oc__law_taken, od__law_taken, .func (PySem.W.fnOf "_law_taken" "_law_taken" (defArgs s__law_taken) (defBody s__law_taken) (defScope s__law_taken) .none kV__law_taken dc__law_taken pm__law_taken an__law_taken cd__law_taken ct__law_taken), sl__law_taken⟩) (c__law_taken : PySem.W.codeIn K cd__law_taken "_law_taken" = true) (k__law_taken : PySem.W.keepIn K (.ref f__law_taken) = true)
    (a__law_refused : PySem.W.nsIn K mainGlobals "_law_refused" = some (some (.ref f__law_refused))) (l__law_refused : K.lookup f__law_refused = some ⟨oc__law_refused, od__law_refused, .func (PySem.W.fnOf "_law_refused" "_law_refused" (defArgs s__law_refused) (defBody s__law_refused) (defScope s__law_refused) .none kV__law_refused dc__law_refused pm__law_refused an__law_refused cd__law_refused ct__law_refused), sl__law_refused⟩) (c__law_refused : PySem.W.codeIn K cd__law_refused "_law_refused" = true) (k__law_refused : PySem.W.keepIn K (.ref f__law_refused) = true)
    (a__law_alike : PySem.W.nsIn K mainGlobals "_law_alike" = some (some (.ref f__law_alike))) (l__law_alike : K.lookup f__law_alike = some ⟨oc__law_alike, od__law_alike, .func (PySem.W.fnOf "_law_alike" "_law_alike" (defArgs s__law_alike) (defBody s__law_alike) (defScope s__law_alike) .none kV__law_alike dc__law_alike pm__law_alike an__law_alike cd__law_alike ct__law_alike), sl__law_alike⟩) (c__law_alike : PySem.W.codeIn K cd__law_alike "_law_alike" = true) (k__law_alike : PySem.W.keepIn K (.ref f__law_alike) = true)
    (a_is_integer : PySem.W.nsIn K mainGlobals "is_integer" = some (some (.ref f_is_integer))) (l_is_integer : K.lookup f_is_integer = some ⟨oc_is_integer, od_is_integer, .func (PySem.W.fnOf "is_integer" "is_integer" (defArgs s_is_integer) (defBody s_is_integer) (defScope s_is_integer) .none kV_is_integer dc_is_integer pm_is_integer an_is_integer cd_is_integer ct_is_integer), sl_is_integer⟩) (c_is_integer : PySem.W.codeIn K cd_is_integer "is_integer" = true) (k_is_integer : PySem.W.keepIn K (.ref f_is_integer) = true)
    (a_is_tuple : PySem.W.nsIn K mainGlobals "is_tuple" = some (some (.ref f_is_tuple))) (l_is_tuple : K.lookup f_is_tuple = some ⟨oc_is_tuple, od_is_tuple, .func (PySem.W.fnOf "is_tuple" "is_tuple" (defArgs s_is_tuple) (defBody s_is_tuple) (defScope s_is_tuple) .none kV_is_tuple dc_is_tuple pm_is_tuple an_is_tuple cd_is_tuple ct_is_tuple), sl_is_tuple⟩) (c_is_tuple : PySem.W.codeIn K cd_is_tuple "is_tuple" = true) (k_is_tuple : PySem.W.keepIn K (.ref f_is_tuple) = true)
    (a_is_rising : PySem.W.nsIn K mainGlobals "is_rising" = some (some (.ref f_is_rising))) (l_is_rising : K.lookup f_is_rising = some ⟨oc_is_rising, od_is_rising, .func (PySem.W.fnOf "is_rising" "is_rising" (defArgs s_is_rising) (defBody s_is_rising) (defScope s_is_rising) .none kV_is_rising dc_is_rising pm_is_rising an_is_rising cd_is_rising ct_is_rising), sl_is_rising⟩) (c_is_rising : PySem.W.codeIn K cd_is_rising "is_rising" = true) (k_is_rising : PySem.W.keepIn K (.ref f_is_rising) = true)
    (a_quarter_turn : PySem.W.nsIn K mainGlobals "quarter_turn" = some (some (.ref f_quarter_turn))) (l_quarter_turn : K.lookup f_quarter_turn = some ⟨oc_quarter_turn, od_quarter_turn, .func (PySem.W.fnOf "quarter_turn" "quarter_turn" (defArgs s_quarter_turn) (defBody s_quarter_turn) (defScope s_quarter_turn) .none kV_quarter_turn dc_quarter_turn pm_quarter_turn an_quarter_turn cd_quarter_turn ct_quarter_turn), sl_quarter_turn⟩) (c_quarter_turn : PySem.W.codeIn K cd_quarter_turn "quarter_turn" = true) (k_quarter_turn : PySem.W.keepIn K (.ref f_quarter_turn) = true)
    (a_is_free : PySem.W.nsIn K mainGlobals "is_free" = some (some (.ref f_is_free))) (l_is_free : K.lookup f_is_free = some ⟨oc_is_free, od_is_free, .func (PySem.W.fnOf "is_free" "is_free" (defArgs s_is_free) (defBody s_is_free) (defScope s_is_free) .none kV_is_free dc_is_free pm_is_free an_is_free cd_is_free ct_is_free), sl_is_free⟩) (c_is_free : PySem.W.codeIn K cd_is_free "is_free" = true) (k_is_free : PySem.W.keepIn K (.ref f_is_free) = true)
    (a__law_turned : PySem.W.nsIn K mainGlobals "_law_turned" = some (some (.ref f__law_turned))) (l__law_turned : K.lookup f__law_turned = some ⟨oc__law_turned, od__law_turned, .func (PySem.W.fnOf "_law_turned" "_law_turned" (defArgs s__law_turned) (defBody s__law_turned) (defScope s__law_turned) .none kV__law_turned dc__law_turned pm__law_turned an__law_turned cd__law_turned ct__law_turned), sl__law_turned⟩) (c__law_turned : PySem.W.codeIn K cd__law_turned "_law_turned" = true) (k__law_turned : PySem.W.keepIn K (.ref f__law_turned) = true)
    (a_is_integers : PySem.W.nsIn K mainGlobals "is_integers" = some (some (.ref f_is_integers))) (l_is_integers : K.lookup f_is_integers = some ⟨oc_is_integers, od_is_integers, .func (PySem.W.fnOf "is_integers" "is_integers" (defArgs s_is_integers) (defBody s_is_integers) (defScope s_is_integers) .none kV_is_integers dc_is_integers pm_is_integers an_is_integers cd_is_integers ct_is_integers), sl_is_integers⟩) (c_is_integers : PySem.W.codeIn K cd_is_integers "is_integers" = true) (k_is_integers : PySem.W.keepIn K (.ref f_is_integers) = true)
    (a_turned_cells : PySem.W.nsIn K mainGlobals "turned_cells" = some (some (.ref f_turned_cells))) (l_turned_cells : K.lookup f_turned_cells = some ⟨oc_turned_cells, od_turned_cells, .func (PySem.W.fnOf "turned_cells" "turned_cells" (defArgs s_turned_cells) (defBody s_turned_cells) (defScope s_turned_cells) .none kV_turned_cells dc_turned_cells pm_turned_cells an_turned_cells cd_turned_cells ct_turned_cells), sl_turned_cells⟩) (c_turned_cells : PySem.W.codeIn K cd_turned_cells "turned_cells" = true) (k_turned_cells : PySem.W.keepIn K (.ref f_turned_cells) = true)
    (a__law_pick : PySem.W.nsIn K mainGlobals "_law_pick" = some (some (.ref f__law_pick))) (l__law_pick : K.lookup f__law_pick = some ⟨oc__law_pick, od__law_pick, .func (PySem.W.fnOf "_law_pick" "_law_pick" (defArgs s__law_pick) (defBody s__law_pick) (defScope s__law_pick) .none kV__law_pick dc__law_pick pm__law_pick an__law_pick cd__law_pick ct__law_pick), sl__law_pick⟩) (c__law_pick : PySem.W.codeIn K cd__law_pick "_law_pick" = true) (k__law_pick : PySem.W.keepIn K (.ref f__law_pick) = true)
    (a__law_covers : PySem.W.nsIn K mainGlobals "_law_covers" = some (some (.ref f__law_covers))) (l__law_covers : K.lookup f__law_covers = some ⟨oc__law_covers, od__law_covers, .func (PySem.W.fnOf "_law_covers" "_law_covers" (defArgs s__law_covers) (defBody s__law_covers) (defScope s__law_covers) .none kV__law_covers dc__law_covers pm__law_covers an__law_covers cd__law_covers ct__law_covers), sl__law_covers⟩) (c__law_covers : PySem.W.codeIn K cd__law_covers "_law_covers" = true) (k__law_covers : PySem.W.keepIn K (.ref f__law_covers) = true)
    (a_is_cells : PySem.W.nsIn K mainGlobals "is_cells" = some (some (.ref f_is_cells))) (l_is_cells : K.lookup f_is_cells = some ⟨oc_is_cells, od_is_cells, .func (PySem.W.fnOf "is_cells" "is_cells" (defArgs s_is_cells) (defBody s_is_cells) (defScope s_is_cells) .none kV_is_cells dc_is_cells pm_is_cells an_is_cells cd_is_cells ct_is_cells), sl_is_cells⟩) (c_is_cells : PySem.W.codeIn K cd_is_cells "is_cells" = true) (k_is_cells : PySem.W.keepIn K (.ref f_is_cells) = true)
    (a_looks : PySem.W.nsIn K mainGlobals "looks" = some (some (.ref f_looks))) (l_looks : K.lookup f_looks = some ⟨oc_looks, od_looks, .func (PySem.W.fnOf "looks" "looks" (defArgs s_looks) (defBody s_looks) (defScope s_looks) .none kV_looks dc_looks pm_looks an_looks cd_looks ct_looks), sl_looks⟩) (c_looks : PySem.W.codeIn K cd_looks "looks" = true) (k_looks : PySem.W.keepIn K (.ref f_looks) = true)
    (a__law_cells : PySem.W.nsIn K mainGlobals "_law_cells" = some (some (.ref f__law_cells))) (l__law_cells : K.lookup f__law_cells = some ⟨oc__law_cells, od__law_cells, .func (PySem.W.fnOf "_law_cells" "_law_cells" (defArgs s__law_cells) (defBody s__law_cells) (defScope s__law_cells) .none kV__law_cells dc__law_cells pm__law_cells an__law_cells cd__law_cells ct__law_cells), sl__law_cells⟩) (c__law_cells : PySem.W.codeIn K cd__law_cells "_law_cells" = true) (k__law_cells : PySem.W.keepIn K (.ref f__law_cells) = true)
    (a__law_cloth : PySem.W.nsIn K mainGlobals "_law_cloth" = some (some (.ref f__law_cloth))) (l__law_cloth : K.lookup f__law_cloth = some ⟨oc__law_cloth, od__law_cloth, .func (PySem.W.fnOf "_law_cloth" "_law_cloth" (defArgs s__law_cloth) (defBody s__law_cloth) (defScope s__law_cloth) .none kV__law_cloth dc__law_cloth pm__law_cloth an__law_cloth cd__law_cloth ct__law_cloth), sl__law_cloth⟩) (c__law_cloth : PySem.W.codeIn K cd__law_cloth "_law_cloth" = true) (k__law_cloth : PySem.W.keepIn K (.ref f__law_cloth) = true)
    (a_is_cloth : PySem.W.nsIn K mainGlobals "is_cloth" = some (some (.ref f_is_cloth))) (l_is_cloth : K.lookup f_is_cloth = some ⟨oc_is_cloth, od_is_cloth, .func (PySem.W.fnOf "is_cloth" "is_cloth" (defArgs s_is_cloth) (defBody s_is_cloth) (defScope s_is_cloth) .none kV_is_cloth dc_is_cloth pm_is_cloth an_is_cloth cd_is_cloth ct_is_cloth), sl_is_cloth⟩) (c_is_cloth : PySem.W.codeIn K cd_is_cloth "is_cloth" = true) (k_is_cloth : PySem.W.keepIn K (.ref f_is_cloth) = true)
    (a_is_piece : PySem.W.nsIn K mainGlobals "is_piece" = some (some (.ref f_is_piece))) (l_is_piece : K.lookup f_is_piece = some ⟨oc_is_piece, od_is_piece, .func (PySem.W.fnOf "is_piece" "is_piece" (defArgs s_is_piece) (defBody s_is_piece) (defScope s_is_piece) .none kV_is_piece dc_is_piece pm_is_piece an_is_piece cd_is_piece ct_is_piece), sl_is_piece⟩) (c_is_piece : PySem.W.codeIn K cd_is_piece "is_piece" = true) (k_is_piece : PySem.W.keepIn K (.ref f_is_piece) = true)
    (a_covers : PySem.W.nsIn K mainGlobals "covers" = some (some (.ref f_covers))) (l_covers : K.lookup f_covers = some ⟨oc_covers, od_covers, .func (PySem.W.fnOf "covers" "covers" (defArgs s_covers) (defBody s_covers) (defScope s_covers) .none kV_covers dc_covers pm_covers an_covers cd_covers ct_covers), sl_covers⟩) (c_covers : PySem.W.codeIn K cd_covers "covers" = true) (k_covers : PySem.W.keepIn K (.ref f_covers) = true)
    (a__law_piece : PySem.W.nsIn K mainGlobals "_law_piece" = some (some (.ref f__law_piece))) (l__law_piece : K.lookup f__law_piece = some ⟨oc__law_piece, od__law_piece, .func (PySem.W.fnOf "_law_piece" "_law_piece" (defArgs s__law_piece) (defBody s__law_piece) (defScope s__law_piece) .none kV__law_piece dc__law_piece pm__law_piece an__law_piece cd__law_piece ct__law_piece), sl__law_piece⟩) (c__law_piece : PySem.W.codeIn K cd__law_piece "_law_piece" = true) (k__law_piece : PySem.W.keepIn K (.ref f__law_piece) = true)
    (a_turned : PySem.W.nsIn K mainGlobals "turned" = some (some (.ref f_turned))) (l_turned : K.lookup f_turned = some ⟨oc_turned, od_turned, .func (PySem.W.fnOf "turned" "turned" (defArgs s_turned) (defBody s_turned) (defScope s_turned) .none kV_turned dc_turned pm_turned an_turned cd_turned ct_turned), sl_turned⟩) (c_turned : PySem.W.codeIn K cd_turned "turned" = true) (k_turned : PySem.W.keepIn K (.ref f_turned) = true)
    (a_places : PySem.W.nsIn K mainGlobals "places" = some (some (.ref f_places))) (l_places : K.lookup f_places = some ⟨oc_places, od_places, .func (PySem.W.fnOf "places" "places" (defArgs s_places) (defBody s_places) (defScope s_places) .none kV_places dc_places pm_places an_places cd_places ct_places), sl_places⟩) (c_places : PySem.W.codeIn K cd_places "places" = true) (k_places : PySem.W.keepIn K (.ref f_places) = true)
    (a__law_case : PySem.W.nsIn K mainGlobals "_law_case" = some (some (.ref f__law_case))) (l__law_case : K.lookup f__law_case = some ⟨oc__law_case, od__law_case, .func (PySem.W.fnOf "_law_case" "_law_case" (defArgs s__law_case) (defBody s__law_case) (defScope s__law_case) .none kV__law_case dc__law_case pm__law_case an__law_case (.ref c0) ct__law_case), sl__law_case⟩) (c__law_case : PySem.W.codeIn K (.ref c0) "_law_case" = true) (k__law_case : PySem.W.keepIn K (.ref f__law_case) = true)
    (a_law : PySem.W.nsIn K mainGlobals "law" = some (some (.ref f_law))) (l_law : K.lookup f_law = some ⟨oc_law, od_law, .func (PySem.W.fnOf "law" "law" (defArgs s_law) (defBody s_law) (defScope s_law) .none kV_law dc_law pm_law an_law cd_law ct_law), sl_law⟩) (c_law : PySem.W.codeIn K cd_law "law" = true) (k_law : PySem.W.keepIn K (.ref f_law) = true)
    {p0_QUARTERS : Addr} {d0_QUARTERS : Option Addr} {n0_QUARTERS : Nat} {s0_QUARTERS : Array (Option Value)} {k0_QUARTERS : Tok} {t0_0_QUARTERS : Tok}
    {p1_QUARTERS : Addr} {d1_QUARTERS : Option Addr} {n1_QUARTERS : Nat} {s1_QUARTERS : Array (Option Value)} {k1_QUARTERS : Tok} {t1_0_QUARTERS : Tok} {t1_1_QUARTERS : Tok}
    {p2_QUARTERS : Addr} {d2_QUARTERS : Option Addr} {n2_QUARTERS : Nat} {s2_QUARTERS : Array (Option Value)} {k2_QUARTERS : Tok} {t2_0_QUARTERS : Tok} {t2_1_QUARTERS : Tok} {t2_2_QUARTERS : Tok} {t2_3_QUARTERS : Tok}
    {a_QUARTERS : Addr} {n_QUARTERS : Nat} (v_QUARTERS : PySem.W.nsIn K mainGlobals "QUARTERS" = some (some (.ref a_QUARTERS))) (l_QUARTERS : K.lookup a_QUARTERS = some ⟨.type "dict", none, .dict #[⟨1, .int 1 k0_QUARTERS, .ref p0_QUARTERS⟩, ⟨2, .int 2 k1_QUARTERS, .ref p1_QUARTERS⟩, ⟨4, .int 4 k2_QUARTERS, .ref p2_QUARTERS⟩] n_QUARTERS, #[]⟩)
    (m0_QUARTERS : K.lookup p0_QUARTERS = some ⟨.type "tuple", d0_QUARTERS, .seq #[.int (0) t0_0_QUARTERS] n0_QUARTERS, s0_QUARTERS⟩)
    (m1_QUARTERS : K.lookup p1_QUARTERS = some ⟨.type "tuple", d1_QUARTERS, .seq #[.int (0) t1_0_QUARTERS, .int (2) t1_1_QUARTERS] n1_QUARTERS, s1_QUARTERS⟩)
    (m2_QUARTERS : K.lookup p2_QUARTERS = some ⟨.type "tuple", d2_QUARTERS, .seq #[.int (0) t2_0_QUARTERS, .int (1) t2_1_QUARTERS, .int (2) t2_2_QUARTERS, .int (3) t2_3_QUARTERS] n2_QUARTERS, s2_QUARTERS⟩)
    {t_MOST_CELLS : Tok} (v_MOST_CELLS : PySem.W.nsIn K mainGlobals "MOST_CELLS" = some (some (.int (5) t_MOST_CELLS)))
    {t_MOST_HOLES : Tok} (v_MOST_HOLES : PySem.W.nsIn K mainGlobals "MOST_HOLES" = some (some (.int (10) t_MOST_HOLES)))
    {t_MOST_LENGTH : Tok} (v_MOST_LENGTH : PySem.W.nsIn K mainGlobals "MOST_LENGTH" = some (some (.int (8) t_MOST_LENGTH)))
    {t_MOST_PERIOD : Tok} (v_MOST_PERIOD : PySem.W.nsIn K mainGlobals "MOST_PERIOD" = some (some (.int (4) t_MOST_PERIOD)))
    {t_MOST_WIDTH : Tok} (v_MOST_WIDTH : PySem.W.nsIn K mainGlobals "MOST_WIDTH" = some (some (.int (5) t_MOST_WIDTH)))
    (y_len : PySem.W.nsIn K mainGlobals "len" = some none)
    (y_all : PySem.W.nsIn K mainGlobals "all" = some none)
    (y_any : PySem.W.nsIn K mainGlobals "any" = some none)
    (y_sum : PySem.W.nsIn K mainGlobals "sum" = some none)
    (y_max : PySem.W.nsIn K mainGlobals "max" = some none)
    (y_min : PySem.W.nsIn K mainGlobals "min" = some none)
    (y_abs : PySem.W.nsIn K mainGlobals "abs" = some none)
    (y_int : PySem.W.nsIn K mainGlobals "int" = some none)
    (y_bool : PySem.W.nsIn K mainGlobals "bool" = some none)
    (y_str : PySem.W.nsIn K mainGlobals "str" = some none)
    (y_tuple : PySem.W.nsIn K mainGlobals "tuple" = some none)
    (y_list : PySem.W.nsIn K mainGlobals "list" = some none)
    (y_sorted : PySem.W.nsIn K mainGlobals "sorted" = some none)
    (y_isinstance : PySem.W.nsIn K mainGlobals "isinstance" = some none)
    (y_range : PySem.W.nsIn K mainGlobals "range" = some none)
    (y_enumerate : PySem.W.nsIn K mainGlobals "enumerate" = some none)
    (y_zip : PySem.W.nsIn K mainGlobals "zip" = some none)
    (y_set : PySem.W.nsIn K mainGlobals "set" = some none)
    {Pt : Addr} (hT : h.get? Pt = some (PySem.W.tabObj #[])) (nT : K.lookup Pt = none) (hcd : PySem.W.codeHdIn K c0 Pt = true)
    : LamX.LawAtS l w K (L2.CX l.prog w) 9 63 "script" mg fa h := by
  have e := hfa.symm.trans (PySem.W.mg_of X G a_law)
  cases e
  have blt : ∀ x ∈ bltNames, mg x = none := by
    intro x hx
    unfold bltNames at hx
    simp only [List.mem_cons, List.not_mem_nil, or_false] at hx
    rcases hx with rfl | rfl | rfl | rfl | rfl | rfl | rfl | rfl | rfl | rfl | rfl | rfl | rfl | rfl | rfl | rfl | rfl | rfl
    · exact PySem.W.mg_none_of X G y_len
    · exact PySem.W.mg_none_of X G y_all
    · exact PySem.W.mg_none_of X G y_any
    · exact PySem.W.mg_none_of X G y_sum
    · exact PySem.W.mg_none_of X G y_max
    · exact PySem.W.mg_none_of X G y_min
    · exact PySem.W.mg_none_of X G y_abs
    · exact PySem.W.mg_none_of X G y_int
    · exact PySem.W.mg_none_of X G y_bool
    · exact PySem.W.mg_none_of X G y_str
    · exact PySem.W.mg_none_of X G y_tuple
    · exact PySem.W.mg_none_of X G y_list
    · exact PySem.W.mg_none_of X G y_sorted
    · exact PySem.W.mg_none_of X G y_isinstance
    · exact PySem.W.mg_none_of X G y_range
    · exact PySem.W.mg_none_of X G y_enumerate
    · exact PySem.W.mg_none_of X G y_zip
    · exact PySem.W.mg_none_of X G y_set
  have T : ErrTxt K mg C f_init := ⟨PySem.W.mg_of X G aC, ⟨⟨nm, qn, NC, bs, _, sn, sub, ab, col, dd, m0, m1, m2, m3, m5, xL, by decide +kernel⟩, sa, eC, tC, kC⟩, xfB_ok xfC, nb, iC, tI, exm_own eC icC tC sC⟩
  have F_init := fun_mk (st := s_init) l_init c_init k_init
  have F_demand := fun_mk (st := s_demand) l_demand c_demand k_demand
  have F__law_taken := fun_mk (st := s__law_taken) l__law_taken c__law_taken k__law_taken
  have F__law_refused := fun_mk (st := s__law_refused) l__law_refused c__law_refused k__law_refused
  have F__law_alike := fun_mk (st := s__law_alike) l__law_alike c__law_alike k__law_alike
  have F_is_integer := fun_mk (st := s_is_integer) l_is_integer c_is_integer k_is_integer
  have F_is_tuple := fun_mk (st := s_is_tuple) l_is_tuple c_is_tuple k_is_tuple
  have F_is_rising := fun_mk (st := s_is_rising) l_is_rising c_is_rising k_is_rising
  have F_quarter_turn := fun_mk (st := s_quarter_turn) l_quarter_turn c_quarter_turn k_quarter_turn
  have F_is_free := fun_mk (st := s_is_free) l_is_free c_is_free k_is_free
  have F__law_turned := fun_mk (st := s__law_turned) l__law_turned c__law_turned k__law_turned
  have F_is_integers := fun_mk (st := s_is_integers) l_is_integers c_is_integers k_is_integers
  have F_turned_cells := fun_mk (st := s_turned_cells) l_turned_cells c_turned_cells k_turned_cells
  have F__law_pick := fun_mk (st := s__law_pick) l__law_pick c__law_pick k__law_pick
  have F__law_covers := fun_mk (st := s__law_covers) l__law_covers c__law_covers k__law_covers
  have F_is_cells := fun_mk (st := s_is_cells) l_is_cells c_is_cells k_is_cells
  have F_looks := fun_mk (st := s_looks) l_looks c_looks k_looks
  have F__law_cells := fun_mk (st := s__law_cells) l__law_cells c__law_cells k__law_cells
  have F__law_cloth := fun_mk (st := s__law_cloth) l__law_cloth c__law_cloth k__law_cloth
  have F_is_cloth := fun_mk (st := s_is_cloth) l_is_cloth c_is_cloth k_is_cloth
  have F_is_piece := fun_mk (st := s_is_piece) l_is_piece c_is_piece k_is_piece
  have F_covers := fun_mk (st := s_covers) l_covers c_covers k_covers
  have F__law_piece := fun_mk (st := s__law_piece) l__law_piece c__law_piece k__law_piece
  have F_turned := fun_mk (st := s_turned) l_turned c_turned k_turned
  have F_places := fun_mk (st := s_places) l_places c_places k_places
  have F__law_case := fun_mk (st := s__law_case) l__law_case c__law_case k__law_case
  have F_law := fun_mk (st := s_law) l_law c_law k_law
  have b_init := F_init.binds (ps := ["self", "name"]) fun _ _ _ _ _ _ us hl => by obtain ⟨a, b, rfl⟩ := len2 hl; rfl
  have b_demand := F_demand.binds (ps := ["is_right", "name"]) fun _ _ _ _ _ _ us hl => by obtain ⟨a, b, rfl⟩ := len2 hl; rfl
  have b__law_taken := F__law_taken.binds (ps := ["row", "many"]) fun _ _ _ _ _ _ us hl => by obtain ⟨a, b, rfl⟩ := len2 hl; rfl
  have b__law_refused := F__law_refused.binds (ps := ["call"]) fun _ _ _ _ _ _ us hl => by obtain ⟨a, rfl⟩ := len1 hl; rfl
  have b__law_alike := F__law_alike.binds (ps := ["found", "due"]) fun _ _ _ _ _ _ us hl => by obtain ⟨a, b, rfl⟩ := len2 hl; rfl
  have b_is_integer := F_is_integer.binds (ps := ["value", "least", "most"]) fun _ _ _ _ _ _ us hl => by obtain ⟨a, b, c, rfl⟩ := len3 hl; rfl
  have b_is_tuple := F_is_tuple.binds (ps := ["value", "least", "most"]) fun _ _ _ _ _ _ us hl => by obtain ⟨a, b, c, rfl⟩ := len3 hl; rfl
  have b_is_rising := F_is_rising.binds (ps := ["things"]) fun _ _ _ _ _ _ us hl => by obtain ⟨a, rfl⟩ := len1 hl; rfl
  have b_quarter_turn := F_quarter_turn.binds (ps := ["cells"]) fun _ _ _ _ _ _ us hl => by obtain ⟨a, rfl⟩ := len1 hl; rfl
  have b_is_free := F_is_free.binds (ps := ["cloth", "cell"]) fun _ _ _ _ _ _ us hl => by obtain ⟨a, b, rfl⟩ := len2 hl; rfl
  have b__law_turned := F__law_turned.binds (ps := ["cells", "quarters"]) fun _ _ _ _ _ _ us hl => by obtain ⟨a, b, rfl⟩ := len2 hl; rfl
  have b_is_integers := F_is_integers.binds (ps := ["value", "many", "least", "most"]) fun _ _ _ _ _ _ us hl => by obtain ⟨a, b, c, d, rfl⟩ := len4 hl; rfl
  have b_turned_cells := F_turned_cells.binds (ps := ["cells", "quarters"]) fun _ _ _ _ _ _ us hl => by obtain ⟨a, b, rfl⟩ := len2 hl; rfl
  have b__law_pick := F__law_pick.binds (ps := ["row", "some"]) fun _ _ _ _ _ _ us hl => by obtain ⟨a, b, rfl⟩ := len2 hl; rfl
  have b__law_covers := F__law_covers.binds (ps := ["cloth", "piece"]) fun _ _ _ _ _ _ us hl => by obtain ⟨a, b, rfl⟩ := len2 hl; rfl
  have b_is_cells := F_is_cells.binds (ps := ["value", "least", "most"]) fun _ _ _ _ _ _ us hl => by obtain ⟨a, b, c, rfl⟩ := len3 hl; rfl
  have b_looks := F_looks.binds (ps := ["piece"]) fun _ _ _ _ _ _ us hl => by obtain ⟨a, rfl⟩ := len1 hl; rfl
  have b__law_cells := F__law_cells.binds (ps := ["row", "most"]) fun _ _ _ _ _ _ us hl => by obtain ⟨a, b, rfl⟩ := len2 hl; rfl
  have b__law_cloth := F__law_cloth.binds (ps := ["row", "wide", "long"]) fun _ _ _ _ _ _ us hl => by obtain ⟨a, b, c, rfl⟩ := len3 hl; rfl
  have b_is_cloth := F_is_cloth.binds (ps := ["value"]) fun _ _ _ _ _ _ us hl => by obtain ⟨a, rfl⟩ := len1 hl; rfl
  have b_is_piece := F_is_piece.binds (ps := ["value"]) fun _ _ _ _ _ _ us hl => by obtain ⟨a, rfl⟩ := len1 hl; rfl
  have b_covers := F_covers.binds (ps := ["cloth", "piece"]) fun _ _ _ _ _ _ us hl => by obtain ⟨a, b, rfl⟩ := len2 hl; rfl
  have b__law_piece := F__law_piece.binds (ps := ["row", "most"]) fun _ _ _ _ _ _ us hl => by obtain ⟨a, b, rfl⟩ := len2 hl; rfl
  have b_turned := F_turned.binds (ps := ["piece", "quarters"]) fun _ _ _ _ _ _ us hl => by obtain ⟨a, b, rfl⟩ := len2 hl; rfl
  have b_places := F_places.binds (ps := ["cloth", "piece"]) fun _ _ _ _ _ _ us hl => by obtain ⟨a, b, rfl⟩ := len2 hl; rfl
  have b__law_case := F__law_case.binds (ps := ["row"]) fun _ _ _ _ _ _ us hl => by obtain ⟨a, rfl⟩ := len1 hl; rfl
  refine ⟨PySem.W.fnOf "law" "law" (defArgs s_law) (defBody s_law) (defScope s_law) .none kV_law dc_law pm_law an_law cd_law ct_law, [(c0, Pt)], spLaw K [(Pt, ("_law_case.<locals>.<lambda>" : Str))], ?_, ?_, ?_, fun s u => .of_eq rfl, ?_, fun base KB GB TB => ?_⟩
  · intro p hp; cases List.mem_singleton.mp hp; exact hT
  · intro p hp; cases List.mem_singleton.mp hp; exact nT
  · intro p hp; cases List.mem_singleton.mp hp; exact PySem.W.codeHd_of_K X hcd
  · intro H a ns hl hb ht hs
    refine ⟨a, ns, rfl, hl, hb, hs, fun p hp => ?_, fun _ => rfl⟩
    cases List.mem_singleton.mp hp
    exact ⟨#[], ht _ List.mem_cons_self, trivial, fun pos cv z => by cases z⟩
  have hcase : ∀ W : Wd, W.K = K → W.mg = mg → W.T = [(Pt, ("_law_case.<locals>.<lambda>" : Str))] → FnAt l.prog w K mg base 8 W "_law_case" sgCase := fun W w1 w2 w3 => by
    have B : Bas K mg W := ⟨w1.symm, w2.symm, blt⟩
    have n_demand : FnAt l.prog w K mg base 3 W "demand" sgDemand := fnAt (ok_demand (m := 2) (j := 1) (k := 0) (Γ := gm [] []) B.hmg B.hK (B.glb (l := []) (c := []) trivial trivial) F_demand sc_demand T (ok_init F_init T sc_init 0 rfl) b_init rfl rfl (by decide) (by decide)) (PySem.W.mg_of X G a_demand) k_demand b_demand (fun ks z => by cases z)
    have n__law_taken : FnAt l.prog w K mg base 1 W "_law_taken" sgTaken := fnAt (ok_taken (m := 0) B.hmg B.hK F__law_taken sc__law_taken rfl rfl rfl rfl (blt _ (by decide)) (blt _ (by decide)) rfl) (PySem.W.mg_of X G a__law_taken) k__law_taken b__law_taken (fun ks z => by cases z)
    have n__law_alike : FnAt l.prog w K mg base 5 W "_law_alike" (sgAlike 4) := ok_alike B.hK B.hmg blt F__law_alike sc__law_alike ck__law_alike (PySem.W.mg_of X G a__law_alike) k__law_alike b__law_alike 4
    have q_MOST_CELLS : ConAt mg W "MOST_CELLS" (.int (5)) := con_int (PySem.W.mg_of X G v_MOST_CELLS)
    have q_MOST_HOLES : ConAt mg W "MOST_HOLES" (.int (10)) := con_int (PySem.W.mg_of X G v_MOST_HOLES)
    have q_MOST_LENGTH : ConAt mg W "MOST_LENGTH" (.int (8)) := con_int (PySem.W.mg_of X G v_MOST_LENGTH)
    have q_MOST_PERIOD : ConAt mg W "MOST_PERIOD" (.int (4)) := con_int (PySem.W.mg_of X G v_MOST_PERIOD)
    have q_MOST_WIDTH : ConAt mg W "MOST_WIDTH" (.int (5)) := con_int (PySem.W.mg_of X G v_MOST_WIDTH)
    have q_QUARTERS : DConAt K mg "QUARTERS" [(1, [0]), (2, [0, 2]), (4, [0, 1, 2, 3])] := dcon_of (PySem.W.mg_of X G v_QUARTERS) l_QUARTERS ⟨⟨⟨_, rfl⟩, rfl, _, rfl, tup_K (ns := [0]) m0_QUARTERS (by simp) (by repeat (first | exact .nil | refine .cons ⟨_, rfl⟩ ?_))⟩, ⟨⟨_, rfl⟩, rfl, _, rfl, tup_K (ns := [0, 2]) m1_QUARTERS (by simp) (by repeat (first | exact .nil | refine .cons ⟨_, rfl⟩ ?_))⟩, ⟨⟨_, rfl⟩, rfl, _, rfl, tup_K (ns := [0, 1, 2, 3]) m2_QUARTERS (by simp) (by repeat (first | exact .nil | refine .cons ⟨_, rfl⟩ ?_))⟩, trivial⟩
    have n_is_integer : FnAt l.prog w K mg base 1 W "is_integer" sg_is_integer := ok_is_integer B   F_is_integer (PySem.W.mg_of X G a_is_integer) k_is_integer b_is_integer (fun ks z => by cases z)
    have n_is_tuple : FnAt l.prog w K mg base 1 W "is_tuple" sg_is_tuple := ok_is_tuple B   F_is_tuple (PySem.W.mg_of X G a_is_tuple) k_is_tuple b_is_tuple (fun ks z => by cases z)
    have n_is_rising : FnAt l.prog w K mg base 1 W "is_rising" sg_is_rising := ok_is_rising B   F_is_rising (PySem.W.mg_of X G a_is_rising) k_is_rising b_is_rising (fun ks z => by cases z)
    have n_quarter_turn : FnAt l.prog w K mg base 1 W "quarter_turn" sg_quarter_turn := ok_quarter_turn B   F_quarter_turn (PySem.W.mg_of X G a_quarter_turn) k_quarter_turn b_quarter_turn (fun ks z => by cases z)
    have n_is_free : FnAt l.prog w K mg base 1 W "is_free" sg_is_free := ok_is_free B   F_is_free (PySem.W.mg_of X G a_is_free) k_is_free b_is_free (fun ks z => by cases z)
    have n__law_turned : FnAt l.prog w K mg base 1 W "_law_turned" sg__law_turned := ok__law_turned B   F__law_turned (PySem.W.mg_of X G a__law_turned) k__law_turned b__law_turned (fun ks z => by cases z)
    have n_is_integers : FnAt l.prog w K mg base 2 W "is_integers" sg_is_integers := ok_is_integers B n_is_integer  F_is_integers (PySem.W.mg_of X G a_is_integers) k_is_integers b_is_integers (fun ks z => by cases z)
    have n_turned_cells : FnAt l.prog w K mg base 2 W "turned_cells" sg_turned_cells := ok_turned_cells B n_quarter_turn  F_turned_cells (PySem.W.mg_of X G a_turned_cells) k_turned_cells b_turned_cells (fun ks z => by cases z)
    have n__law_pick : FnAt l.prog w K mg base 2 W "_law_pick" sgPick := ok__law_pick B n__law_taken  F__law_pick (PySem.W.mg_of X G a__law_pick) k__law_pick b__law_pick (fun ks z => by cases z)
    have n__law_covers : FnAt l.prog w K mg base 2 W "_law_covers" sg__law_covers := ok__law_covers B n__law_turned  F__law_covers (PySem.W.mg_of X G a__law_covers) k__law_covers b__law_covers (fun ks z => by cases z)
    have n_is_cells : FnAt l.prog w K mg base 3 W "is_cells" sg_is_cells := ok_is_cells B n_is_rising n_is_tuple n_is_integers q_MOST_LENGTH F_is_cells (PySem.W.mg_of X G a_is_cells) k_is_cells b_is_cells (fun ks z => by cases z)
    have n_looks : FnAt l.prog w K mg base 3 W "looks" sg_looks := ok_looks B n_turned_cells q_QUARTERS F_looks (PySem.W.mg_of X G a_looks) k_looks b_looks (fun ks z => by cases z)
    have n__law_cells : FnAt l.prog w K mg base 3 W "_law_cells" sg__law_cells := ok__law_cells B n__law_taken n__law_pick  F__law_cells (PySem.W.mg_of X G a__law_cells) k__law_cells b__law_cells (fun ks z => by cases z)
    have n__law_cloth : FnAt l.prog w K mg base 3 W "_law_cloth" sg__law_cloth := ok__law_cloth B n__law_taken n__law_pick  F__law_cloth (PySem.W.mg_of X G a__law_cloth) k__law_cloth b__law_cloth (fun ks z => by cases z)
    have n_is_cloth : FnAt l.prog w K mg base 4 W "is_cloth" sg_is_cloth := ok_is_cloth B n_is_cells n_is_tuple n_is_integer q_MOST_HOLES q_MOST_WIDTH q_MOST_LENGTH F_is_cloth (PySem.W.mg_of X G a_is_cloth) k_is_cloth b_is_cloth (fun ks z => by cases z)
    have n_is_piece : FnAt l.prog w K mg base 4 W "is_piece" sg_is_piece := ok_is_piece B n_is_integer n_is_tuple n_is_cells q_MOST_CELLS q_MOST_PERIOD F_is_piece (PySem.W.mg_of X G a_is_piece) k_is_piece b_is_piece (fun ks z => by cases List.mem_singleton.mp z; exact kb_of (m := 0) rfl (by decide) (fun us ws hu hw => by have := len0 hu; subst this; obtain ⟨w, rfl⟩ := len1 hw; rfl))
    have n_covers : FnAt l.prog w K mg base 4 W "covers" sg_covers := ok_covers B n_looks n_is_free  F_covers (PySem.W.mg_of X G a_covers) k_covers b_covers (fun ks z => by cases z)
    have n__law_piece : FnAt l.prog w K mg base 4 W "_law_piece" sg__law_piece := ok__law_piece B n__law_pick n__law_cells n__law_taken  F__law_piece (PySem.W.mg_of X G a__law_piece) k__law_piece b__law_piece (fun ks z => by cases z)
    have n_turned : FnAt l.prog w K mg base 5 W "turned" sg_turned := ok_turned B n_demand n_turned_cells n_is_piece n_is_integer  F_turned (PySem.W.mg_of X G a_turned) k_turned b_turned (fun ks z => by cases List.mem_singleton.mp z; exact kb_of (m := 1) rfl (by decide) (fun us ws hu hw => by obtain ⟨a, rfl⟩ := len1 hu; obtain ⟨w, rfl⟩ := len1 hw; rfl))
    have n_places : FnAt l.prog w K mg base 5 W "places" sg_places := ok_places B n_demand n_is_cloth n_is_piece n_covers  F_places (PySem.W.mg_of X G a_places) k_places b_places (fun ks z => by cases z)
    have n__law_case : FnAt l.prog w K mg base 8 W "_law_case" sgCase := ok__law_case B n__law_pick n__law_cloth n__law_piece n__law_alike n_is_cloth n_is_piece n_places n_turned n__law_turned n__law_covers  l__law_case c__law_case (fun A outer s H E => ⟨c0, Pt, f__law_refused, C, _, _, _, _, _, _, _, _, _, _, _, _, _, rfl, TB _ List.mem_cons_self, by rw [w3]; exact List.mem_cons_self, fun p hp _ => by rw [w3] at hp; cases List.mem_singleton.mp hp; rfl, PySem.W.mg_of X G a__law_refused, k__law_refused, l__law_refused, c__law_refused, b__law_refused, sc__law_refused, T.gC, refused_gives (W := W) w1.symm w2.symm T rfl rfl⟩) (PySem.W.mg_of X G a__law_case) k__law_case b__law_case
    exact n__law_case
  exact ok_law (n := 6) (k := 8) (m := 8) (by decide) (by decide) blt F_law sc_law rfl rfl (by decide +kernel) (by decide) (by decide) hcase (Nat.le_refl _)
end Dl
open PySem PySem.W PyProof.Rows
set_option maxHeartbeats 0 in
theorem PySem.Challenge.cw_clothlay_k17_whole_places_of_pieces_holds : PySem.Challenge.rw_clothlay_k17_whole_places_of_pieces.Holds := by
  w_on; o_law; k_head; (case hw => w_witness2)
  k_fill
  refine LamX.walk_ofTs (l := PySem.Challenge.rw_clothlay_k17_whole_places_of_pieces) (n := 63) (k := 9) (x := "script") (CX := fun w => L2.CX (PySem.Challenge.rw_clothlay_k17_whole_places_of_pieces).prog w) rfl (by decide) rfl ⟨rfl, by decide, by decide⟩ (fun w h Y => PySem.W.km_in_of Y) ?F (fun _ _ _ _ _ h => Dl.no_exc h)
  case F =>
    intro w mg fa h Y KX G hmg
    refine' Dl.all_mk (Pt := 182) KX G hmg ?aC ?xL ?sa ?nb ?iC ?tI ?kC ?eC ?tC ?xfC ?icC ?sC ?l_init ?c_init ?k_init ?a_demand ?l_demand ?c_demand ?k_demand ?a__law_taken ?l__law_taken ?c__law_taken ?k__law_taken ?a__law_refused ?l__law_refused ?c__law_refused ?k__law_refused ?a__law_alike ?l__law_alike ?c__law_alike ?k__law_alike ?a_is_integer ?l_is_integer ?c_is_integer ?k_is_integer ?a_is_tuple ?l_is_tuple ?c_is_tuple ?k_is_tuple ?a_is_rising ?l_is_rising ?c_is_rising ?k_is_rising ?a_quarter_turn ?l_quarter_turn ?c_quarter_turn ?k_quarter_turn ?a_is_free ?l_is_free ?c_is_free ?k_is_free ?a__law_turned ?l__law_turned ?c__law_turned ?k__law_turned ?a_is_integers ?l_is_integers ?c_is_integers ?k_is_integers ?a_turned_cells ?l_turned_cells ?c_turned_cells ?k_turned_cells ?a__law_pick ?l__law_pick ?c__law_pick ?k__law_pick ?a__law_covers ?l__law_covers ?c__law_covers ?k__law_covers ?a_is_cells ?l_is_cells ?c_is_cells ?k_is_cells ?a_looks ?l_looks ?c_looks ?k_looks ?a__law_cells ?l__law_cells ?c__law_cells ?k__law_cells ?a__law_cloth ?l__law_cloth ?c__law_cloth ?k__law_cloth ?a_is_cloth ?l_is_cloth ?c_is_cloth ?k_is_cloth ?a_is_piece ?l_is_piece ?c_is_piece ?k_is_piece ?a_covers ?l_covers ?c_covers ?k_covers ?a__law_piece ?l__law_piece ?c__law_piece ?k__law_piece ?a_turned ?l_turned ?c_turned ?k_turned ?a_places ?l_places ?c_places ?k_places ?a__law_case ?l__law_case ?c__law_case ?k__law_case ?a_law ?l_law ?c_law ?k_law ?v_QUARTERS ?l_QUARTERS ?m0_QUARTERS ?m1_QUARTERS ?m2_QUARTERS ?v_MOST_CELLS ?v_MOST_HOLES ?v_MOST_LENGTH ?v_MOST_PERIOD ?v_MOST_WIDTH ?y_len ?y_all ?y_any ?y_sum ?y_max ?y_min ?y_abs ?y_int ?y_bool ?y_str ?y_tuple ?y_list ?y_sorted ?y_isinstance ?y_range ?y_enumerate ?y_zip ?y_set (PySem.W.km_tabs_of Y _ (by simp)) ?nT ?hcd
    (case aC => k_is)
    (case xL => k_is)
    (case sa => k_is)
    (case nb => k_is)
    (case iC => k_is)
    (case tI => k_is)
    (case kC => k_is)
    (case eC => k_is)
    (case tC => k_is)
    (case xfC => first | rfl | k_is)
    (case icC => k_is)
    (case sC => first | rfl | k_is)
    (case l_init => k_is)
    (case c_init => k_is)
    (case k_init => k_is)
    (case a_demand => k_is)
    (case l_demand => k_is)
    (case c_demand => k_is)
    (case k_demand => k_is)
    (case a__law_taken => k_is)
    (case l__law_taken => k_is)
    (case c__law_taken => k_is)
    (case k__law_taken => k_is)
    (case a__law_refused => k_is)
    (case l__law_refused => k_is)
    (case c__law_refused => k_is)
    (case k__law_refused => k_is)
    (case a__law_alike => k_is)
    (case l__law_alike => k_is)
    (case c__law_alike => k_is)
    (case k__law_alike => k_is)
    (case a_is_integer => k_is)
    (case l_is_integer => k_is)
    (case c_is_integer => k_is)
    (case k_is_integer => k_is)
    (case a_is_tuple => k_is)
    (case l_is_tuple => k_is)
    (case c_is_tuple => k_is)
    (case k_is_tuple => k_is)
    (case a_is_rising => k_is)
    (case l_is_rising => k_is)
    (case c_is_rising => k_is)
    (case k_is_rising => k_is)
    (case a_quarter_turn => k_is)
    (case l_quarter_turn => k_is)
    (case c_quarter_turn => k_is)
    (case k_quarter_turn => k_is)
    (case a_is_free => k_is)
    (case l_is_free => k_is)
    (case c_is_free => k_is)
    (case k_is_free => k_is)
    (case a__law_turned => k_is)
    (case l__law_turned => k_is)
    (case c__law_turned => k_is)
    (case k__law_turned => k_is)
    (case a_is_integers => k_is)
    (case l_is_integers => k_is)
    (case c_is_integers => k_is)
    (case k_is_integers => k_is)
    (case a_turned_cells => k_is)
    (case l_turned_cells => k_is)
    (case c_turned_cells => k_is)
    (case k_turned_cells => k_is)
    (case a__law_pick => k_is)
    (case l__law_pick => k_is)
    (case c__law_pick => k_is)
    (case k__law_pick => k_is)
    (case a__law_covers => k_is)
    (case l__law_covers => k_is)
    (case c__law_covers => k_is)
    (case k__law_covers => k_is)
    (case a_is_cells => k_is)
    (case l_is_cells => k_is)
    (case c_is_cells => k_is)
    (case k_is_cells => k_is)
    (case a_looks => k_is)
    (case l_looks => k_is)
    (case c_looks => k_is)
    (case k_looks => k_is)
    (case a__law_cells => k_is)
    (case l__law_cells => k_is)
    (case c__law_cells => k_is)
    (case k__law_cells => k_is)
    (case a__law_cloth => k_is)
    (case l__law_cloth => k_is)
    (case c__law_cloth => k_is)
    (case k__law_cloth => k_is)
    (case a_is_cloth => k_is)
    (case l_is_cloth => k_is)
    (case c_is_cloth => k_is)
    (case k_is_cloth => k_is)
    (case a_is_piece => k_is)
    (case l_is_piece => k_is)
    (case c_is_piece => k_is)
    (case k_is_piece => k_is)
    (case a_covers => k_is)
    (case l_covers => k_is)
    (case c_covers => k_is)
    (case k_covers => k_is)
    (case a__law_piece => k_is)
    (case l__law_piece => k_is)
    (case c__law_piece => k_is)
    (case k__law_piece => k_is)
    (case a_turned => k_is)
    (case l_turned => k_is)
    (case c_turned => k_is)
    (case k_turned => k_is)
    (case a_places => k_is)
    (case l_places => k_is)
    (case c_places => k_is)
    (case k_places => k_is)
    (case a__law_case => k_is)
    (case l__law_case => k_is)
    (case c__law_case => k_is)
    (case k__law_case => k_is)
    (case a_law => k_is)
    (case l_law => k_is)
    (case c_law => k_is)
    (case k_law => k_is)
    (case v_QUARTERS => k_is)
    (case l_QUARTERS => k_is)
    (case m0_QUARTERS => k_is)
    (case m1_QUARTERS => k_is)
    (case m2_QUARTERS => k_is)
    (case v_MOST_CELLS => k_is)
    (case v_MOST_HOLES => k_is)
    (case v_MOST_LENGTH => k_is)
    (case v_MOST_PERIOD => k_is)
    (case v_MOST_WIDTH => k_is)
    (case y_len => k_is)
    (case y_all => k_is)
    (case y_any => k_is)
    (case y_sum => k_is)
    (case y_max => k_is)
    (case y_min => k_is)
    (case y_abs => k_is)
    (case y_int => k_is)
    (case y_bool => k_is)
    (case y_str => k_is)
    (case y_tuple => k_is)
    (case y_list => k_is)
    (case y_sorted => k_is)
    (case y_isinstance => k_is)
    (case y_range => k_is)
    (case y_enumerate => k_is)
    (case y_zip => k_is)
    (case y_set => k_is)
    (case nT => first | rfl | k_is)
    (case hcd => first | rfl | k_is)
